import PyProof.Rows.All
import Wide.All
import OpenK.AllK
import Wide.FinOn
import HandS.ForMost
import HandS.Exc
import HandS.ExcOwn
import HandS.TryOnly
import HandS.WordsExc
import HandS.CallSlots
import HandS.IsInst
import HandS.Deep
import HandS.Defaults
import HandS.Zip
import HandS.Conv
import HandS.Strs
import HandS.Style
import HandS.NoneIn
import HandS.Lambda
import HandS.TryMany
import HandS.ExcInit
import HandS.ExcField
import HandS.EndTab
import KE.KeyNested
import KE.GoesNew
import HandS.TupMul
import HandS.Small
import HandS.DictComp
import KE.SortData
import HandS.SortRule
import KE.KDictZip
import HandS.HeadHook4
import HandS.HeadWalk
import HandS.DictTup
import HandS.ExcValue
import KE.KDictSum
import PyProof.ReprRoads
import PyProof.ReprLen
import PyProof.FitsInt
import PyProof.StrBlock2
import PyProof.CallFns
import KE.GoesNewDict
import HandS.TupAny
import KE.DatumOrd
import HandS.Iter
import HandS.Nested
import KE.SortKeyHeap
import KE.KSortKey
import HandS.SortKw
import PyProof.SumWalk
import HandS.FltList
import HandS.IterVal
import HandS.Base
import HandS.Call
import HandS.Ends
import HandS.More
import HandS.Words
import HandS.Head0
import HandS.Head1
import HandS.Head2
import HandS.HeadEnd
import HandS.HeadHook1
import HandS.HeadHook2
import PySem.Challenge.RW_patchlots_k81_whole_next_ones_asked
set_option Elab.async false
set_option linter.all false
set_option maxRecDepth 100000
set_option maxHeartbeats 4000000
namespace DL
open PySem L2
/-- plain data -/
inductive D where
  | non | bl (b : Bool) | int (i : Int) | str (x : Str) | ty (n : String)
  | tup (ds : List D) | lst (ds : List D) | dct (t : Bool) (ks vs : List D) | ins (C : Addr) (ns : List Str) (vs : List D) | stm | fn (a : Addr) (n : Str) | mem (d : D)
mutual
def D.beq : D → D → Bool
  | .non, .non => true
  | .bl a, .bl b => a == b
  | .int a, .int b => a == b
  | .str a, .str b => a == b
  | .ty a, .ty b => a == b
  | .tup a, .tup b => D.beqs a b
  | .lst a, .lst b => D.beqs a b
  | .dct s a c, .dct t b d => (s == t) && (D.beqs a b && D.beqs c d)
  | .ins a m c, .ins b n d => decide (a = b) && decide (m = n) && D.beqs c d
  | .stm, .stm => true
  | .fn a m, .fn b n => decide (a = b) && decide (m = n)
  | .mem a, .mem b => D.beq a b
  | _, _ => false
def D.beqs : List D → List D → Bool
  | [], [] => true
  | x :: xs, y :: ys => D.beq x y && D.beqs xs ys
  | _, _ => false
end
mutual
theorem D.beq_eq : ∀ (x y : D), D.beq x y = true ↔ x = y
  | .non, y => by cases y <;> simp [D.beq]
  | .bl a, y => by cases y <;> simp [D.beq]
  | .int a, y => by cases y <;> simp [D.beq]
  | .str a, y => by cases y <;> simp [D.beq]
  | .ty a, y => by cases y <;> simp [D.beq]
  | .tup a, y => by cases y <;> simp [D.beq, D.beqs_eq a]
  | .lst a, y => by cases y <;> simp [D.beq, D.beqs_eq a]
  | .dct s a c, y => by cases y <;> simp [D.beq, D.beqs_eq a, D.beqs_eq c]
  | .ins a m c, y => by cases y <;> simp [D.beq, D.beqs_eq c, and_assoc]
  | .stm, y => by cases y <;> simp [D.beq]
  | .fn a n, y => by cases y <;> simp [D.beq]
  | .mem a, y => by cases y <;> simp [D.beq, D.beq_eq a]
theorem D.beqs_eq : ∀ (xs ys : List D), D.beqs xs ys = true ↔ xs = ys
  | [], ys => by cases ys <;> simp [D.beqs]
  | x :: xs, ys => by cases ys <;> simp [D.beqs, D.beq_eq x, D.beqs_eq xs]
end
instance : DecidableEq D := fun x y => if h : D.beq x y = true then isTrue ((D.beq_eq x y).mp h) else isFalse fun e => h ((D.beq_eq x y).mpr e)
/-- where the stream of draws stands; or a memo of a search, by the data that its answers are told of -/
structure Stm where
  st : Addr
  cl : Addr
  mm : Option D
def keyD : Key → D
  | .inl i => .int i
  | .inr x => .str x
/-- a text that the model's own operations bear -/
def SOk (x : Str) : Prop := (PyData.strOk x && decide (x.length ≤ sizeLine)) = true
instance (x : Str) : Decidable (SOk x) := inferInstanceAs (Decidable (_ = true))
theorem SOk.ok {x : Str} (h : SOk x) : PyData.strOk x = true := (Bool.and_eq_true_iff.mp h).1
theorem SOk.len {x : Str} (h : SOk x) : x.length ≤ sizeLine := of_decide_eq_true (Bool.and_eq_true_iff.mp h).2
def KOk : Key → Prop
  | .inl _ => True
  | .inr x => SOk x
mutual
def Rep (S : Option Stm) (Z : Hp) : D → V → Prop
  | .non, v => v = .non
  | .bl b, v => v = .bl b
  | .int i, v => v = .int i
  | .str x, v => v = .str x ∧ SOk x
  | .ty n, v => v = .ty n
  | .tup ds, v => ∃ a vs, v = .ref a ∧ Z a = some (.tup vs) ∧ ds.length ≤ sizeLine ∧ Reps S Z ds vs
  | .lst ds, v => ∃ a vs, v = .ref a ∧ Z a = some (.lst vs) ∧ ds.length ≤ sizeLine ∧ Reps S Z ds vs
  | .dct t ks ds, v => ∃ a, v = .ref a ∧ ks.length = ds.length ∧ ds.length ≤ sizeLine ∧
      ((∃ kvs : List (Key × V), t = false ∧ L2.Rd Z a (.dK kvs) ∧ ks = kvs.map (fun p => keyD p.1) ∧ (∀ p ∈ kvs, KOk p.1) ∧ Reps S Z ds (kvs.map (·.2))) ∨
       (∃ kvs : List (List Key × V), t = true ∧ L2.Rd Z a (.dT kvs) ∧ ks = kvs.map (fun p => D.tup (p.1.map keyD)) ∧ (∀ p ∈ kvs, p.1.length ≤ sizeLine ∧ ∀ k ∈ p.1, KOk k) ∧ Reps S Z ds (kvs.map (·.2))))
  | .ins C ns ds, v => ∃ a dx fs, v = .ref a ∧ Z a = some (.ins C dx fs) ∧ Z dx = some (.own a) ∧ ns = fs.map (·.1) ∧ Reps S Z ds (fs.map (·.2))
  | .stm, v => ∃ s, S = some s ∧ s.mm = none ∧ v = .ref s.st
  | .fn a _, v => v = .ref a
  | .mem d, v => ∃ s, S = some s ∧ s.mm = some d ∧ v = .ref s.st
def Reps (S : Option Stm) (Z : Hp) : List D → List V → Prop
  | [], [] => True
  | d :: ds, v :: vs => Rep S Z d v ∧ Reps S Z ds vs
  | _, _ => False
end
abbrev Sub := L2.Same
/-- an object that was not there, or a tuple: it may be frozen -/
structure NewIn (H : Hp) (b : Addr) (o : HO) : Prop where
  at_ : H b = none ∨ ∃ vs, o = .tup vs
  nt : ∀ ps, o ≠ .tbl ps
theorem rd_sub {Z Z' : Hp} {a : Addr} {u : HO} (h : Sub Z Z') (r : L2.Rd Z a u) : L2.Rd Z' a u := by
  rcases r with r | ⟨o, r⟩
  · exact .inl (h _ _ r)
  · exact .inr ⟨o, h _ _ r⟩
theorem NewIn.of {H : Hp} {b : Addr} {o : HO} (h : H b = none) (n : ∀ ps, o ≠ .tbl ps) : NewIn H b o := ⟨.inl h, n⟩
mutual
theorem Rep.mono {S : Option Stm} {Z Z' : Hp} (h : Sub Z Z') : ∀ {d : D} {v : V}, Rep S Z d v → Rep S Z' d v
  | .non, _, r => by simpa [Rep] using r
  | .bl _, _, r => by simpa [Rep] using r
  | .int _, _, r => by simpa [Rep] using r
  | .str _, _, r => by simpa [Rep] using r
  | .ty _, _, r => by simpa [Rep] using r
  | .stm, _, r => by simpa [Rep] using r
  | .fn _ _, _, r => by simpa [Rep] using r
  | .mem _, _, r => by simpa [Rep] using r
  | .tup ds, _, r => by
    rw [Rep] at r ⊢
    obtain ⟨a, vs, e, z, l, q⟩ := r
    exact ⟨a, vs, e, h _ _ z, l, Reps.mono h q⟩
  | .lst ds, _, r => by
    rw [Rep] at r ⊢
    obtain ⟨a, vs, e, z, l, q⟩ := r
    exact ⟨a, vs, e, h _ _ z, l, Reps.mono h q⟩
  | .dct t ks ds, _, r => by
    rw [Rep] at r ⊢
    obtain ⟨a, e, l, m, q⟩ := r
    refine ⟨a, e, l, m, ?_⟩
    rcases q with ⟨kvs, e0, z, e, ko, q⟩ | ⟨kvs, e0, z, e, ko, q⟩
    · exact .inl ⟨kvs, e0, rd_sub h z, e, ko, Reps.mono h q⟩
    · exact .inr ⟨kvs, e0, rd_sub h z, e, ko, Reps.mono h q⟩
  | .ins C ns ds, _, r => by
    rw [Rep] at r ⊢
    obtain ⟨a, dx, fs, e, z, z', l, q⟩ := r
    exact ⟨a, dx, fs, e, h _ _ z, h _ _ z', l, Reps.mono h q⟩
theorem Reps.mono {S : Option Stm} {Z Z' : Hp} (h : Sub Z Z') : ∀ {ds : List D} {vs : List V}, Reps S Z ds vs → Reps S Z' ds vs
  | [], [], _ => by simp [Reps]
  | [], _ :: _, r => by simp [Reps] at r
  | _ :: _, [], r => by simp [Reps] at r
  | d :: ds, v :: vs, r => by
    rw [Reps] at r ⊢
    exact ⟨Rep.mono h r.1, Reps.mono h r.2⟩
end
section
variable {S : Option Stm} {Z : Hp}
theorem Reps.nil : Reps S Z [] [] := by simp [Reps]
theorem Reps.cons {d : D} {v : V} {ds : List D} {vs : List V} (a : Rep S Z d v) (b : Reps S Z ds vs) : Reps S Z (d :: ds) (v :: vs) := by rw [Reps]; exact ⟨a, b⟩
theorem Reps.nil_iff {vs : List V} : Reps S Z [] vs ↔ vs = [] := by cases vs <;> simp [Reps]
theorem Reps.cons_iff {d : D} {ds : List D} {vs : List V} : Reps S Z (d :: ds) vs ↔ ∃ v r, vs = v :: r ∧ Rep S Z d v ∧ Reps S Z ds r := by
  cases vs with
  | nil => simp [Reps]
  | cons v r =>
    rw [Reps]
    constructor
    · rintro ⟨a, b⟩; exact ⟨v, r, rfl, a, b⟩
    · rintro ⟨v', r', e, a, b⟩; cases e; exact ⟨a, b⟩
theorem Reps.length : ∀ {ds : List D} {vs : List V}, Reps S Z ds vs → ds.length = vs.length
  | [], [], _ => rfl
  | [], _ :: _, r => by simp [Reps] at r
  | _ :: _, [], r => by simp [Reps] at r
  | d :: ds, v :: vs, r => by
    rw [Reps] at r
    simp [Reps.length r.2]
theorem Reps.append : ∀ {ds es : List D} {vs us : List V}, Reps S Z ds vs → Reps S Z es us → Reps S Z (ds ++ es) (vs ++ us)
  | [], _, [], _, _, q => q
  | [], _, _ :: _, _, r, _ => by simp [Reps] at r
  | _ :: _, _, [], _, r, _ => by simp [Reps] at r
  | d :: ds, es, v :: vs, us, r, q => by
    rw [Reps] at r
    exact Reps.cons r.1 (Reps.append r.2 q)
theorem Reps.get : ∀ {ds : List D} {vs : List V} {i : Nat} {d : D}, Reps S Z ds vs → ds[i]? = some d → ∃ v, vs[i]? = some v ∧ Rep S Z d v
  | [], _, i, d, _, h => by simp at h
  | _ :: _, [], _, _, r, _ => by simp [Reps] at r
  | e :: ds, v :: vs, 0, d, r, h => by
    rw [Reps] at r
    simp at h; subst h
    exact ⟨v, by simp, r.1⟩
  | e :: ds, v :: vs, i + 1, d, r, h => by
    rw [Reps] at r
    simpa using Reps.get r.2 (by simpa using h)
theorem Reps.take : ∀ {ds : List D} {vs : List V} (n : Nat), Reps S Z ds vs → Reps S Z (ds.take n) (vs.take n)
  | _, _, 0, _ => by simp [Reps]
  | [], [], n + 1, _ => by simp [Reps]
  | [], _ :: _, _, r => by simp [Reps] at r
  | _ :: _, [], _, r => by simp [Reps] at r
  | d :: ds, v :: vs, n + 1, r => by
    rw [Reps] at r
    exact Reps.cons r.1 (Reps.take n r.2)
theorem Reps.drop : ∀ {ds : List D} {vs : List V} (n : Nat), Reps S Z ds vs → Reps S Z (ds.drop n) (vs.drop n)
  | _, _, 0, r => by simpa using r
  | [], [], n + 1, _ => by simp [Reps]
  | [], _ :: _, _, r => by simp [Reps] at r
  | _ :: _, [], _, r => by simp [Reps] at r
  | d :: ds, v :: vs, n + 1, r => by
    rw [Reps] at r
    simpa using Reps.drop n r.2
theorem Reps.set : ∀ {ds : List D} {vs : List V} {d : D} {v : V} (i : Nat), Rep S Z d v → Reps S Z ds vs → Reps S Z (ds.set i d) (vs.set i v)
  | [], [], _, _, _, _, _ => by simp [Reps]
  | [], _ :: _, _, _, _, _, r => by simp [Reps] at r
  | _ :: _, [], _, _, _, _, r => by simp [Reps] at r
  | _ :: ds, _ :: vs, _, _, 0, q, r => by
    rw [Reps] at r
    exact Reps.cons q r.2
  | _ :: ds, _ :: vs, _, _, i + 1, q, r => by
    rw [Reps] at r
    exact Reps.cons r.1 (Reps.set i q r.2)
theorem Reps.eraseIdx : ∀ {ds : List D} {vs : List V} (i : Nat), Reps S Z ds vs → Reps S Z (ds.eraseIdx i) (vs.eraseIdx i)
  | [], [], _, _ => by simp [Reps]
  | [], _ :: _, _, r => by simp [Reps] at r
  | _ :: _, [], _, r => by simp [Reps] at r
  | _ :: ds, _ :: vs, 0, r => by
    rw [Reps] at r
    simpa using r.2
  | _ :: ds, _ :: vs, i + 1, r => by
    rw [Reps] at r
    simp only [List.eraseIdx_cons_succ]
    exact Reps.cons r.1 (Reps.eraseIdx i r.2)
theorem Rep.int_iff {i : Int} {v : V} : Rep S Z (.int i) v ↔ v = .int i := by simp [Rep]
theorem Rep.bl_iff {i : Bool} {v : V} : Rep S Z (.bl i) v ↔ v = .bl i := by simp [Rep]
theorem Rep.str_iff {i : Str} {v : V} : Rep S Z (.str i) v ↔ v = .str i ∧ SOk i := by simp [Rep]
theorem Rep.non_iff {v : V} : Rep S Z .non v ↔ v = .non := by simp [Rep]
theorem Rep.ty_iff {n : String} {v : V} : Rep S Z (.ty n) v ↔ v = .ty n := by simp [Rep]
theorem Rep.lst_iff {ds : List D} {v : V} : Rep S Z (.lst ds) v ↔ ∃ a vs, v = .ref a ∧ Z a = some (.lst vs) ∧ ds.length ≤ sizeLine ∧ Reps S Z ds vs := by rw [Rep]
theorem Rep.tup_iff {ds : List D} {v : V} : Rep S Z (.tup ds) v ↔ ∃ a vs, v = .ref a ∧ Z a = some (.tup vs) ∧ ds.length ≤ sizeLine ∧ Reps S Z ds vs := by rw [Rep]
end
end DL
set_option Elab.async false
set_option linter.all false
set_option maxRecDepth 100000
set_option maxHeartbeats 4000000
namespace DL
open PySem L2
def LIM : Nat := 2 ^ 1000000
/-! ### the memo of a search: what its answers are -/
def numsK : List NestedKey → Option (List Int)
  | [] => some []
  | .num i :: ks => (numsK ks).map (i :: ·)
  | _ :: _ => none
def bitsD : List D → Option (List Bool)
  | [] => some []
  | .bl b :: ds => (bitsD ds).map (b :: ·)
  | _ :: _ => none
def rowsD : List D → Option (List (List Bool))
  | [] => some []
  | .lst r :: ds => (bitsD r).bind fun b => (rowsD ds).map (b :: ·)
  | _ :: _ => none
/-- the state behind an answer -/
def bhd (most : Int) (st : List Int) (row : List Bool) (a : Bool) : List Int := (st.zip row).map fun p => min (p.1 + (if (p.2 != a) = true then 1 else 0)) (most + 1)
def leftN (n : Nat) (most : Int) (st : List Int) : Nat := ((st.take n).filter fun w => decide (w ≤ most)).length
/-- whether so many askings are enough from a state on -/
def enB (n : Nat) (most : Int) (rows : List (List Bool)) : Nat → List Int → Bool
  | 0, st => decide (leftN n most st < 2)
  | m + 1, st => decide (leftN n most st < 2) || rows.any fun row => enB n most rows m (bhd most st row true) && enB n most rows m (bhd most st row false)
/-- few small numbers -/
def smallS (st : List Int) : Bool := decide (st.length ≤ 8) && st.all fun i => decide (0 ≤ i) && decide (i ≤ 2)
mutual
def kiD : D → Option NestedKey
  | .int i => some (.num i)
  | .tup ds => (kiDs ds).map .tup
  | _ => none
def kiDs : List D → Option (List NestedKey)
  | [] => some []
  | d :: ds => (kiD d).bind fun k => (kiDs ds).map (k :: ·)
end
/-- what stands in a memo for the time being, ahead of what it is to tell -/
def lookO : List D → NestedKey → Option Bool
  | [], _ => none
  | .tup [kd, .bl v] :: r, k => if kiD kd = some k then some v else lookO r k
  | _ :: r, k => lookO r k
def ovK : D → List NestedKey
  | .tup (_ :: _ :: _ :: ov) => ov.filterMap fun o => match o with
    | .tup [kd, .bl _] => kiD kd
    | _ => none
  | _ => []
def memE : D → NestedKey → Option Bool
  | .tup (.int n :: .int most :: .lst sg :: ov), .tup [.tup ks, .num m] => (rowsD sg).bind fun rows => (numsK ks).bind fun st => if smallS st = true ∧ 0 ≤ m ∧ m < 64 then some ((lookO ov (.tup [.tup ks, .num m])).getD (enB n.toNat most rows m.toNat st)) else none
  | _, _ => none
/-! keys without texts: their hash is one in all worlds -/
mutual
def numK : NestedKey → Bool
  | .none => true
  | .num _ => true
  | .text _ => false
  | .tup ks => numKs ks
def numKs : List NestedKey → Bool
  | [] => true
  | k :: ks => numK k && numKs ks
end
mutual
def hashN : NestedKey → Int
  | .none => reduceHash 0xFCA86420
  | .num i => hashInt i
  | .text _ => 0
  | .tup ks => reduceHash (Builtin.Tuple.tupleHashOf (hashNs ks))
def hashNs : List NestedKey → List Int
  | [] => []
  | k :: ks => hashN k :: hashNs ks
end
mutual
theorem hashN_eq (w : World) : ∀ k : NestedKey, numK k = true → k.hash w = hashN k
  | .none, _ => rfl
  | .num _, _ => rfl
  | .text _, h => by simp [numK] at h
  | .tup ks, h => by
    rw [numK] at h
    rw [NestedKey.hash, hashN, hashNs_eq w ks h]
theorem hashNs_eq (w : World) : ∀ ks : List NestedKey, numKs ks = true → NestedKey.hashes w ks = hashNs ks
  | [], _ => rfl
  | k :: ks, h => by
    rw [numKs, Bool.and_eq_true] at h
    rw [NestedKey.hashes, hashNs, hashN_eq w k h.1, hashNs_eq w ks h.2]
end
/-! the values of such keys, by the tuples of the abstract heap -/
mutual
def KAt (H : Hp) : NestedKey → V → Prop
  | .num i, v => v = .int i
  | .tup ks, v => ∃ a vs, v = .ref a ∧ H a = some (.tup vs) ∧ KAts H ks vs
  | _, _ => False
def KAts (H : Hp) : List NestedKey → List V → Prop
  | [], [] => True
  | k :: ks, v :: vs => KAt H k v ∧ KAts H ks vs
  | _, _ => False
end
def TupsKept (H H' : Hp) : Prop := ∀ a vs, H a = some (.tup vs) → H' a = some (.tup vs)
mutual
theorem KAt.mono {H H' : Hp} (h : TupsKept H H') : ∀ {k : NestedKey} {v : V}, KAt H k v → KAt H' k v
  | .num _, _, r => by rw [KAt] at r ⊢; exact r
  | .tup ks, _, r => by
    rw [KAt] at r ⊢
    obtain ⟨a, vs, e, z, q⟩ := r
    exact ⟨a, vs, e, h _ _ z, KAts.mono h q⟩
  | .none, _, r => by simp [KAt] at r
  | .text _, _, r => by simp [KAt] at r
theorem KAts.mono {H H' : Hp} (h : TupsKept H H') : ∀ {ks : List NestedKey} {vs : List V}, KAts H ks vs → KAts H' ks vs
  | [], [], _ => by simp [KAts]
  | [], _ :: _, r => by simp [KAts] at r
  | _ :: _, [], r => by simp [KAts] at r
  | k :: ks, v :: vs, r => by
    rw [KAts] at r ⊢
    exact ⟨KAt.mono h r.1, KAts.mono h r.2⟩
end
abbrev MeL := List (NestedKey × Addr × Bool)
def MeP (a : Addr) (xs : MeL) (h : Heap) : Prop :=
  xs.length ≤ sizeLine ∧ (a == sysModules) = false ∧ ∃ o es ep, h.get? a = some o ∧ o.ExactDict ∧ o.data = .dict es ep ∧ es.toList = xs.map (fun x => (⟨hashN x.1, .ref x.2.1, .bool x.2.2⟩ : DictEntry)) ∧ (xs.map (·.1)).Nodup
def MeO (a : Addr) (xs : MeL) : HO := .ext (MeP a xs)
theorem me_ntup {a : Addr} {xs : MeL} : ∀ vs, MeO a xs ≠ .tup vs := fun vs z => by unfold MeO at z; cases z
theorem me_ntbl {a : Addr} {xs : MeL} : ∀ ps, MeO a xs ≠ .tbl ps := fun vs z => by unfold MeO at z; cases z
def MemOk (d : D) (H : Hp) (xs : MeL) : Prop := ∀ x ∈ xs, KAt H x.1 (.ref x.2.1) ∧ numK x.1 = true ∧ x.1.depth ≤ 8 ∧ memE d x.1 = some x.2.2
theorem MemOk.mono {d : D} {H H' : Hp} {xs : MeL} (h : TupsKept H H') (m : MemOk d H xs) : MemOk d H' xs := fun x hx => ⟨(m x hx).1.mono h, (m x hx).2⟩
def MemHas (d : D) (xs : MeL) : Prop := ∀ k ∈ ovK d, (xs.any fun x => decide (x.1 = k)) = true
/-- the stream: the cells left, what is left of a great one, how many were drawn, what all mix -/
def StrAt (s : Stm) (Z H : Hp) (c : Nat) : Prop := ∃ (cells : List Int) (r m : Int) (k : Nat),
  H s.st = some (.lst [.ref s.cl, .int r, .int k, .int m]) ∧ H s.cl = some (.lst (cells.map V.int)) ∧ k ≤ c ∧ 0 ≤ r ∧ 0 ≤ m ∧ m < 2147483647 ∧ Z s.st = none ∧ Z s.cl = none ∧ s.st ≠ s.cl
def MemAt (s : Stm) (d : D) (Z H : Hp) : Prop := s.cl = s.st ∧ Z s.st = none ∧ ∃ xs, H s.st = some (MeO s.st xs) ∧ MemOk d H xs ∧ MemHas d xs
def StOk (S : Option Stm) (Z H : Hp) (c : Nat) : Prop := ∀ s, S = some s → (s.mm = none ∧ StrAt s Z H c) ∨ ∃ d, s.mm = some d ∧ MemAt s d Z H
theorem StOk.at_ {S : Option Stm} {Z H : Hp} {c : Nat} (h : StOk S Z H c) {s : Stm} (e : S = some s) : (∃ o, H s.st = some o ∧ (∀ vs, o ≠ .tup vs) ∧ ∀ ps, o ≠ .tbl ps) ∧ ∃ o, H s.cl = some o ∧ (∀ vs, o ≠ .tup vs) ∧ ∀ ps, o ≠ .tbl ps := by
  rcases h s e with ⟨_, cells, r, m, k, h1, h2, _⟩ | ⟨d, _, h0, _, xs, h1, _⟩
  · exact ⟨⟨_, h1, (fun vs z => by cases z), (fun vs z => by cases z)⟩, _, h2, (fun vs z => by cases z), (fun vs z => by cases z)⟩
  · rw [h0]
    exact ⟨⟨_, h1, me_ntup, me_ntbl⟩, _, h1, me_ntup, me_ntbl⟩
theorem StOk.count {S : Option Stm} {Z H : Hp} {c c' : Nat} (h : StOk S Z H c) (l : c ≤ c') : StOk S Z H c' := fun s e => by
  rcases h s e with ⟨h0, cells, r, m, k, h1, h2, h3, h4⟩ | q
  · exact .inl ⟨h0, cells, r, m, k, h1, h2, Nat.le_trans h3 l, h4⟩
  · exact .inr q
/-- all but the stream's two lists stays -/
def SameM (S : Option Stm) (H H' : Hp) : Prop := ∀ b o, H b = some o → (∀ s, S = some s → b ≠ s.st ∧ b ≠ s.cl) → H' b = some o
theorem SameM.refl {S : Option Stm} (H : Hp) : SameM S H H := fun _ _ h _ => h
theorem SameM.trans {S : Option Stm} {H H1 H2 : Hp} (a : SameM S H H1) (b : SameM S H1 H2) : SameM S H H2 := fun c o h n => b c o (a c o h n) n
theorem SameM.of {S : Option Stm} {H H' : Hp} (a : Sub H H') : SameM S H H' := fun c o h _ => a c o h
/-- the heap without the tables of code objects -/
def vis (H : Hp) : Hp := fun b => match H b with
  | some (.tbl _) => none
  | o => o
theorem vis_of {H : Hp} {b : Addr} {o : HO} (h : H b = some o) (n : ∀ ps, o ≠ .tbl ps := by intro ps z; cases z) : vis H b = some o := by
  unfold vis
  rw [h]
  cases o <;> first | rfl | exact absurd rfl (n _)
theorem vis_some {H : Hp} {b : Addr} {o : HO} (h : vis H b = some o) : H b = some o := by
  unfold vis at h
  split at h
  · cases h
  · exact h
theorem vis_nt {H : Hp} : ∀ b ps, vis H b ≠ some (.tbl ps) := fun b ps h => by
  have h' := vis_some h
  unfold vis at h
  rw [h'] at h
  cases h
theorem vis_none {H : Hp} {b : Addr} (h : H b = none) : vis H b = none := by unfold vis; rw [h]
theorem vis_sub {H : Hp} : Sub (vis H) H := fun _ _ h => vis_some h
theorem SameM.vtrans {S : Option Stm} {H H1 H2 : Hp} (nt : ∀ b ps, H b ≠ some (.tbl ps)) (a : SameM S H H1) (b : SameM S (vis H1) H2) : SameM S H H2 := fun c o h n =>
  b c o (vis_of (a c o h n) fun ps z => nt c ps (by rw [h, z])) n
theorem SameM.ofv {S : Option Stm} {H H' : Hp} (a : Sub H H') : SameM S (vis H) H' := .of (vis_sub.trans a)
theorem code_lst {c : Addr} {q : Str} {vs : List V} : HO.lst vs ≠ LamX.CodeO c q := fun z => by unfold LamX.CodeO at z; cases z
theorem code_ins {c a b : Addr} {q : Str} {vs : List (Str × V)} : HO.ins a b vs ≠ LamX.CodeO c q := fun z => by unfold LamX.CodeO at z; cases z
theorem tabs_upd {T : List (Addr × Str)} {H : Hp} {a : Addr} {o o' : HO} (t : LamX.Tabs T H) (h : H a = some o) (hn : ∀ ps, o ≠ .tbl ps) (hc : ∀ c q, o ≠ LamX.CodeO c q) : LamX.Tabs T (upd H a o') := fun p hp => by
  obtain ⟨ps, h1, h2, h3⟩ := t p hp
  have n1 : p.1 ≠ a := fun z => by rw [z, h] at h1; exact hn ps (Option.some.inj h1)
  refine ⟨ps, by rw [upd_ne n1]; exact h1, h2, fun pos cv e => ?_⟩
  obtain ⟨c, e1, e2⟩ := h3 pos cv e
  have n2 : c ≠ a := fun z => by rw [z, h] at e2; exact hc _ _ (Option.some.inj e2)
  exact ⟨c, e1, by rw [upd_ne n2]; exact e2⟩
/-- the tables of all functions that K knows, with the names that their lambdas bear -/
def tabsOf (K : PySem.W.Frag) : List (Addr × Str) := K.filterMap fun p => match p.2.data with
  | .func fd => (match fd.code with
    | .ref c => (match K.lookup c with
      | some o => (match o.data with
        | .fields vs => (match (vs[11]? : Option Value) with
          | some (.ref P) => some (P, fd.qualname ++ ".<locals>." ++ "<lambda>")
          | _ => none)
        | _ => none)
      | none => none)
    | _ => none)
  | _ => none
/-- the ghosts of an activation: the stream, the heap and the frozen part at the entry, the most draws -/
structure Gh where
  S : Option Stm
  H0 : Hp
  Z0 : Hp
  cm : Nat
  cml : cm ≤ LIM
  nt : ∀ b ps, H0 b ≠ some (.tbl ps)
  T : List (Addr × Str)
  zt : ∀ b ps, Z0 b ≠ some (.tbl ps)
inductive Slot where
  | no | sh (d : D) | ow (d : D) | ob (x C : Addr) (ns : List Str) (ds : List D)
def Slot.owns : Slot → Bool
  | .ow _ => true
  | .ob _ _ _ _ => true
  | _ => false
abbrev Rho := List Slot
/-- the object that bears a list, a dict -/
def Img (S : Option Stm) (Z : Hp) : D → HO → Prop
  | .lst ds, o => ∃ vs, o = .lst vs ∧ ds.length ≤ sizeLine ∧ Reps S Z ds vs
  | .dct t ks ds, o => ks.length = ds.length ∧ ds.length ≤ sizeLine ∧
      ((∃ kvs : List (Key × V), t = false ∧ o = .dK kvs ∧ ks = kvs.map (fun p => keyD p.1) ∧ (∀ p ∈ kvs, KOk p.1) ∧ Reps S Z ds (kvs.map (·.2))) ∨
       (∃ kvs : List (List Key × V), t = true ∧ o = .dT kvs ∧ ks = kvs.map (fun p => D.tup (p.1.map keyD)) ∧ (∀ p ∈ kvs, p.1.length ≤ sizeLine ∧ ∀ k ∈ p.1, KOk k) ∧ Reps S Z ds (kvs.map (·.2))))
  | _, _ => False
theorem Img.mono {S : Option Stm} {Z Z' : Hp} (h : Sub Z Z') {d : D} {o : HO} (m : Img S Z d o) : Img S Z' d o := by
  cases d with
  | lst ds =>
    obtain ⟨vs, e, l, r⟩ := m
    exact ⟨vs, e, l, r.mono h⟩
  | dct t ks ds =>
    obtain ⟨l1, l2, m⟩ := m
    rcases m with ⟨kvs, e0, e1, e2, e3, r⟩ | ⟨kvs, e0, e1, e2, e3, r⟩
    · exact ⟨l1, l2, .inl ⟨kvs, e0, e1, e2, e3, r.mono h⟩⟩
    · exact ⟨l1, l2, .inr ⟨kvs, e0, e1, e2, e3, r.mono h⟩⟩
  | _ => exact m.elim
theorem Img.shape {S : Option Stm} {Z : Hp} {d : D} {o : HO} (m : Img S Z d o) : (∃ vs, o = .lst vs) ∨ (∃ kvs, o = .dK kvs) ∨ ∃ kvs, o = .dT kvs := by
  cases d with
  | lst ds =>
    obtain ⟨vs, e, _⟩ := m
    exact .inl ⟨vs, e⟩
  | dct t ks ds =>
    obtain ⟨_, _, m⟩ := m
    rcases m with ⟨kvs, _, e, _⟩ | ⟨kvs, _, e, _⟩
    · exact .inr (.inl ⟨kvs, e⟩)
    · exact .inr (.inr ⟨kvs, e⟩)
  | _ => exact m.elim
theorem Img.ntbl {S : Option Stm} {Z : Hp} {d : D} {o : HO} (m : Img S Z d o) : ∀ ps, o ≠ .tbl ps := fun ps e => by
  rcases m.shape with ⟨_, q⟩ | ⟨_, q⟩ | ⟨_, q⟩ <;> (rw [q] at e; cases e)
theorem Img.ncode {S : Option Stm} {Z : Hp} {d : D} {o : HO} (m : Img S Z d o) : ∀ c q, o ≠ LamX.CodeO c q := fun c q e => by
  unfold LamX.CodeO at e
  rcases m.shape with ⟨_, z⟩ | ⟨_, z⟩ | ⟨_, z⟩ <;> (rw [z] at e; cases e)
theorem Img.ntup {S : Option Stm} {Z : Hp} {d : D} {o : HO} (m : Img S Z d o) : ∀ ps, o ≠ .tup ps := fun ps e => by
  rcases m.shape with ⟨_, q⟩ | ⟨_, q⟩ | ⟨_, q⟩ <;> (rw [q] at e; cases e)
theorem Img.nown {S : Option Stm} {Z : Hp} {d : D} {o : HO} (m : Img S Z d o) : ∀ y, o ≠ .own y := fun ps e => by
  rcases m.shape with ⟨_, q⟩ | ⟨_, q⟩ | ⟨_, q⟩ <;> (rw [q] at e; cases e)
theorem Img.rep {S : Option Stm} {Z : Hp} {d : D} {o : HO} {a : Addr} (m : Img S Z d o) (h : Z a = some o) : Rep S Z d (.ref a) := by
  cases d with
  | lst ds =>
    obtain ⟨vs, e, l, r⟩ := m
    rw [Rep]
    exact ⟨a, vs, rfl, by rw [h, e], l, r⟩
  | dct t ks ds =>
    obtain ⟨l1, l2, m⟩ := m
    rw [Rep]
    refine ⟨a, rfl, l1, l2, ?_⟩
    rcases m with ⟨kvs, e0, e1, e2, e3, r⟩ | ⟨kvs, e0, e1, e2, e3, r⟩
    · exact .inl ⟨kvs, e0, .inl (by rw [h, e1]), e2, e3, r⟩
    · exact .inr ⟨kvs, e0, .inl (by rw [h, e1]), e2, e3, r⟩
  | _ => exact m.elim
def OwnL (G : Gh) (Z H : Hp) (a : Addr) (d : D) : Prop := ∃ o, H a = some o ∧ Z a = none ∧ G.H0 a = none ∧ Img G.S Z d o
def OwnI (G : Gh) (Z H : Hp) (a x C : Addr) (ns : List Str) (ds : List D) : Prop := ∃ dx fs, H a = some (.ins C dx fs) ∧ H dx = some (.own a) ∧ Z a = none ∧ Z dx = none ∧ G.H0 a = none ∧ G.H0 dx = none ∧
  (a = x ∧ ns = fs.map (·.1)) ∧ Reps G.S Z ds (fs.map (·.2))
def SlotOk (G : Gh) (Z H : Hp) : Slot → Option (Option V) → Prop
  | .no, _ => True
  | .sh d, o => ∃ v, o = some (some v) ∧ Rep G.S Z d v
  | .ow d, o => ∃ a, o = some (some (.ref a)) ∧ OwnL G Z H a d
  | .ob x C ns ds, o => ∃ a, o = some (some (.ref a)) ∧ OwnI G Z H a x C ns ds
structure Fr (G : Gh) (Z H : Hp) (ρ : Rho) (σ : L2.St) (c : Nat) : Prop where
  zh : Sub Z H
  gs : ∀ s, G.S = some s → G.H0 s.st ≠ none ∧ G.H0 s.cl ≠ none
  st : StOk G.S Z H c
  len : ρ.length = σ.length
  sl : ∀ (i : Nat) (s : Slot), ρ[i]? = some s → SlotOk G Z H s σ[i]?
  ap : ∀ (i j : Nat) (s t : Slot), i ≠ j → ρ[i]? = some s → ρ[j]? = some t → s.owns = true → t.owns = true → σ[i]? ≠ σ[j]?
  sm : SameM G.S G.H0 H
  fr : ∀ b o, Z b = some o → G.Z0 b = some o ∨ (NewIn (G.H0) b o)
  z0 : Sub G.Z0 Z
  tb : LamX.Tabs G.T H
/-- what an expression hands out: shared data, or a new list of one's own -/
inductive Vd where
  | sh (d : D) | nw (d : D)
def Vd.d : Vd → D
  | .sh d => d
  | .nw d => d
@[simp] theorem Vd.d_sh (d : D) : (Vd.sh d).d = d := rfl
@[simp] theorem Vd.d_nw (d : D) : (Vd.nw d).d = d := rfl
def NotOwned (ρ : Rho) (σ : L2.St) (a : Addr) : Prop := ∀ (i : Nat) (s : Slot), ρ[i]? = some s → s.owns = true → σ[i]? ≠ some (some (.ref a))
def VOk (G : Gh) (Z H : Hp) (ρ : Rho) (σ : L2.St) : Vd → V → Prop
  | .sh d, v => Rep G.S Z d v
  | .nw d, v => ∃ a, v = .ref a ∧ OwnL G Z H a d ∧ NotOwned ρ σ a
section
variable {G : Gh} {Z Z' H H' : Hp} {ρ : Rho} {σ : L2.St} {c c' : Nat}
theorem Fr.notSt (F : Fr G Z H ρ σ c) {a : Addr} (h : G.H0 a = none) : ∀ s, G.S = some s → a ≠ s.st ∧ a ≠ s.cl := fun s e =>
  ⟨fun q => (F.gs s e).1 (by rw [← q]; exact h), fun q => (F.gs s e).2 (by rw [← q]; exact h)⟩
theorem Fr.stThere (F : Fr G Z H ρ σ c) : ∀ s, G.S = some s → H s.st ≠ none ∧ H s.cl ≠ none := fun s e => by
  obtain ⟨⟨_, h1, _⟩, _, h2, _⟩ := F.st.at_ e
  exact ⟨by rw [h1]; simp, by rw [h2]; simp⟩
/-- what is free now was free at the entry -/
theorem Fr.free0v (F : Fr G Z H ρ σ c) {a : Addr} (h : vis H a = none) : G.H0 a = none := by
  cases q : G.H0 a with
  | none => rfl
  | some o =>
    have := F.sm a o q fun s e => by
      obtain ⟨⟨_, h1, _, t1⟩, _, h2, _, t2⟩ := F.st.at_ e
      exact ⟨fun z => (by rw [z, vis_of h1 t1] at h; cases h), fun z => (by rw [z, vis_of h2 t2] at h; cases h)⟩
    rw [vis_of this fun ps z => G.nt a ps (by rw [q, z])] at h; cases h
theorem Fr.free0 (F : Fr G Z H ρ σ c) {a : Addr} (h : H a = none) : G.H0 a = none := F.free0v (vis_none h)
theorem Fr.freeZ (F : Fr G Z H ρ σ c) {a : Addr} (h : H a = none) : Z a = none := by
  cases q : Z a with
  | none => rfl
  | some o => rw [F.zh a o q] at h; cases h
theorem Fr.zn (F : Fr G Z H ρ σ c) : ∀ b ps, Z b ≠ some (.tbl ps) := fun b ps e => by
  rcases F.fr b _ e with q | q
  · exact G.zt b ps q
  · exact q.2 ps rfl
theorem Fr.count (F : Fr G Z H ρ σ c) (h : c ≤ c') : Fr G Z H ρ σ c' := by
  exact ⟨F.zh, F.gs, F.st.count h, F.len, F.sl, F.ap, F.sm, F.fr, F.z0, F.tb⟩
theorem OwnL.keep {a : Addr} {d : D} (o : OwnL G Z H a d) (hz : Sub Z Z') (hn : Z' a = none) (hh : H' a = H a) : OwnL G Z' H' a d := by
  obtain ⟨o, h1, h2, h3, h4⟩ := o
  exact ⟨o, by rw [hh]; exact h1, hn, h3, h4.mono hz⟩
/-- the general step: the frozen part grows, owned things stay -/
theorem Fr.step (F : Fr G Z H ρ σ c) (hz : Sub Z Z') (hzh : Sub Z' H') (hst : StOk G.S Z' H' c') (hsm : SameM G.S (vis H) H') (htb : LamX.Tabs G.T H')
    (hfr : ∀ b o, Z' b = some o → Z b = some o ∨ (NewIn (G.H0) b o)) (hown : ∀ b, Z b = none → vis H b ≠ none → G.H0 b = none → (∃ (i : Nat) (s : Slot), ρ[i]? = some s ∧ s.owns = true ∧ (σ[i]? = some (some (.ref b)) ∨ ∃ y, H b = some (.own y) ∧ σ[i]? = some (some (.ref y)))) → Z' b = none) : Fr G Z' H' ρ σ c' where
  zh := hzh
  gs := F.gs
  st := hst
  len := F.len
  sl := fun i s e => by
    have q := F.sl i s e
    cases s with
    | no => trivial
    | sh d =>
      obtain ⟨v, e1, r⟩ := q
      exact ⟨v, e1, r.mono hz⟩
    | ow d =>
      obtain ⟨a, e1, o⟩ := q
      refine ⟨a, e1, ?_⟩
      obtain ⟨ho, h1, h2, h3, h4⟩ := id o
      refine o.keep hz (hown a h2 (by rw [vis_of h1 h4.ntbl]; simp) h3 ⟨i, _, e, rfl, .inl e1⟩) ?_
      rw [h1]
      exact hsm a _ (vis_of h1 h4.ntbl) (F.notSt h3)
    | ob x C ns ds =>
      obtain ⟨a, e1, dx, fs, h1, h2, h3, h4, h5, h6, h7, h8⟩ := q
      exact ⟨a, e1, dx, fs, hsm a _ (vis_of h1) (F.notSt h5), hsm dx _ (vis_of h2) (F.notSt h6), hown a h3 (by rw [vis_of h1]; simp) h5 ⟨i, _, e, rfl, .inl e1⟩, hown dx h4 (by rw [vis_of h2]; simp) h6 ⟨i, _, e, rfl, .inr ⟨a, h2, e1⟩⟩, h5, h6, h7, h8.mono hz⟩
  ap := F.ap
  sm := F.sm.vtrans G.nt hsm
  fr := fun b o e => by
    rcases hfr b o e with q | q
    · exact F.fr b o q
    · exact .inr q
  z0 := F.z0.trans hz
  tb := htb
theorem StOk.keep {S : Option Stm} (h : StOk S Z H c) (hh : ∀ s, S = some s → H' s.st = H s.st ∧ H' s.cl = H s.cl) (hz : ∀ s, S = some s → Z' s.st = none ∧ Z' s.cl = none) (ht : TupsKept H H') : StOk S Z' H' c := fun s e => by
  rcases h s e with ⟨h0, cells, r, m, k, h1, h2, h3, h4, h5, h6, h7, h8, h9⟩ | ⟨d, h0, h1, h2, xs, h3, h4⟩
  · exact .inl ⟨h0, cells, r, m, k, by rw [(hh s e).1]; exact h1, by rw [(hh s e).2]; exact h2, h3, h4, h5, h6, (hz s e).1, (hz s e).2, h9⟩
  · exact .inr ⟨d, h0, h1, (hz s e).1, xs, by rw [(hh s e).1]; exact h3, h4.1.mono ht, h4.2⟩
theorem StOk.noZ {S : Option Stm} (h : StOk S Z H c) : ∀ s, S = some s → Z s.st = none ∧ Z s.cl = none := fun s e => by
  rcases h s e with ⟨h0, cells, r, m, k, h1, h2, h3, h4, h5, h6, h7, h8, h9⟩ | ⟨d, h0, h1, h2, xs, h3, h4⟩
  · exact ⟨h7, h8⟩
  · exact ⟨h2, by rw [h1]; exact h2⟩
theorem TupsKept.refl (H : Hp) : TupsKept H H := fun _ _ h => h
theorem TupsKept.sub (h : Sub H H') : TupsKept H H' := fun _ _ e => h _ _ e
theorem TupsKept.upd {p : Addr} {o u : HO} (h : H p = some o) (n : ∀ vs, o ≠ .tup vs) : TupsKept H (upd H p u) := fun a vs e => by
  have ne : a ≠ p := fun z => by rw [z, h] at e; exact n vs (Option.some.inj e)
  rw [upd_ne ne]; exact e
theorem sub_upd {p : Addr} {o : HO} (h : H p = none) : Sub H (upd H p o) := fun b u e => by rw [upd_ne (ne_of_none e h)]; exact e
/-- a new object, not frozen -/
theorem Fr.alloc (F : Fr G Z H ρ σ c) {p : Addr} (o : HO) (h : H p = none) : Fr G Z (upd H p o) ρ σ c := by
  refine F.step (fun _ _ e => e) (fun b u e => sub_upd h b u (F.zh b u e)) (F.st.keep (fun s e => ?_) F.st.noZ (.sub (sub_upd h))) (.ofv (sub_upd h)) (F.tb.ext (sub_upd h)) (fun b o e => .inl e) (fun b e _ _ _ => e)
  have n := F.stThere s e
  exact ⟨upd_ne fun q => n.1 (by rw [q]; exact h), upd_ne fun q => n.2 (by rw [q]; exact h)⟩
/-- an object that nobody owns is frozen -/
theorem Fr.freeze (F : Fr G Z H ρ σ c) {p : Addr} {o : HO} (h : H p = some o) (h0 : G.H0 p = none) (hn : NotOwned ρ σ p) (hx : ∀ y, o ≠ .own y) (ht : ∀ ps, o ≠ .tbl ps := by intro ps z; cases z) : Fr G (upd Z p o) H ρ σ c := by
  have hz : Sub Z (upd Z p o) := fun b u e => by
    by_cases hb : b = p
    · subst hb
      rw [upd_same]
      rw [F.zh _ _ e] at h
      exact h.symm
    · rw [upd_ne hb]; exact e
  refine F.step hz (fun b u e => ?_) (F.st.keep (fun s e => ⟨rfl, rfl⟩) (fun s e => ?_) (.refl _)) (.ofv fun _ _ e => e) F.tb (fun b u e => ?_) (fun b e1 e2 e3 e4 => ?_)
  · by_cases hb : b = p
    · subst hb; rw [upd_same] at e; cases e; exact h
    · rw [upd_ne hb] at e; exact F.zh b u e
  · have n := F.notSt h0 s e
    rw [upd_ne (Ne.symm n.1), upd_ne (Ne.symm n.2)]
    exact F.st.noZ s e
  · by_cases hb : b = p
    · subst hb; rw [upd_same] at e; cases e; exact .inr ⟨.inl h0, ht⟩
    · rw [upd_ne hb] at e; exact .inl e
  · have hb : b ≠ p := by
      rintro rfl
      obtain ⟨i, s, e5, e6, e7⟩ := e4
      rcases e7 with e7 | ⟨y, e7, _⟩
      · exact hn i s e5 e6 e7
      · rw [h] at e7; exact hx y (Option.some.inj e7)
    rw [upd_ne hb]; exact e1
theorem sub_updZ {p : Addr} {o : HO} (h : Z p = none) : Sub Z (upd Z p o) := sub_upd h
theorem NotOwned.of_vis (F : Fr G Z H ρ σ c) {p : Addr} (h : vis H p = none) : NotOwned ρ σ p := fun i s e w q => by
  have z := F.sl i s e
  cases s with
  | no => cases w
  | sh d => cases w
  | ow d =>
    obtain ⟨a, e1, ho, h1, _, _, h4⟩ := z
    rw [e1] at q; cases q
    rw [vis_of h1 h4.ntbl] at h; cases h
  | ob x C ns ds =>
    obtain ⟨a, e1, dx, fs, h1, _⟩ := z
    rw [e1] at q; cases q
    rw [vis_of h1] at h; cases h
theorem NotOwned.of_none (F : Fr G Z H ρ σ c) {p : Addr} (h : H p = none) : NotOwned ρ σ p := NotOwned.of_vis F (vis_none h)
/-- a new object, frozen at once -/
theorem Fr.new (F : Fr G Z H ρ σ c) {p : Addr} (o : HO) (h : H p = none) (hx : ∀ y, o ≠ .own y) (ht : ∀ ps, o ≠ .tbl ps := by intro ps z; cases z) : Fr G (upd Z p o) (upd H p o) ρ σ c :=
  (F.alloc o h).freeze upd_same (F.free0 h) (NotOwned.of_none F h) hx ht
/-- a new list of one's own -/
theorem Fr.newO (F : Fr G Z H ρ σ c) {p : Addr} {d : D} {o : HO} (h : H p = none) (m : Img G.S Z d o) : Fr G Z (upd H p o) ρ σ c ∧ VOk G Z (upd H p o) ρ σ (.nw d) (.ref p) :=
  ⟨F.alloc _ h, p, rfl, ⟨o, upd_same, F.freeZ h, F.free0 h, m⟩, NotOwned.of_none F h⟩
theorem Fr.newL (F : Fr G Z H ρ σ c) {p : Addr} {ds : List D} {vs : List V} (h : H p = none) (hl : ds.length ≤ sizeLine) (r : Reps G.S Z ds vs) : Fr G Z (upd H p (.lst vs)) ρ σ c ∧ VOk G Z (upd H p (.lst vs)) ρ σ (.nw (.lst ds)) (.ref p) :=
  F.newO h ⟨vs, rfl, hl, r⟩
/-- share what is handed out -/
theorem Fr.share (F : Fr G Z H ρ σ c) {r : Vd} {v : V} (h : VOk G Z H ρ σ r v) : ∃ Z', Sub Z Z' ∧ Fr G Z' H ρ σ c ∧ Rep G.S Z' r.d v := by
  cases r with
  | sh d => exact ⟨Z, fun _ _ e => e, F, h⟩
  | nw d =>
    obtain ⟨a, rfl, ⟨o, h1, h2, h3, h4⟩, hn⟩ := h
    refine ⟨upd Z a o, sub_updZ h2, F.freeze h1 h3 hn h4.nown h4.ntbl, ?_⟩
    rw [Vd.d_nw]
    exact (h4.mono (sub_updZ h2)).rep upd_same
theorem set_get {α : Type} {l : List α} {i j : Nat} {x y : α} (h : (l.set i x)[j]? = some y) : (i = j ∧ y = x) ∨ (i ≠ j ∧ l[j]? = some y) := by
  by_cases e : i = j
  · subst e
    by_cases hl : i < l.length
    · rw [List.getElem?_set_self hl] at h; exact .inl ⟨rfl, (Option.some.inj h).symm⟩
    · rw [List.getElem?_eq_none (by simpa using hl)] at h; cases h
  · rw [List.getElem?_set_ne e] at h; exact .inr ⟨e, h⟩
/-- a slot is stored -/
theorem Fr.store (F : Fr G Z H ρ σ c) {i : Nat} {s : Slot} {v : V} (hs : SlotOk G Z H s (some (some v))) (ho : s.owns = true → ∃ a, v = .ref a ∧ NotOwned (ρ.set i .no) σ a) : Fr G Z H (ρ.set i s) (σ.set i (some v)) c where
  zh := F.zh
  gs := F.gs
  st := F.st
  len := by simp [F.len]
  sl := fun j t e => by
    rcases set_get e with ⟨rfl, rfl⟩ | ⟨ne, e⟩
    · have hl : i < σ.length := by
        have := (List.getElem?_eq_some_iff.mp e).1
        rw [List.length_set, F.len] at this; exact this
      rw [List.getElem?_set_self hl]; exact hs
    · rw [List.getElem?_set_ne ne]; exact F.sl j t e
  ap := by
    have key : ∀ (j : Nat) (t : Slot), i ≠ j → ρ[j]? = some t → t.owns = true → s.owns = true → (σ.set i (some v))[j]? ≠ some (some v) := fun j t ne e w w' q => by
      rw [List.getElem?_set_ne ne] at q
      obtain ⟨a, rfl, hn⟩ := ho w'
      exact hn j t (by rw [List.getElem?_set_ne ne]; exact e) w q
    intro j k t u ne e1 e2 w1 w2
    have hs' : ∀ m x, (ρ.set i s)[m]? = some x → i = m → (σ.set i (some v))[m]? = some (some v) := fun m x e q => by
      subst q
      have hl : i < σ.length := by
        have := (List.getElem?_eq_some_iff.mp e).1
        rw [List.length_set, F.len] at this; exact this
      rw [List.getElem?_set_self hl]
    rcases set_get e1 with ⟨rfl, rfl⟩ | ⟨n1, f1⟩
    · rcases set_get e2 with ⟨q, _⟩ | ⟨n2, f2⟩
      · exact absurd q ne
      · rw [hs' _ _ e1 rfl]
        exact fun q => key k u n2 f2 w2 w1 q.symm
    · rcases set_get e2 with ⟨rfl, rfl⟩ | ⟨n2, f2⟩
      · rw [hs' _ _ e2 rfl]
        exact fun q => key j t n1 f1 w1 w2 q
      · rw [List.getElem?_set_ne n1, List.getElem?_set_ne n2]
        exact F.ap j k t u ne f1 f2 w1 w2
  sm := F.sm
  fr := F.fr
  z0 := F.z0
  tb := F.tb
/-- a slot's word is forgotten -/
theorem Fr.forget (F : Fr G Z H ρ σ c) (i : Nat) : Fr G Z H (ρ.set i .no) σ c where
  zh := F.zh
  gs := F.gs
  st := F.st
  len := by simp [F.len]
  sl := fun j t e => by
    rcases set_get e with ⟨rfl, rfl⟩ | ⟨ne, e⟩
    · trivial
    · exact F.sl j t e
  ap := fun j k t u ne e1 e2 w1 w2 => by
    rcases set_get e1 with ⟨rfl, rfl⟩ | ⟨n1, f1⟩
    · cases w1
    · rcases set_get e2 with ⟨rfl, rfl⟩ | ⟨n2, f2⟩
      · cases w2
      · exact F.ap j k t u ne f1 f2 w1 w2
  sm := F.sm
  fr := F.fr
  z0 := F.z0
  tb := F.tb
/-- what a slot holds is handed out, and the slot forgotten -/
theorem Fr.move (F : Fr G Z H ρ σ c) {i : Nat} {d : D} (e : ρ[i]? = some (.ow d)) : ∃ v, σ[i]? = some (some v) ∧ VOk G Z H (ρ.set i .no) σ (.nw d) v := by
  obtain ⟨a, e1, o⟩ := F.sl i _ e
  refine ⟨_, e1, a, rfl, o, fun j s f w q => ?_⟩
  rcases set_get f with ⟨rfl, rfl⟩ | ⟨ne, f⟩
  · cases w
  · exact F.ap i j _ _ ne e f rfl w (by rw [e1, q])
/-- a list of one's own is frozen where it stands -/
theorem Fr.shareSlot (F : Fr G Z H ρ σ c) {i : Nat} {d : D} (e : ρ[i]? = some (.ow d)) : ∃ Z', Sub Z Z' ∧ Fr G Z' H (ρ.set i (.sh d)) σ c := by
  obtain ⟨v, e1, q⟩ := F.move e
  obtain ⟨Z', h1, F1, r⟩ := (F.forget i).share q
  refine ⟨Z', h1, ?_⟩
  have F2 := F1.store (i := i) (s := .sh d) (v := v) ⟨v, rfl, r⟩ (fun w => by cases w)
  have e2 : σ.set i (some v) = σ := by
    apply List.ext_getElem?
    intro j
    by_cases hj : i = j
    · subst hj
      have hl := (List.getElem?_eq_some_iff.mp e1).1
      rw [List.getElem?_set_self hl, e1]
    · rw [List.getElem?_set_ne hj]
  rw [e2, List.set_set] at F2
  exact F2
/-- a list of one's own is written -/
theorem Fr.writeO (F : Fr G Z H ρ σ c) {i : Nat} {d d' : D} {a : Addr} {u : HO} (e : ρ[i]? = some (.ow d)) (ea : σ[i]? = some (some (.ref a))) (m : Img G.S Z d' u) :
    Fr G Z (upd H a u) (ρ.set i (.ow d')) σ c := by
  obtain ⟨b, e1, ho, h1, h2, h3, h4⟩ := F.sl i _ e
  rw [ea] at e1; cases e1
  have nz : ∀ b o, Z b = some o → b ≠ a := fun b o q z => by rw [z, h2] at q; cases q
  have hil : i < ρ.length := (List.getElem?_eq_some_iff.mp e).1
  have oth : ∀ (j : Nat) (t : Slot), i ≠ j → ρ[j]? = some t → t.owns = true → ∀ x, σ[j]? = some (some (.ref x)) → x ≠ a := fun j t ne f w x q z => by
    subst z
    exact F.ap i j _ _ ne e f rfl w (by rw [ea, q])
  refine ⟨fun b o q => by rw [upd_ne (nz b o q)]; exact F.zh b o q, F.gs, F.st.keep (fun s q => ?_) F.st.noZ (.upd h1 h4.ntup), by simp [F.len], fun j t f => ?_, fun j k t u ne f1 f2 w1 w2 => ?_, fun b o q n => ?_, F.fr, F.z0, tabs_upd F.tb h1 h4.ntbl h4.ncode⟩
  · have n := F.notSt h3 s q
    exact ⟨upd_ne (Ne.symm n.1), upd_ne (Ne.symm n.2)⟩
  · rcases set_get f with ⟨rfl, rfl⟩ | ⟨ne, f⟩
    · exact ⟨a, ea, u, upd_same, h2, h3, m⟩
    · have q := F.sl j t f
      cases t with
      | no => trivial
      | sh d => exact q
      | ow d' =>
        obtain ⟨x, q1, vs', q2, q3⟩ := q
        exact ⟨x, q1, vs', by rw [upd_ne (oth j _ ne f rfl x q1)]; exact q2, q3⟩
      | ob x C ns ds' =>
        obtain ⟨x, q1, dx, fs, q2, q3, q4⟩ := q
        refine ⟨x, q1, dx, fs, by rw [upd_ne (oth j _ ne f rfl x q1)]; exact q2, ?_, q4⟩
        rw [upd_ne]
        · exact q3
        · intro z; rw [z, h1] at q3; exact h4.nown _ (Option.some.inj q3)
  · rcases set_get f1 with ⟨rfl, rfl⟩ | ⟨n1, g1⟩
    · rcases set_get f2 with ⟨q, _⟩ | ⟨n2, g2⟩
      · exact absurd q ne
      · exact F.ap i k _ _ ne e g2 rfl w2
    · rcases set_get f2 with ⟨rfl, rfl⟩ | ⟨n2, g2⟩
      · exact F.ap j i _ _ ne g1 e w1 rfl
      · exact F.ap j k t u ne g1 g2 w1 w2
  · have nb : b ≠ a := by
      rintro rfl
      rw [h3] at q; cases q
    rw [upd_ne nb]
    exact F.sm b o q n
theorem Fr.atL (F : Fr G Z H ρ σ c) {i : Nat} {ds : List D} (e : ρ[i]? = some (.ow (.lst ds))) : ∃ a vs, σ[i]? = some (some (.ref a)) ∧ H a = some (.lst vs) ∧ Z a = none ∧ G.H0 a = none ∧ ds.length ≤ sizeLine ∧ Reps G.S Z ds vs := by
  obtain ⟨a, e1, o, h1, h2, h3, vs, rfl, h4, h5⟩ := F.sl i _ e
  exact ⟨a, vs, e1, h1, h2, h3, h4, h5⟩
theorem Fr.write (F : Fr G Z H ρ σ c) {i : Nat} {d : D} {es : List D} {a : Addr} {us : List V} (e : ρ[i]? = some (.ow d)) (ea : σ[i]? = some (some (.ref a))) (hl : es.length ≤ sizeLine) (r : Reps G.S Z es us) :
    Fr G Z (upd H a (.lst us)) (ρ.set i (.ow (.lst es))) σ c := F.writeO e ea ⟨us, rfl, hl, r⟩
/-- what is owned is no tuple -/
theorem Fr.owned_at (F : Fr G Z H ρ σ c) {b : Addr} (h : ∃ (i : Nat) (s : Slot), ρ[i]? = some s ∧ s.owns = true ∧ (σ[i]? = some (some (.ref b)) ∨ ∃ y, H b = some (.own y) ∧ σ[i]? = some (some (.ref y)))) :
    ∃ u, H b = some u ∧ (∀ vs, u ≠ .tup vs) ∧ ∀ ps, u ≠ .tbl ps := by
  obtain ⟨i, s, e, w, q⟩ := h
  rcases q with q | ⟨y, hy, _⟩
  · have z := F.sl i s e
    cases s with
    | no => cases w
    | sh d => cases w
    | ow d =>
      obtain ⟨a, ea, o, h1, _, _, m⟩ := z
      rw [q] at ea; cases ea
      exact ⟨o, h1, m.ntup, m.ntbl⟩
    | ob x C ns ds =>
      obtain ⟨a, ea, dx, fs, h1, _⟩ := z
      rw [q] at ea; cases ea
      refine ⟨_, h1, ?_, ?_⟩ <;> (intro a z; cases z)
  · refine ⟨_, hy, ?_, ?_⟩ <;> (intro a z; cases z)
theorem NewIn.off {H0 : Hp} {b : Addr} {o u : HO} (n : NewIn H0 b o) (zo : H' b = some o) (hu : H0 b = some u) (hk : H' b = some u) (nt : ∀ vs, u ≠ .tup vs) : False := by
  rcases n.at_ with e | ⟨vs, rfl⟩
  · rw [e] at hu; cases hu
  · rw [zo] at hk
    cases hk
    exact nt vs rfl
end
end DL
set_option Elab.async false
set_option linter.all false
set_option maxRecDepth 100000
set_option maxHeartbeats 4000000
namespace DL
open PySem L2
/-- an exception: its class, the names and data of its fields -/
structure XD where
  C : Addr
  ns : List Str
  vs : List D
abbrev DX := XD → Rho → Prop
abbrev DTE := Rho → (Vd → Rho → Prop) → DX → Prop
abbrev DTT := Rho → (Bool → Rho → Prop) → DX → Prop
abbrev DTA := Rho → (List D → Rho → Prop) → DX → Prop
def XOk (S : Option Stm) (Z H : Hp) (cls : Value) (d : Option Addr) (x : XD) : Prop := cls = .ref x.C ∧ ∃ dx fs, d = some dx ∧ Z dx = some (.xd fs) ∧ x.ns = fs.map (·.1) ∧ Reps S Z x.vs (fs.map (·.2))
def LW (G : Gh) (W : DX) : WX := fun cls d σ H => ∃ Z ρ c x, Fr G Z H ρ σ c ∧ c ≤ G.cm ∧ XOk G.S Z H cls d x ∧ W x ρ
abbrev noW : DX := fun _ _ => False
def LE (G : Gh) (n : Nat) (t : DTE) (W : DX) : TE := fun σ H Q => ∃ Z ρ c Qd, Fr G Z H ρ σ c ∧ c + n ≤ G.cm ∧ t ρ Qd W ∧
  ∀ r ρ' Z' H' v c', Sub Z Z' → c' ≤ c + n → Qd r ρ' → Fr G Z' H' ρ' σ c' → VOk G Z' H' ρ' σ r v → Q v H'
def LT (G : Gh) (n : Nat) (t : DTT) (W : DX) : TT := fun σ H Q => ∃ Z ρ c Qd, Fr G Z H ρ σ c ∧ c + n ≤ G.cm ∧ t ρ Qd W ∧
  ∀ b ρ' Z' H' c', Sub Z Z' → c' ≤ c + n → Qd b ρ' → Fr G Z' H' ρ' σ c' → Q b H'
def LA (G : Gh) (n : Nat) (t : DTA) (W : DX) : TA := fun σ H Q => ∃ Z ρ c Qd, Fr G Z H ρ σ c ∧ c + n ≤ G.cm ∧ t ρ Qd W ∧
  ∀ ds ρ' Z' H' vs c', Sub Z Z' → c' ≤ c + n → Qd ds ρ' → Fr G Z' H' ρ' σ c' → Reps G.S Z' ds vs → Q vs H'
structure Tk (X : Cx) (G : Gh) (W : DX) : Prop where
  tk : Takes X (LW G W)
  ok : G.T = tabsOf X.K
def DE (X : Cx) (n : Nat) (e : Expr) (t : DTE) : Prop := ∀ G W, Tk X G W → PE X e (LE G n t W)
def DT (X : Cx) (n : Nat) (e : Expr) (t : DTT) : Prop := ∀ G W, Tk X G W → PT X e (LT G n t W)
def DWt (X : Cx) (n : Nat) (e : Expr) (t : DTT) : Prop := ∀ G W, Tk X G W → PW X e (LT G n t W)
def DA (X : Cx) (n : Nat) (es : List Expr) (t : DTA) : Prop := ∀ G W, Tk X G W → PA X es (LA G n t W)
theorem PE.weak {X : Cx} {e : Expr} {t t' : TE} (h : PE X e t) (k : ∀ σ H Q, t' σ H Q → t σ H Q) : PE X e t' := ⟨fun pins s σ H Q I hw => h.run pins s σ H Q I (k σ H Q hw)⟩
theorem PT.weak {X : Cx} {e : Expr} {t t' : TT} (h : PT X e t) (k : ∀ σ H Q, t' σ H Q → t σ H Q) : PT X e t' := ⟨fun pins s σ H Q I hw => h.run pins s σ H Q I (k σ H Q hw)⟩
theorem PW.weak {X : Cx} {e : Expr} {t t' : TT} (h : PW X e t) (k : ∀ σ H Q, t' σ H Q → t σ H Q) : PW X e t' := ⟨fun wh pins s σ H Q I hw => h.run wh pins s σ H Q I (k σ H Q hw)⟩
theorem PA.weak {X : Cx} {e : List Expr} {t t' : TA} (h : PA X e t) (k : ∀ σ H Q, t' σ H Q → t σ H Q) : PA X e t' := ⟨fun pos pins s σ H Q I hw => h.run pos pins s σ H Q I (k σ H Q hw)⟩
theorem PS.weak {X : Cx} {e : Stmt} {t t' : TS} (h : PS X e t) (k : ∀ D σ H, t' D σ H → t D σ H) : PS X e t' := ⟨fun pins s σ H D I hw => h.run pins s σ H D I (k D σ H hw)⟩
theorem PSs.weak {X : Cx} {e : List Stmt} {t t' : TS} (h : PSs X e t) (k : ∀ D σ H, t' D σ H → t D σ H) : PSs X e t' := ⟨fun pins s σ H D I hw => h.run pins s σ H D I (k D σ H hw)⟩
/-- what is handed out by an operation that makes new things alone -/
def ROk (S : Option Stm) (H Z' H' : Hp) : Vd → V → Prop
  | .sh d, v => Rep S Z' d v
  | .nw d, v => ∃ a o, v = .ref a ∧ H' a = some o ∧ Z' a = none ∧ H a = none ∧ Img S Z' d o
/-- an operation by values, told over data -/
def Pur (r : List V → Hp → VK → Prop) (f : List D → Option Vd) : Prop := ∀ (S : Option Stm) (vs : List V) (H Z : Hp) (ds : List D) (res : Vd) (Q : VK), Sub Z H → Reps S Z ds vs → f ds = some res →
  (∀ Z' H' v, Sub Z Z' → Sub Z' H' → Sub H H' → (∀ b o, Z' b = some o → Z b = some o ∨ (NewIn (H) b o)) → ROk S H Z' H' res v → Q v H') → r vs H Q
section
variable {G : Gh} {Z Z' H H' : Hp} {ρ : Rho} {σ : L2.St} {c c' : Nat}
theorem Fr.pur (F : Fr G Z H ρ σ c) {res : Vd} {v : V} (h1 : Sub Z Z') (h2 : Sub Z' H') (h3 : Sub H H') (h4 : ∀ b o, Z' b = some o → Z b = some o ∨ (NewIn (H) b o)) (r : ROk G.S H Z' H' res v) : Fr G Z' H' ρ σ c ∧ VOk G Z' H' ρ σ res v := by
  have F1 : Fr G Z' H' ρ σ c := by
    refine F.step h1 h2 (F.st.keep (fun s e => ?_) (fun s e => ?_) (.sub h3)) (.ofv h3) (F.tb.ext h3) (fun b o e => ?_) fun b e1 e2 _ e4 => ?_
    · obtain ⟨n1, n2⟩ := F.stThere s e
      constructor
      · cases q : H s.st with
        | none => exact absurd q n1
        | some o => exact h3 _ _ q
      · cases q : H s.cl with
        | none => exact absurd q n2
        | some o => exact h3 _ _ q
    · obtain ⟨n1, n2⟩ := F.stThere s e
      obtain ⟨z1, z2⟩ := F.st.noZ s e
      constructor
      · cases q : Z' s.st with
        | none => rfl
        | some o =>
          rcases h4 _ _ q with z | z
          · rw [z1] at z; cases z
          · obtain ⟨⟨_, g1, g2, _⟩, _⟩ := F.st.at_ e
            exact (z.off (h2 _ _ q) g1 (h3 _ _ g1) g2).elim
      · cases q : Z' s.cl with
        | none => rfl
        | some o =>
          rcases h4 _ _ q with z | z
          · rw [z2] at z; cases z
          · obtain ⟨_, _, g1, g2, _⟩ := F.st.at_ e
            exact (z.off (h2 _ _ q) g1 (h3 _ _ g1) g2).elim
    · rcases h4 b o e with q | q
      · exact .inl q
      · exact .inr ⟨q.at_.imp F.free0 id, q.nt⟩
    · cases q : Z' b with
      | none => rfl
      | some o =>
        rcases h4 _ _ q with z | z
        · rw [e1] at z; cases z
        · obtain ⟨u, g1, g2, _⟩ := F.owned_at e4
          exact (z.off (h2 _ _ q) g1 (h3 _ _ g1) g2).elim
  refine ⟨F1, ?_⟩
  cases res with
  | sh d => exact r
  | nw d =>
    obtain ⟨a, vs, e, q1, q2, q3, q4⟩ := r
    exact ⟨a, e, ⟨vs, q1, q2, F.free0 q3, q4⟩, NotOwned.of_none F q3⟩
end
section
variable {G : Gh} {X : Cx} {n m k : Nat} {a b e : Expr} {es : List Expr} {ta tb tc : DTE} {tA tB : DTT} {ts : DTA} {pos : Pos}
theorem DE.le (h : DE X n e ta) (hn : n ≤ m) : DE X m e ta := fun G W tk => PE.weak (h G W tk) fun σ H Q ⟨Z, ρ, c, Qd, F, hc, t, k⟩ =>
  ⟨Z, ρ, c, Qd, F, by omega, t, fun r ρ' Z' H' v c' z1 z2 z3 z4 z5 => k r ρ' Z' H' v c' z1 (by omega) z3 z4 z5⟩
/-- a weaker reading -/
theorem DE.imp (h : DE X n e ta) (k : ∀ ρ Q W, tb ρ Q W → ta ρ Q W) : DE X n e tb := fun G W tk => PE.weak (h G W tk) fun σ H Q ⟨Z, ρ, c, Qd, F, hc, t, q⟩ => ⟨Z, ρ, c, Qd, F, hc, k _ _ _ t, q⟩
/-! ### names and constants -/
@[simp] def dVar (i : Nat) : DTE := fun ρ Q _ => match ρ[i]? with
  | some (.sh d) => Q (.sh d) ρ
  | some (.ow d) => Q (.sh d) (ρ.set i (.sh d))
  | _ => False
@[simp] def dMove (i : Nat) : DTE := fun ρ Q _ => match ρ[i]? with
  | some (.sh d) => Q (.sh d) ρ
  | some (.ow d) => Q (.nw d) (ρ.set i .no)
  | _ => False
@[simp] def dC (d : D) : DTE := fun ρ Q _ => Q (.sh d) ρ
theorem de_of {t : TE} {td : DTE} (h : PE X e t) (k : ∀ G W σ H Q, LE G n td W σ H Q → t σ H Q) : DE X n e td := fun G W _ => PE.weak h (k G W)
theorem de_var {i : Nat} (h : PE X e (tVar i)) : DE X 0 e (dVar i) := de_of h fun G W σ H Q ⟨Z, ρ, c, Qd, F, hc, t, k⟩ => by
  unfold dVar at t
  split at t
  · rename_i d hd
    obtain ⟨v, e1, r⟩ := F.sl i _ hd
    exact ⟨v, e1, k _ _ Z H v c (fun _ _ e => e) (Nat.le_refl _) t F r⟩
  · rename_i ds hd
    obtain ⟨Z', h1, F1⟩ := F.shareSlot hd
    obtain ⟨v, e1, r⟩ := F1.sl i (.sh ds) (by rw [List.getElem?_set_self (List.getElem?_eq_some_iff.mp hd).1])
    exact ⟨v, e1, k _ _ Z' H v c h1 (Nat.le_refl _) t F1 r⟩
  · exact t.elim
theorem de_move {i : Nat} (h : PE X e (tVar i)) : DE X 0 e (dMove i) := de_of h fun G W σ H Q ⟨Z, ρ, c, Qd, F, hc, t, k⟩ => by
  unfold dMove at t
  split at t
  · rename_i d hd
    obtain ⟨v, e1, r⟩ := F.sl i _ hd
    exact ⟨v, e1, k _ _ Z H v c (fun _ _ e => e) (Nat.le_refl _) t F r⟩
  · rename_i ds hd
    obtain ⟨v, e1, r⟩ := F.move hd
    exact ⟨v, e1, k _ _ Z H v c (fun _ _ e => e) (Nat.le_refl _) t (F.forget i) r⟩
  · exact t.elim
theorem de_c {v : V} {d : D} (h : PE X e (tC v)) (hr : ∀ S Z, Rep S Z d v) : DE X 0 e (dC d) := de_of h fun G W σ H Q ⟨Z, ρ, c, Qd, F, hc, t, k⟩ =>
  k _ _ Z H v c (fun _ _ e => e) (Nat.le_refl _) t F (hr _ _)
theorem de_int {i : Int} {j : Nat} : DE X 0 (.Constant (.int i) j pos) (dC (.int i)) := de_c pe_int fun _ _ => by rw [Rep]
theorem de_str {x : Str} {j : Nat} (h : SOk x := by decide +kernel) : DE X 0 (.Constant (.str x) j pos) (dC (.str x)) := de_c pe_str fun _ _ => by rw [Rep]; exact ⟨rfl, h⟩
theorem de_bl {x : Bool} {j : Nat} : DE X 0 (.Constant (.bool x) j pos) (dC (.bl x)) := de_c pe_bl fun _ _ => by rw [Rep]
theorem de_non {j : Nat} : DE X 0 (.Constant .none j pos) (dC .non) := de_c pe_non fun _ _ => by rw [Rep]
/-! ### arguments -/
@[simp] def dNil : DTA := fun ρ Q _ => Q [] ρ
@[simp] def dCons (ta : DTE) (tr : DTA) : DTA := fun ρ Q W => ta ρ (fun x ρ1 => tr ρ1 (fun xs ρ2 => Q (x.d :: xs) ρ2) W) W
theorem da_nil : DA X 0 [] dNil := fun G W _ => PA.weak pa_nil fun σ H Q ⟨Z, ρ, c, Qd, F, hc, t, k⟩ => k [] ρ Z H [] c (fun _ _ e => e) (Nat.le_refl _) t F Reps.nil
theorem da_cons (ha : DE X n e ta) (hr : DA X m es ts) (hs : starEach (e :: es) X.env = (false, eval e X.env) :: starEach es X.env := by rfl) : DA X (n + m) (e :: es) (dCons ta ts) := fun G W tk =>
  PA.weak (pa_cons (ha G W tk) (hr G W tk) hs) fun σ H Q ⟨Z, ρ, c, Qd, F, hc, t, k⟩ => by
    refine ⟨Z, ρ, c, _, F, by omega, t, fun r ρ1 Z1 H1 v c1 z1 hc1 q F1 o => ?_⟩
    obtain ⟨Z2, z2, F2, rp⟩ := F1.share o
    refine ⟨Z2, ρ1, c1, _, F2, by omega, q, fun ds ρ3 Z3 H3 vs c3 z3 hc3 q3 F3 rs => ?_⟩
    exact k _ _ Z3 H3 _ c3 (z1.trans (z2.trans z3)) (by omega) q3 F3 (Reps.cons (rp.mono z3) rs)
@[simp] def dTup (ts : DTA) : DTE := fun ρ Q W => ts ρ (fun ds ρ' => ds.length ≤ sizeLine ∧ Q (.sh (.tup ds)) ρ') W
@[simp] def dLst (ts : DTA) : DTE := fun ρ Q W => ts ρ (fun ds ρ' => ds.length ≤ sizeLine ∧ Q (.nw (.lst ds)) ρ') W
theorem de_tup {x1} (h : DA X n es ts) : DE X n (.Tuple es x1 pos) (dTup ts) := fun G W tk => PE.weak (pe_tup (h G W tk)) fun σ H Q ⟨Z, ρ, c, Qd, F, hc, t, k⟩ => by
  refine ⟨Z, ρ, c, _, F, hc, t, fun ds ρ1 Z1 H1 vs c1 z1 hc1 q F1 rs => ?_⟩
  obtain ⟨hl, q⟩ := q
  refine ⟨by rw [← rs.length]; exact hl, fun p hp => ?_⟩
  refine k _ _ (upd Z1 p (.tup vs)) _ _ c1 (z1.trans (sub_updZ (F1.freeZ hp))) hc1 q (F1.new _ hp (fun y z => by cases z)) ?_
  show Rep _ _ _ _
  rw [Rep.tup_iff]
  exact ⟨p, vs, rfl, upd_same, hl, rs.mono (sub_updZ (F1.freeZ hp))⟩
theorem de_lst (h : DA X n es ts) : DE X n (.List es pos) (dLst ts) := fun G W tk => PE.weak (pe_lst (h G W tk)) fun σ H Q ⟨Z, ρ, c, Qd, F, hc, t, k⟩ => by
  refine ⟨Z, ρ, c, _, F, hc, t, fun ds ρ1 Z1 H1 vs c1 z1 hc1 q F1 rs => ?_⟩
  obtain ⟨hl, q⟩ := q
  refine ⟨by rw [← rs.length]; exact hl, fun p hp => ?_⟩
  obtain ⟨F2, o⟩ := F1.newL hp hl rs
  exact k _ _ Z1 _ _ c1 z1 hc1 q F2 o
/-! ### operations by values -/
@[simp] def dOp1 (f : List D → Option Vd) (ta : DTE) : DTE := fun ρ Q W => ta ρ (fun x ρ1 => ∃ z, f [x.d] = some z ∧ Q z ρ1) W
@[simp] def dOp2 (f : List D → Option Vd) (ta tb : DTE) : DTE := fun ρ Q W => ta ρ (fun x ρ1 => tb ρ1 (fun y ρ2 => ∃ z, f [x.d, y.d] = some z ∧ Q z ρ2) W) W
@[simp] def dOpN (f : List D → Option Vd) (ts : DTA) : DTE := fun ρ Q W => ts ρ (fun xs ρ1 => ∃ z, f xs = some z ∧ Q z ρ1) W
/-- two operands in a row, then what is asked of the values -/
theorem two_ok {r : V → V → Hp → VK → Prop} {f : List D → Option Vd} (hp : Pur (fun vs H Q => ∃ x y, vs = [x, y] ∧ r x y H Q) f) {W : DX} {σ : L2.St} {H : Hp} {Q : VK}
    (h : LE G (n + m) (dOp2 f ta tb) W σ H Q) : LE G n ta W σ H fun x H1 => LE G m tb W σ H1 fun y H2 => r x y H2 Q := by
  obtain ⟨Z, ρ, c, Qd, F, hc, t, k⟩ := h
  refine ⟨Z, ρ, c, _, F, by omega, t, fun x ρ1 Z1 H1 v c1 z1 hc1 q F1 o => ?_⟩
  obtain ⟨Z2, z2, F2, rp⟩ := F1.share o
  refine ⟨Z2, ρ1, c1, _, F2, by omega, q, fun y ρ3 Z3 H3 u c3 z3 hc3 q3 F3 o3 => ?_⟩
  obtain ⟨Z4, z4, F4, rp4⟩ := F3.share o3
  obtain ⟨z, e, q4⟩ := q3
  obtain ⟨x', y', e1, hr⟩ := hp G.S [v, u] H3 Z4 _ z Q F4.zh (Reps.cons (rp.mono (z3.trans z4)) (Reps.cons rp4 Reps.nil)) e fun Z5 H5 w y1 y2 y3 y4 ro => by
    obtain ⟨F5, o5⟩ := F4.pur y1 y2 y3 y4 ro
    exact k _ _ Z5 H5 w c3 (z1.trans (z2.trans (z3.trans (z4.trans y1)))) (by omega) q4 F5 o5
  cases e1
  exact hr
theorem one_ok {r : V → Hp → VK → Prop} {f : List D → Option Vd} (hp : Pur (fun vs H Q => ∃ x, vs = [x] ∧ r x H Q) f) {W : DX} {σ : L2.St} {H : Hp} {Q : VK}
    (h : LE G n (dOp1 f ta) W σ H Q) : LE G n ta W σ H fun x H1 => r x H1 Q := by
  obtain ⟨Z, ρ, c, Qd, F, hc, t, k⟩ := h
  refine ⟨Z, ρ, c, _, F, by omega, t, fun x ρ1 Z1 H1 v c1 z1 hc1 q F1 o => ?_⟩
  obtain ⟨Z2, z2, F2, rp⟩ := F1.share o
  obtain ⟨z, e, q4⟩ := q
  obtain ⟨x', e1, hr⟩ := hp G.S [v] H1 Z2 _ z Q F2.zh (Reps.cons rp Reps.nil) e fun Z5 H5 w y1 y2 y3 y4 ro => by
    obtain ⟨F5, o5⟩ := F2.pur y1 y2 y3 y4 ro
    exact k _ _ Z5 H5 w c1 (z1.trans (z2.trans y1)) (by omega) q4 F5 o5
  cases e1
  exact hr
theorem many_ok {r : List V → Hp → VK → Prop} {f : List D → Option Vd} (hp : Pur r f) {W : DX} {σ : L2.St} {H : Hp} {Q : VK}
    (h : LE G n (dOpN f ts) W σ H Q) : LA G n ts W σ H fun vs H1 => r vs H1 Q := by
  obtain ⟨Z, ρ, c, Qd, F, hc, t, k⟩ := h
  refine ⟨Z, ρ, c, _, F, by omega, t, fun xs ρ1 Z1 H1 vs c1 z1 hc1 q F1 rs => ?_⟩
  obtain ⟨z, e, q4⟩ := q
  exact hp G.S vs H1 Z1 _ z Q F1.zh rs e fun Z5 H5 w y1 y2 y3 y4 ro => by
    obtain ⟨F5, o5⟩ := F1.pur y1 y2 y3 y4 ro
    exact k _ _ Z5 H5 w c1 (z1.trans y1) (by omega) q4 F5 o5
/-- an operator over data -/
structure OpD (X : Cx) (g : Value → Value → Sem Value) (f : List D → Option Vd) : Prop where
  ex : ∃ r : R2, OpR X g r ∧ Pur (fun vs H Q => ∃ x y, vs = [x, y] ∧ r x y H Q) f
structure UnD (X : Cx) (g : Value → Sem Value) (f : List D → Option Vd) : Prop where
  ex : ∃ r : V → Hp → VK → Prop, UnR X g r ∧ Pur (fun vs H Q => ∃ x, vs = [x] ∧ r x H Q) f
structure CallD (X : Cx) (g : Value) (f : List D → Option Vd) : Prop where
  ex : ∃ r : List V → Hp → VK → Prop, CallR X g r ∧ Pur r f
theorem de_op {op : Operator} {f : List D → Option Vd} (ho : OpD X (binaryOp op) f) (ha : DE X n a ta) (hb : DE X m b tb) : DE X (n + m) (.BinOp a op b pos) (dOp2 f ta tb) := fun G W tk => by
  obtain ⟨r, h1, h2⟩ := ho.ex
  exact PE.weak (pe_op h1 (ha G W tk) (hb G W tk)) fun σ H Q h => two_ok h2 h
theorem de_un {op : UnaryOp} {f : List D → Option Vd} (ho : UnD X (unaryOp op) f) (ha : DE X n a ta) : DE X n (.UnaryOp op a pos) (dOp1 f ta) := fun G W tk => by
  obtain ⟨r, h1, h2⟩ := ho.ex
  exact PE.weak (pe_un h1 (ha G W tk)) fun σ H Q h => one_ok h2 h
theorem de_cmp {op : CmpOp} {f : List D → Option Vd} (ho : OpD X (compareOp op) f) (ha : DE X n a ta) (hb : DE X m b tb) (hm : behindInMarks op b = false) : DE X (n + m) (.Compare a [op] [b] pos) (dOp2 f ta tb) := fun G W tk => by
  obtain ⟨r, h1, h2⟩ := ho.ex
  exact PE.weak (pe_cmpR h1 (ha G W tk) (hb G W tk) hm) fun σ H Q h => two_ok h2 h
theorem de_callB {id : String} {x : Str} {p : Pos} {f : List D → Option Vd} (ho : CallD X (.builtin id) f) (hg : Gl X x) (hm : X.mg x = none) (hv : bootBuiltins x = some (.builtin id)) (ha : DA X n (e :: es) ts)
    (hn : x ≠ "__name__" := by decide) (hdb : (x == ("__debug__" : Str)) = false := by decide) (he : starEach (e :: es) X.env = (false, eval e X.env) :: starEach es X.env := by rfl) (hpl : (backTo pos (starEach es X.env)).any (·.1) = false := by rfl) :
    DE X n (.Call (.Name x p) (e :: es) [] pos) (dOpN f ts) := fun G W tk => by
  obtain ⟨r, h1, h2⟩ := ho.ex
  exact PE.weak (pe_callB h1 hg hm hv (ha G W tk) hn hdb he hpl) fun σ H Q h => many_ok h2 h
theorem de_callTy {id : String} {x : Str} {p : Pos} {f : List D → Option Vd} (ho : CallD X (.type id) f) (hg : Gl X x) (hm : X.mg x = none) (hv : bootBuiltins x = some (.type id)) (ha : DA X n (e :: es) ts)
    (hn : x ≠ "__name__" := by decide) (hdb : (x == ("__debug__" : Str)) = false := by decide) (he : starEach (e :: es) X.env = (false, eval e X.env) :: starEach es X.env := by rfl) (hpl : (backTo pos (starEach es X.env)).any (·.1) = false := by rfl) :
    DE X n (.Call (.Name x p) (e :: es) [] pos) (dOpN f ts) := fun G W tk => by
  obtain ⟨r, h1, h2⟩ := ho.ex
  exact PE.weak (pe_callTy h1 hg hm hv (ha G W tk) hn hdb he hpl) fun σ H Q h => many_ok h2 h
/-! ### tests -/
@[simp] def dTest (ta : DTE) : DTT := fun ρ Q W => ta ρ (fun x ρ1 => ∃ b, x.d = .bl b ∧ Q b ρ1) W
@[simp] def dAnd (t u : DTT) : DTT := fun ρ Q W => t ρ (fun c ρ1 => if c = true then u ρ1 Q W else Q false ρ1) W
@[simp] def dOr (t u : DTT) : DTT := fun ρ Q W => t ρ (fun c ρ1 => if c = true then Q true ρ1 else u ρ1 Q W) W
@[simp] def dNot (t : DTT) : DTT := fun ρ Q W => t ρ (fun c ρ1 => Q (!c) ρ1) W
theorem test_ok {W : DX} {σ : L2.St} {H : Hp} {Q : Bool → Hp → Prop} (h : LT G n (dTest ta) W σ H Q) : LE G n ta W σ H fun x H1 => ∃ c, x = .bl c ∧ Q c H1 := by
  obtain ⟨Z, ρ, c, Qd, F, hc, t, k⟩ := h
  refine ⟨Z, ρ, c, _, F, by omega, t, fun x ρ1 Z1 H1 v c1 z1 hc1 q F1 o => ?_⟩
  obtain ⟨Z2, z2, F2, rp⟩ := F1.share o
  obtain ⟨b, e, q⟩ := q
  rw [e, Rep.bl_iff] at rp
  exact ⟨b, rp, k b ρ1 Z2 H1 c1 (z1.trans z2) hc1 q F2⟩
theorem dt_cmp {op : CmpOp} {f : List D → Option Vd} (ho : OpD X (compareOp op) f) (ha : DE X n a ta) (hb : DE X m b tb) (hm : behindInMarks op b = false) : DT X (n + m) (.Compare a [op] [b] pos) (dTest (dOp2 f ta tb)) := fun G W tk => by
  obtain ⟨r, h1, h2⟩ := ho.ex
  refine PT.weak (pt_cmpR h1 (ha G W tk) (hb G W tk) hm) fun σ H Q h => ?_
  have h' := test_ok h
  obtain ⟨Z, ρ, c, Qd, F, hc, t, k⟩ := h'
  exact two_ok h2 ⟨Z, ρ, c, Qd, F, hc, t, k⟩
theorem dt_val (ha : DE X n e ta) (he : ∀ whole, isTrue e X.env whole = (do let v ← whole; standAt e.pos; holding [v] (truthy v)) := by intro _; rfl) : DT X n e (dTest ta) := fun G W tk =>
  PT.weak (pt_val (ha G W tk) he) fun σ H Q h => test_ok h
theorem dw_and1 (ha : DT X n a tA) : DWt X n (.BoolOp .And [a] pos) tA := fun G W tk => pw_and1 (ha G W tk)
theorem dw_or1 (ha : DT X n a tA) : DWt X n (.BoolOp .Or [a] pos) tA := fun G W tk => pw_or1 (ha G W tk)
theorem dw_and (ha : DT X n a tA) (hb : DWt X m (.BoolOp .And (b :: es) pos) tB) : DWt X (n + m) (.BoolOp .And (a :: b :: es) pos) (dAnd tA tB) := fun G W tk => PW.weak (pw_and (ha G W tk) (hb G W tk)) fun σ H Q h => by
  obtain ⟨Z, ρ, c, Qd, F, hc, t, k⟩ := h
  refine ⟨Z, ρ, c, _, F, by omega, t, fun x ρ1 Z1 H1 c1 z1 hc1 q F1 => ?_⟩
  cases x with
  | true => exact ⟨Z1, ρ1, c1, Qd, F1, by omega, q, fun b ρ2 Z2 H2 c2 z2 hc2 q2 F2 => k b ρ2 Z2 H2 c2 (z1.trans z2) (by omega) q2 F2⟩
  | false => exact k _ ρ1 Z1 H1 c1 z1 (by omega) q F1
theorem dw_or (ha : DT X n a tA) (hb : DWt X m (.BoolOp .Or (b :: es) pos) tB) : DWt X (n + m) (.BoolOp .Or (a :: b :: es) pos) (dOr tA tB) := fun G W tk => PW.weak (pw_or (ha G W tk) (hb G W tk)) fun σ H Q h => by
  obtain ⟨Z, ρ, c, Qd, F, hc, t, k⟩ := h
  refine ⟨Z, ρ, c, _, F, by omega, t, fun x ρ1 Z1 H1 c1 z1 hc1 q F1 => ?_⟩
  cases x with
  | false => exact ⟨Z1, ρ1, c1, Qd, F1, by omega, q, fun b ρ2 Z2 H2 c2 z2 hc2 q2 F2 => k b ρ2 Z2 H2 c2 (z1.trans z2) (by omega) q2 F2⟩
  | true => exact k _ ρ1 Z1 H1 c1 z1 (by omega) q F1
theorem DWt.dt (h : DWt X n e tA) : DT X n e tA := fun G W tk => (h G W tk).pt
theorem dt_not (ha : DT X n a tA) : DT X n (.UnaryOp .Not a pos) (dNot tA) := fun G W tk => PT.weak (pt_not (ha G W tk)) fun σ H Q h => by
  obtain ⟨Z, ρ, c, Qd, F, hc, t, k⟩ := h
  exact ⟨Z, ρ, c, _, F, hc, t, fun x ρ1 Z1 H1 c1 z1 hc1 q F1 => k _ ρ1 Z1 H1 c1 z1 hc1 q F1⟩
/-! values -/
@[simp] def dAndV (ta tb : DTE) : DTE := fun ρ Q W => ta ρ (fun x ρ1 => ∃ b, x.d = .bl b ∧ if b = true then tb ρ1 Q W else Q (.sh (.bl false)) ρ1) W
@[simp] def dOrV (ta tb : DTE) : DTE := fun ρ Q W => ta ρ (fun x ρ1 => ∃ b, x.d = .bl b ∧ if b = true then Q (.sh (.bl true)) ρ1 else tb ρ1 Q W) W
@[simp] def dNotV (ta : DTE) : DTE := fun ρ Q W => ta ρ (fun x ρ1 => ∃ b, x.d = .bl b ∧ Q (.sh (.bl (!b))) ρ1) W
@[simp] def dIfE (t : DTT) (ta tb : DTE) : DTE := fun ρ Q W => t ρ (fun c ρ1 => if c = true then ta ρ1 Q W else tb ρ1 Q W) W
theorem de_one {op} (h : DE X n a ta) : DE X n (.BoolOp op [a] pos) ta := fun G W tk => pe_one (h G W tk)
theorem de_and (ha : DE X n a ta) (hb : DE X m (.BoolOp .And (b :: es) pos) tb) : DE X (n + m) (.BoolOp .And (a :: b :: es) pos) (dAndV ta tb) := fun G W tk => PE.weak (pe_and (ha G W tk) (hb G W tk)) fun σ H Q h => by
  obtain ⟨Z, ρ, c, Qd, F, hc, t, k⟩ := h
  refine ⟨Z, ρ, c, _, F, by omega, t, fun x ρ1 Z1 H1 v c1 z1 hc1 q F1 o => ?_⟩
  obtain ⟨Z2, z2, F2, rp⟩ := F1.share o
  obtain ⟨b, e, q⟩ := q
  rw [e, Rep.bl_iff] at rp
  refine ⟨b, rp, ?_⟩
  cases b with
  | true => exact ⟨Z2, ρ1, c1, Qd, F2, by omega, q, fun r ρ3 Z3 H3 v3 c3 z3 hc3 q3 F3 o3 => k r ρ3 Z3 H3 v3 c3 (z1.trans (z2.trans z3)) (by omega) q3 F3 o3⟩
  | false => exact k _ ρ1 Z2 H1 _ c1 (z1.trans z2) (by omega) q F2 (show Rep _ _ _ _ by rw [Rep])
theorem de_or (ha : DE X n a ta) (hb : DE X m (.BoolOp .Or (b :: es) pos) tb) : DE X (n + m) (.BoolOp .Or (a :: b :: es) pos) (dOrV ta tb) := fun G W tk => PE.weak (pe_or (ha G W tk) (hb G W tk)) fun σ H Q h => by
  obtain ⟨Z, ρ, c, Qd, F, hc, t, k⟩ := h
  refine ⟨Z, ρ, c, _, F, by omega, t, fun x ρ1 Z1 H1 v c1 z1 hc1 q F1 o => ?_⟩
  obtain ⟨Z2, z2, F2, rp⟩ := F1.share o
  obtain ⟨b, e, q⟩ := q
  rw [e, Rep.bl_iff] at rp
  refine ⟨b, rp, ?_⟩
  cases b with
  | false => exact ⟨Z2, ρ1, c1, Qd, F2, by omega, q, fun r ρ3 Z3 H3 v3 c3 z3 hc3 q3 F3 o3 => k r ρ3 Z3 H3 v3 c3 (z1.trans (z2.trans z3)) (by omega) q3 F3 o3⟩
  | true => exact k _ ρ1 Z2 H1 _ c1 (z1.trans z2) (by omega) q F2 (show Rep _ _ _ _ by rw [Rep])
theorem de_not (ha : DE X n a ta) : DE X n (.UnaryOp .Not a pos) (dNotV ta) := fun G W tk => PE.weak (pe_not (ha G W tk)) fun σ H Q h => by
  obtain ⟨Z, ρ, c, Qd, F, hc, t, k⟩ := h
  refine ⟨Z, ρ, c, _, F, by omega, t, fun x ρ1 Z1 H1 v c1 z1 hc1 q F1 o => ?_⟩
  obtain ⟨Z2, z2, F2, rp⟩ := F1.share o
  obtain ⟨b, e, q⟩ := q
  rw [e, Rep.bl_iff] at rp
  exact ⟨b, rp, k _ ρ1 Z2 H1 _ c1 (z1.trans z2) (by omega) q F2 (show Rep _ _ _ _ by rw [Rep])⟩
theorem de_ifE (hc : DT X k e tA) (ha : DE X n a ta) (hb : DE X m b tb) : DE X (k + max n m) (.IfExp e a b pos) (dIfE tA ta tb) := fun G W tk => PE.weak (pe_ifExp (hc G W tk) (ha G W tk) (hb G W tk)) fun σ H Q h => by
  obtain ⟨Z, ρ, c, Qd, F, hc, t, kk⟩ := h
  refine ⟨Z, ρ, c, _, F, by omega, t, fun x ρ1 Z1 H1 c1 z1 hc1 q F1 => ?_⟩
  cases x with
  | true => exact ⟨Z1, ρ1, c1, Qd, F1, by omega, q, fun r ρ3 Z3 H3 v3 c3 z3 hc3 q3 F3 o3 => kk r ρ3 Z3 H3 v3 c3 (z1.trans z3) (by omega) q3 F3 o3⟩
  | false => exact ⟨Z1, ρ1, c1, Qd, F1, by omega, q, fun r ρ3 Z3 H3 v3 c3 z3 hc3 q3 F3 o3 => kk r ρ3 Z3 H3 v3 c3 (z1.trans z3) (by omega) q3 F3 o3⟩
end
end DL
set_option Elab.async false
set_option linter.all false
set_option maxRecDepth 100000
set_option maxHeartbeats 4000000
namespace DL
open PySem L2
structure DEnds where
  nx : Rho → Prop
  rt : Vd → Prop
  bk : Rho → Prop := fun _ => False
  ct : Rho → Prop := fun _ => False
abbrev DTS := DEnds → DX → Rho → Prop
structure EndsOk (G : Gh) (n c : Nat) (Z : Hp) (Dd : DEnds) (D : Ends) : Prop where
  nx : ∀ ρ σ Z' H c', Sub Z Z' → c' ≤ c + n → Dd.nx ρ → Fr G Z' H ρ σ c' → D.nx σ H
  bk : ∀ ρ σ Z' H c', Sub Z Z' → c' ≤ c + n → Dd.bk ρ → Fr G Z' H ρ σ c' → D.bk σ H
  ct : ∀ ρ σ Z' H c', Sub Z Z' → c' ≤ c + n → Dd.ct ρ → Fr G Z' H ρ σ c' → D.ct σ H
  rt : ∀ r ρ σ Z' H v c', Sub Z Z' → c' ≤ c + n → Dd.rt r → Fr G Z' H ρ σ c' → VOk G Z' H ρ σ r v → D.rt v H
theorem EndsOk.mono {G : Gh} {n m c d : Nat} {Z Z1 : Hp} {Dd : DEnds} {D : Ends} (h : EndsOk G n c Z Dd D) (hz : Sub Z Z1) (hn : d + m ≤ c + n) : EndsOk G m d Z1 Dd D :=
  ⟨fun ρ σ Z' H c' z l => h.nx ρ σ Z' H c' (hz.trans z) (by omega), fun ρ σ Z' H c' z l => h.bk ρ σ Z' H c' (hz.trans z) (by omega), fun ρ σ Z' H c' z l => h.ct ρ σ Z' H c' (hz.trans z) (by omega), fun r ρ σ Z' H v c' z l => h.rt r ρ σ Z' H v c' (hz.trans z) (by omega)⟩
def LS (G : Gh) (n : Nat) (t : DTS) (W : DX) : TS := fun D σ H => ∃ Z ρ c Dd, Fr G Z H ρ σ c ∧ c + n ≤ G.cm ∧ t Dd W ρ ∧ EndsOk G n c Z Dd D
def DS (X : Cx) (n : Nat) (st : Stmt) (t : DTS) : Prop := ∀ G W, Tk X G W → PS X st (LS G n t W)
def DSs (X : Cx) (n : Nat) (st : List Stmt) (t : DTS) : Prop := ∀ G W, Tk X G W → PSs X st (LS G n t W)
section
variable {G : Gh} {X : Cx} {n m k : Nat} {e : Expr} {st : Stmt} {sts : List Stmt} {ta : DTE} {tA : DTT} {t u : DTS} {pos : Pos}
theorem DSs.le (h : DSs X n sts t) (hn : n ≤ m) : DSs X m sts t := fun G W tk => PSs.weak (h G W tk) fun D σ H ⟨Z, ρ, c, Dd, F, hc, t, k⟩ =>
  ⟨Z, ρ, c, Dd, F, by omega, t, k.mono (fun _ _ e => e) (by omega)⟩
@[simp] def dSkip : DTS := fun D _ ρ => D.nx ρ
@[simp] def dSeq (t u : DTS) : DTS := fun D W ρ => t { D with nx := u D W } W ρ
theorem dss_nil : DSs X 0 [] dSkip := fun G W _ => PSs.weak pss_nil fun D σ H ⟨Z, ρ, c, Dd, F, hc, t, k⟩ => k.nx ρ σ Z H c (fun _ _ e => e) (by omega) t F
theorem dss_cons (h1 : DS X n st t) (h2 : DSs X m sts u) : DSs X (n + m) (st :: sts) (dSeq t u) := fun G W tk => PSs.weak (pss_cons (h1 G W tk) (h2 G W tk)) fun D σ H ⟨Z, ρ, c, Dd, F, hc, t, k⟩ => by
  refine ⟨Z, ρ, c, _, F, by omega, t, ⟨fun ρ1 σ1 Z1 H1 c1 z1 l1 q F1 => ⟨Z1, ρ1, c1, Dd, F1, by omega, q, k.mono z1 (by omega)⟩, ?_, ?_, ?_⟩⟩
  · exact fun ρ1 σ1 Z1 H1 c1 z1 l1 q F1 => k.bk ρ1 σ1 Z1 H1 c1 z1 (by omega) q F1
  · exact fun ρ1 σ1 Z1 H1 c1 z1 l1 q F1 => k.ct ρ1 σ1 Z1 H1 c1 z1 (by omega) q F1
  · exact fun r ρ1 σ1 Z1 H1 v c1 z1 l1 q F1 o => k.rt r ρ1 σ1 Z1 H1 v c1 z1 (by omega) q F1 o
theorem dss_one (h1 : DS X n st t) : DSs X n [st] t := fun G W tk => pss_one (h1 G W tk)
@[simp] def dBrk : DTS := fun D _ ρ => D.bk ρ
@[simp] def dCnt : DTS := fun D _ ρ => D.ct ρ
@[simp] def dNever : DTS := fun _ _ _ => False
theorem ds_never : DS X 0 st dNever := fun G W _ => PS.weak ps_never fun D σ H ⟨Z, ρ, c, Dd, F, hc, t, k⟩ => t.elim
@[simp] def dRet (ta : DTE) : DTS := fun D W ρ => ta ρ (fun r _ => D.rt r) W
theorem ds_ret (he : DE X n e ta) : DS X n (.Return (some e) pos) (dRet ta) := fun G W tk => PS.weak (ps_ret (he G W tk)) fun D σ H ⟨Z, ρ, c, Dd, F, hc, t, k⟩ =>
  ⟨Z, ρ, c, _, F, hc, t, fun r ρ1 Z1 H1 v c1 z1 l1 q F1 o => k.rt r ρ1 σ Z1 H1 v c1 z1 l1 q F1 o⟩
@[simp] def dRetN : DTS := fun D _ _ => D.rt (.sh .non)
@[simp] def dDrop (ta : DTE) : DTS := fun D W ρ => ta ρ (fun _ ρ1 => D.nx ρ1) W
theorem ds_expr (he : DE X n e ta) (hs : swapsWith e none pos.line X.env = pure false := by rfl) : DS X n (.Expr e pos) (dDrop ta) := fun G W tk => PS.weak (ps_expr (he G W tk) hs) fun D σ H ⟨Z, ρ, c, Dd, F, hc, t, k⟩ =>
  ⟨Z, ρ, c, _, F, hc, t, fun r ρ1 Z1 H1 v c1 z1 l1 q F1 o => k.nx ρ1 σ Z1 H1 c1 z1 l1 q F1⟩
@[simp] def dIf (c : DTT) (t u : DTS) : DTS := fun D W ρ => c ρ (fun b ρ1 => if b = true then t D W ρ1 else u D W ρ1) W
theorem ds_if {a b : List Stmt} (hc : DT X k e tA) (ha : DSs X n a t) (hb : DSs X m b u) : DS X (k + max n m) (.If e a b pos) (dIf tA t u) := fun G W tk => PS.weak (ps_if (hc G W tk) (ha G W tk) (hb G W tk)) fun D σ H ⟨Z, ρ, c, Dd, F, hc, t, kk⟩ => by
  refine ⟨Z, ρ, c, _, F, by omega, t, fun x ρ1 Z1 H1 c1 z1 l1 q F1 => ?_⟩
  cases x with
  | true => exact ⟨Z1, ρ1, c1, Dd, F1, by omega, q, kk.mono z1 (by omega)⟩
  | false => exact ⟨Z1, ρ1, c1, Dd, F1, by omega, q, kk.mono z1 (by omega)⟩
/-! ### stores -/
@[simp] def Vd.slot : Vd → Slot
  | .sh d => .sh d
  | .nw d => .ow d
theorem Fr.put {Z H : Hp} {ρ : Rho} {σ : L2.St} {c i : Nat} {r : Vd} {v : V} (F : Fr G Z H ρ σ c) (o : VOk G Z H ρ σ r v) : Fr G Z H (ρ.set i r.slot) (σ.set i (some v)) c := by
  cases r with
  | sh d => exact F.store (s := .sh d) ⟨v, rfl, o⟩ (fun w => by cases w)
  | nw d =>
    obtain ⟨a, rfl, ow, no⟩ := o
    refine F.store (s := .ow d) ⟨a, rfl, ow⟩ fun _ => ⟨a, rfl, fun j s e w q => ?_⟩
    rcases set_get e with ⟨rfl, rfl⟩ | ⟨_, e⟩
    · cases w
    · exact no j s e w q
@[simp] def dSet (i : Nat) (ta : DTE) : DTS := fun D W ρ => ta ρ (fun r ρ1 => D.nx (ρ1.set i r.slot)) W
theorem set_ok {W : DX} {D : Ends} {σ : L2.St} {H : Hp} {i : Nat} (h : LS G n (dSet i ta) W D σ H) : tAsg (LE G n ta W) (gName i) D σ H := by
  obtain ⟨Z, ρ, c, Dd, F, hc, t, k⟩ := h
  exact ⟨Z, ρ, c, _, F, hc, t, fun r ρ1 Z1 H1 v c1 z1 l1 q F1 o => k.nx _ _ Z1 H1 c1 z1 l1 q (F1.put o)⟩
theorem ds_set {i : Nat} {x : Str} {pos' : Pos} (hN : X.N.Nodup) (hi : X.N[i]? = some x) (hx : Loc X.env.scope x) (he : DE X n e ta) (hs : swapsWith e (some (.Name x pos')) pos.line X.env = pure false := by rfl)
    (hf : X.fn x = true ∨ X.env.scope.names.lookup x = some .local := by first | exact .inl rfl | exact .inr rfl | assumption) : DS X n (.Assign [.Name x pos'] e pos) (dSet i ta) := fun G W tk =>
  PS.weak (ps_set hN hi hx (he G W tk) hs hf) fun D σ H h => set_ok h
/-! targets -/
abbrev DTG := D → Rho → (Rho → Prop) → Prop
/-- what a target stores besides: a store must keep to these places -/
def DG (X : Cx) (tg : Expr) (g : DTG) (vs : List Nat) : Prop := ∀ G, PG X tg (fun v σ H Q => ∃ Z ρ c d Qd, Fr G Z H ρ σ c ∧ Rep G.S Z d v ∧ g d ρ Qd ∧ ∀ ρ' σ', Qd ρ' → Fr G Z H ρ' σ' c → wipe σ' vs = wipe σ vs → Q σ' H)
@[simp] def gNm (i : Nat) : DTG := fun d ρ Q => Q (ρ.set i (.sh d))
theorem wipe_set {σ : L2.St} {x : Option V} {i : Nat} : ∀ {vs : List Nat}, i ∈ vs → wipe (σ.set i x) vs = wipe σ vs
  | [], h => by simp at h
  | v :: vs, h => by
    unfold wipe
    by_cases e : i = v
    · subst e
      by_cases h' : i ∈ vs
      · rw [wipe_set h']
      · have : ∀ (vs : List Nat) (σ : L2.St), i ∉ vs → wipe (σ.set i x) vs = (wipe σ vs).set i x := by
          intro vs
          induction vs with
          | nil => intro σ _; rfl
          | cons v vs ih =>
            intro σ h
            unfold wipe
            rw [ih σ (fun z => h (List.mem_cons_of_mem _ z)), List.set_comm _ _ (fun z => h (by rw [z]; exact List.mem_cons_self))]
        rw [this vs σ h', List.set_set]
    · rw [wipe_set (by simpa [e] using h)]
theorem dg_name {i : Nat} {x : Str} {vs : List Nat} (hv : i ∈ vs) (hN : X.N.Nodup) (hi : X.N[i]? = some x) (hx : Loc X.env.scope x) (hf : X.fn x = true ∨ X.env.scope.names.lookup x = some .local := by first | exact .inl rfl | exact .inr rfl | assumption) : DG X (.Name x pos) (gNm i) vs := fun G => by
  refine ⟨fun pins s σ H v u Q I r h => ?_⟩
  obtain ⟨Z, ρ, c, d, Qd, F, rp, g, k⟩ := h
  exact (pg_name (pos := pos) hN hi hx hf).run pins s σ H v u Q I r (k _ _ g (F.store (s := .sh d) ⟨v, rfl, rp⟩ (fun w => by cases w)) (wipe_set hv))
abbrev DTGs := List D → Rho → (Rho → Prop) → Prop
@[simp] def gsNil : DTGs := fun ds ρ Q => ds = [] ∧ Q ρ
@[simp] def gsCons (g : DTG) (gs : DTGs) : DTGs := fun ds ρ Q => ∃ d r, ds = d :: r ∧ g d ρ fun ρ1 => gs r ρ1 Q
def DGs (X : Cx) (ts : List Expr) (g : DTGs) (vs : List Nat) : Prop := ∀ G, PGs X ts (fun us σ H Q => ∃ Z ρ c ds Qd, Fr G Z H ρ σ c ∧ Reps G.S Z ds us ∧ g ds ρ Qd ∧ ∀ ρ' σ', Qd ρ' → Fr G Z H ρ' σ' c → wipe σ' vs = wipe σ vs → Q σ' H)
theorem dgs_nil {vs : List Nat} : DGs X [] gsNil vs := fun G => by
  refine ⟨fun pins s σ H us ws Q I r h => ?_⟩
  obtain ⟨Z, ρ, c, ds, Qd, F, rp, ⟨rfl, g⟩, k⟩ := h
  exact pgs_nil.run pins s σ H us ws Q I r ⟨Reps.nil_iff.mp rp, k ρ σ g F rfl⟩
theorem PG.weak {X : Cx} {e : Expr} {t t' : TG} (h : PG X e t) (k : ∀ v σ H Q, t' v σ H Q → t v σ H Q) : PG X e t' := ⟨fun pins s σ H v u Q I r hw => h.run pins s σ H v u Q I r (k v σ H Q hw)⟩
theorem PGs.weak {X : Cx} {e : List Expr} {t t' : TGs} (h : PGs X e t) (k : ∀ v σ H Q, t' v σ H Q → t v σ H Q) : PGs X e t' := ⟨fun pins s σ H v u Q I r hw => h.run pins s σ H v u Q I r (k v σ H Q hw)⟩
theorem dgs_cons {es : List Expr} {g : DTG} {gs : DTGs} {vs : List Nat} (h1 : DG X e g vs) (h2 : DGs X es gs vs) (hs : (assignEach (e :: es) X.env).map (·.2) = assign e X.env :: (assignEach es X.env).map (·.2) := by rfl) : DGs X (e :: es) (gsCons g gs) vs := fun G =>
  PGs.weak (pgs_cons (h1 G) (h2 G) hs) fun us σ H Q ⟨Z, ρ, c, ds, Qd, F, rp, ⟨d, r, e1, g⟩, k⟩ => by
    subst e1
    obtain ⟨v, us', rfl, rv, rr⟩ := Reps.cons_iff.mp rp
    exact ⟨v, us', rfl, Z, ρ, c, d, _, F, rv, g, fun ρ1 σ1 q1 F1 w1 => ⟨Z, ρ1, c, r, Qd, F1, rr, q1, fun ρ2 σ2 q2 F2 w2 => k ρ2 σ2 q2 F2 (w2.trans w1)⟩⟩
@[simp] def gTp (gs : DTGs) : DTG := fun d ρ Q => ∃ ds, d = .tup ds ∧ gs ds ρ Q
theorem dg_tup {es : List Expr} {j l : Nat} {gs : DTGs} {vs : List Nat} (hl : ∀ ds ρ Q, gs ds ρ Q → ds.length = l) (hc : X.calm = true) (h : DGs X es gs vs)
    (hn : (assignEach es X.env).length = l := by rfl) (hst : (assignEach es X.env).findIdx? (·.1) = none := by rfl) : DG X (.Tuple es j pos) (gTp gs) vs := fun G =>
  PG.weak (pg_tup hc (h G) hn hst) fun v σ H Q ⟨Z, ρ, c, d, Qd, F, rp, ⟨ds, e1, g⟩, k⟩ => by
    subst e1
    obtain ⟨a, us, rfl, hz, hlen, rs⟩ := Rep.tup_iff.mp rp
    exact ⟨a, us, rfl, SqT.of (F.zh _ _ hz), by rw [← rs.length]; exact hl _ _ _ g, Z, ρ, c, ds, Qd, F, rs, g, k⟩
/-- target = e, the target a tuple of names -/
@[simp] def dAsg (g : DTG) (ta : DTE) : DTS := fun D W ρ => ta ρ (fun r ρ1 => g r.d ρ1 D.nx) W
theorem ds_asg {tg : Expr} {g : DTG} {vs : List Nat} (hg : DG X tg g vs) (he : DE X n e ta) (hs : swapsWithSole [tg] e pos.line X.env = pure false := by rfl) (hw : swappedStores [tg] e X.env = pure none := by rfl)
    (h1 : (assignEach [tg] X.env).map (·.2) = [assign tg X.env] := by rfl) : DS X n (.Assign [tg] e pos) (dAsg g ta) := fun G W tk => PS.weak (ps_asg (he G W tk) (hg G) hs hw h1) fun D σ H ⟨Z, ρ, c, Dd, F, hc, t, k⟩ => by
  refine ⟨Z, ρ, c, _, F, hc, t, fun r ρ1 Z1 H1 v c1 z1 l1 q F1 o => ?_⟩
  obtain ⟨Z2, z2, F2, rp⟩ := F1.share o
  exact ⟨Z2, ρ1, c1, _, _, F2, rp, q, fun ρ2 σ2 q2 F3 _ => k.nx ρ2 σ2 Z2 H1 c1 (z1.trans z2) l1 q2 F3⟩
end
/-! ### loops -/
abbrev DTI := Rho → (List D → Rho → Prop) → DX → Prop
structure ItOk (S : Option Stm) (J : It) (Z : Hp) (ds : List D) : Prop where
  len : ds.length ≤ sizeLine
  go : ∀ i H, Sub Z H → i < ds.length → J.go i H
  stop : ∀ H, Sub Z H → J.stop ds.length H
  yld : ∀ i H Zc x H' d, Sub Z Zc → Sub Zc H → ds[i]? = some d → J.yld i H x H' → Sub H H' ∧ ∃ Z1, Sub Zc Z1 ∧ Sub Z1 H' ∧ (∀ b o, Z1 b = some o → Zc b = some o ∨ (NewIn (H) b o)) ∧ Rep S Z1 d x
def LI (G : Gh) (n : Nat) (t : DTI) (W : DX) : TI := fun σ H R => ∃ Z ρ c Qd, Fr G Z H ρ σ c ∧ c + n ≤ G.cm ∧ t ρ Qd W ∧
  ∀ ds ρ' Z' H' J c', Sub Z Z' → c' ≤ c + n → Qd ds ρ' → Fr G Z' H' ρ' σ c' → ItOk G.S J Z' ds → R J H'
def DI (X : Cx) (n : Nat) (tg e : Expr) (t : DTI) : Prop := ∀ G W, Tk X G W → PI X tg e (LI G n t W)
theorem PI.weak {X : Cx} {tg e : Expr} {t t' : TI} (h : PI X tg e t) (k : ∀ σ H R, t' σ H R → t σ H R) : PI X tg e t' := ⟨fun pins s σ H R I hw => h.run pins s σ H R I (k σ H R hw)⟩
/-- the loop over data -/
def dForGo (g : DTG) (tb : DTS) (De : DEnds) (W : DX) : List D → Rho → Prop
  | [], ρ => De.nx ρ
  | d :: ds, ρ => g d ρ fun ρ1 => tb { De with nx := dForGo g tb De W ds, ct := dForGo g tb De W ds, bk := De.nx } W ρ1
@[simp] def dFor (ti : DTI) (g : DTG) (tb : DTS) : DTS := fun D W ρ => ti ρ (fun ds ρ1 => dForGo g tb D W ds ρ1) W
theorem drop_cons {α : Type} {l : List α} {i : Nat} (h : i < l.length) : l.drop i = l[i] :: l.drop (i + 1) := by
  exact List.drop_eq_getElem_cons h
section
variable {G : Gh} {X : Cx} {n m k : Nat} {e tg : Expr} {st : Stmt} {sts : List Stmt} {ti : DTI} {g : DTG} {tb : DTS} {ta : DTE} {tA : DTT} {t u : DTS} {pos : Pos}
def LGw (G : Gh) (g : DTG) (vs : List Nat) : TG := fun v σ H Q => ∃ Z ρ c d Qd, Fr G Z H ρ σ c ∧ Rep G.S Z d v ∧ g d ρ Qd ∧ ∀ ρ' σ', Qd ρ' → Fr G Z H ρ' σ' c → L2.wipe σ' vs = L2.wipe σ vs → Q σ' H
theorem for_ok {vs : List Nat} {W : DX} {D : Ends} {σ : L2.St} {H : Hp} (h : LS G (n + sizeLine * m) (dFor ti g tb) W D σ H) : tFor (LI G n ti W) (LGw G g vs) (LS G m tb W) D σ H := by
  obtain ⟨Z, ρ, c, Dd, F, hcm, t, k⟩ := h
  refine ⟨Z, ρ, c, _, F, by omega, t, fun ds ρ1 Z1 H1 J c1 z1 l1 q F1 J1 => ?_⟩
  have hcost : ∀ i, i ≤ ds.length → c1 + i * m ≤ c + (n + sizeLine * m) := fun i hi => by
    have : i * m ≤ sizeLine * m := Nat.mul_le_mul_right m (Nat.le_trans hi J1.len)
    omega
  refine ⟨fun i mm σ' H' => mm = ds.length - i ∧ i ≤ ds.length ∧ ∃ Z2 ρ2 c2, Sub Z1 Z2 ∧ Fr G Z2 H' ρ2 σ' c2 ∧ c2 ≤ c1 + i * m ∧ dForGo g tb Dd W (ds.drop i) ρ2, ⟨ds.length, by simp, Nat.zero_le _, Z1, ρ1, c1, fun _ _ e => e, F1, by simp, by simpa using q⟩, ?_⟩
  rintro i mm σ2 H2 ⟨rfl, hi, Z2, ρ2, c2, z2, F2, hc2, q2⟩
  by_cases hlt : i < ds.length
  · refine .inr ⟨J1.go i H2 (z2.trans F2.zh) hlt, _, fun σ' H' z => ⟨ds.length - (i + 1), by omega, rfl, hlt, z⟩, fun x H3 y => ?_⟩
    obtain ⟨hh, Z3, y1, y2, y3, rp⟩ := J1.yld i H2 Z2 x H3 ds[i] z2 F2.zh (by simp [hlt]) y
    rw [drop_cons hlt] at q2
    obtain ⟨F3, _⟩ := F2.pur (res := .sh ds[i]) y1 y2 hh y3 rp
    have hcc := hcost (i + 1) hlt
    rw [Nat.add_mul, Nat.one_mul] at hcc
    refine ⟨Z3, ρ2, c2, ds[i], _, F3, rp, q2, fun ρ4 σ4 q4 F4 _ => ⟨Z3, ρ4, c2, _, F4, by omega, q4, ?_, ?_, ?_, ?_⟩⟩
    · exact fun ρ5 σ5 Z5 H5 c5 z5 l5 q5 F5 => ⟨Z5, ρ5, c5, z2.trans (y1.trans z5), F5, by rw [Nat.add_mul]; omega, q5⟩
    · exact fun ρ5 σ5 Z5 H5 c5 z5 l5 q5 F5 => k.nx ρ5 σ5 Z5 H5 c5 (z1.trans (z2.trans (y1.trans z5))) (by omega) q5 F5
    · exact fun ρ5 σ5 Z5 H5 c5 z5 l5 q5 F5 => ⟨Z5, ρ5, c5, z2.trans (y1.trans z5), F5, by rw [Nat.add_mul]; omega, q5⟩
    · exact fun r ρ5 σ5 Z5 H5 v c5 z5 l5 q5 F5 o => k.rt r ρ5 σ5 Z5 H5 v c5 (z1.trans (z2.trans (y1.trans z5))) (by omega) q5 F5 o
  · have e : i = ds.length := by omega
    subst e
    rw [List.drop_length] at q2
    have hcc := hcost ds.length (Nat.le_refl _)
    exact .inl ⟨J1.stop H2 (z2.trans F2.zh), k.nx ρ2 σ2 Z2 H2 c2 (z1.trans z2) (by omega) q2 F2⟩
theorem ds_for {vs : List Nat} (hp : PassesOwn (model X.prog X.w) X.A X.env X.xe) (hc : X.calm = true) (hi : DI X n tg e ti) (hg : DG X tg g vs) (hb : DSs X m sts tb) (hs : ∀ x, foldedSetIterable e X.env x = pure x := by intro _; rfl) :
    DS X (n + sizeLine * m) (.For tg e sts [] pos) (dFor ti g tb) := fun G W tk => PS.weak (ps_for hp hc (hi G W tk) (hg G) (hb G W tk) hs) fun D σ H h => for_ok h
end
end DL
set_option Elab.async false
set_option linter.all false
set_option maxRecDepth 100000
set_option maxHeartbeats 4000000
namespace DL
open PySem L2
/-! ### wiping -/
@[simp] def wipeR (ρ : Rho) : List Nat → Rho
  | [] => ρ
  | v :: vs => (wipeR ρ vs).set v .no
def Wiped (ρ : Rho) (vs : List Nat) : Prop := ∀ i ∈ vs, ∀ s, ρ[i]? = some s → s = .no
theorem wiped_wipeR (ρ : Rho) : ∀ vs : List Nat, Wiped (wipeR ρ vs) vs
  | [], i, h, _, _ => by simp at h
  | v :: vs, i, h, s, e => by
    unfold wipeR at e
    rcases set_get e with ⟨rfl, rfl⟩ | ⟨ne, e⟩
    · rfl
    · exact wiped_wipeR ρ vs i (by simpa [Ne.symm ne] using h) s e
section
variable {G : Gh} {Z Z' H H' : Hp} {ρ : Rho} {σ : L2.St} {c c' : Nat}
theorem Fr.wipe1 (F : Fr G Z H ρ σ c) (i : Nat) : Fr G Z H (ρ.set i .no) (σ.set i none) c where
  zh := F.zh
  gs := F.gs
  st := F.st
  len := by simp [F.len]
  sl := fun j t e => by
    rcases set_get e with ⟨rfl, rfl⟩ | ⟨ne, e⟩
    · trivial
    · rw [List.getElem?_set_ne ne]; exact F.sl j t e
  ap := fun j k t u ne e1 e2 w1 w2 => by
    rcases set_get e1 with ⟨rfl, rfl⟩ | ⟨n1, f1⟩
    · cases w1
    · rcases set_get e2 with ⟨rfl, rfl⟩ | ⟨n2, f2⟩
      · cases w2
      · rw [List.getElem?_set_ne n1, List.getElem?_set_ne n2]
        exact F.ap j k t u ne f1 f2 w1 w2
  sm := F.sm
  fr := F.fr
  z0 := F.z0
  tb := F.tb
theorem Fr.wipe (F : Fr G Z H ρ σ c) : ∀ vs : List Nat, Fr G Z H (wipeR ρ vs) (L2.wipe σ vs) c
  | [] => F
  | v :: vs => (F.wipe vs).wipe1 v
theorem Fr.unwipe {vs : List Nat} (F : Fr G Z H ρ (L2.wipe σ vs) c) (w : Wiped ρ vs) : Fr G Z H ρ σ c where
  zh := F.zh
  gs := F.gs
  st := F.st
  len := by rw [F.len, wipe_length]
  sl := fun j t e => by
    by_cases hj : j ∈ vs
    · rw [w j hj t e]; trivial
    · have := F.sl j t e
      rw [wipe_out hj] at this
      exact this
  ap := fun j k t u ne e1 e2 w1 w2 => by
    have h1 : j ∉ vs := fun z => by rw [w j z t e1] at w1; cases w1
    have h2 : k ∉ vs := fun z => by rw [w k z u e2] at w2; cases w2
    have := F.ap j k t u ne e1 e2 w1 w2
    rw [wipe_out h1, wipe_out h2] at this
    exact this
  sm := F.sm
  fr := F.fr
  z0 := F.z0
  tb := F.tb
theorem NotOwned.wipe {vs : List Nat} {a : Addr} (h : NotOwned ρ σ a) : NotOwned (wipeR ρ vs) (L2.wipe σ vs) a := fun i s e w q => by
  by_cases hi : i ∈ vs
  · rw [wiped_wipeR ρ vs i hi s e] at w; cases w
  · rw [wipe_out hi] at q
    refine h i s ?_ w q
    have : ∀ vs : List Nat, i ∉ vs → (wipeR ρ vs)[i]? = ρ[i]? := by
      intro vs
      induction vs with
      | nil => intro _; rfl
      | cons v vs ih =>
        intro hv
        unfold wipeR
        rw [List.getElem?_set_ne (fun z => hv (by rw [z]; exact List.mem_cons_self)), ih fun z => hv (List.mem_cons_of_mem _ z)]
    rw [← this vs hi]; exact e
theorem NotOwned.unwipe {vs : List Nat} {a : Addr} (h : NotOwned ρ (L2.wipe σ vs) a) (w : Wiped ρ vs) : NotOwned ρ σ a := fun i s e ww q => by
  by_cases hi : i ∈ vs
  · rw [w i hi s e] at ww; cases ww
  · exact h i s e ww (by rw [wipe_out hi]; exact q)
/-! ### a list under way: kept apart by the ghosts -/
theorem upd_nt {G : Gh} {p : Addr} {o : HO} (hn : ∀ ps, o ≠ .tbl ps) : ∀ b ps, upd G.H0 p o b ≠ some (.tbl ps) := fun b ps e => by
  by_cases hb : b = p
  · subst hb; rw [upd_same] at e; exact hn ps (Option.some.inj e)
  · rw [upd_ne hb] at e; exact G.nt b ps e
abbrev Gh.with (G : Gh) (p : Addr) (o : HO) (hn : ∀ ps, o ≠ .tbl ps := by intro ps z; cases z) : Gh := { G with H0 := upd G.H0 p o, nt := upd_nt hn }
theorem Fr.hold (F : Fr G Z H ρ σ c) {p : Addr} {ho : HO} (h : H p = some ho) (hz : Z p = none) (h0 : G.H0 p = none) (hn : NotOwned ρ σ p) (nt : ∀ ps, ho ≠ .tbl ps := by intro ps z; cases z) (no : ∀ y, ho ≠ .own y := by intro ps z; cases z) : Fr (G.with p ho nt) Z H ρ σ c where
  zh := F.zh
  gs := fun s e => by
    obtain ⟨n1, n2⟩ := F.notSt h0 s e
    obtain ⟨g1, g2⟩ := F.gs s e
    exact ⟨by rw [show (G.with p ho nt).H0 = upd G.H0 p ho from rfl, upd_ne (Ne.symm n1)]; exact g1, by rw [show (G.with p ho nt).H0 = upd G.H0 p ho from rfl, upd_ne (Ne.symm n2)]; exact g2⟩
  st := F.st
  len := F.len
  sl := fun i s e => by
    have q := F.sl i s e
    cases s with
    | no => trivial
    | sh d => exact q
    | ow ds =>
      obtain ⟨a, e1, us, h1, h2, h3, h4⟩ := q
      have ne : a ≠ p := fun z => hn i _ e rfl (by rw [e1, z])
      exact ⟨a, e1, us, h1, h2, (upd_ne ne).trans h3, h4⟩
    | ob x C ns ds =>
      obtain ⟨a, e1, dx, fs, h1, h2, h3, h4, h5, h6, h7⟩ := q
      have ne : a ≠ p := fun z => hn i _ e rfl (by rw [e1, z])
      have ne2 : dx ≠ p := fun z => by rw [z, h] at h2; exact no _ (Option.some.inj h2)
      exact ⟨a, e1, dx, fs, h1, h2, h3, h4, (upd_ne ne).trans h5, (upd_ne ne2).trans h6, h7⟩
  ap := F.ap
  sm := fun b o e n => by
    by_cases hb : b = p
    · subst hb
      rw [show (G.with b ho nt).H0 = upd G.H0 b ho from rfl, upd_same] at e
      rw [h]; exact e
    · rw [show (G.with p ho nt).H0 = upd G.H0 p ho from rfl, upd_ne hb] at e
      exact F.sm b o e n
  fr := fun b o e => by
    have hb : b ≠ p := fun z => by rw [z, hz] at e; cases e
    rcases F.fr b o e with q | q
    · exact .inl q
    · exact .inr ⟨q.at_.imp (upd_ne hb).trans id, q.nt⟩
  z0 := F.z0
  tb := F.tb
theorem Fr.drop {p : Addr} {ho : HO} {nt : ∀ ps, ho ≠ .tbl ps} (gs : ∀ s, G.S = some s → G.H0 s.st ≠ none ∧ G.H0 s.cl ≠ none) (h0 : G.H0 p = none) (hz0 : G.Z0 p = none) (F : Fr (G.with p ho nt) Z H ρ σ c) (ntu : ∀ vs, ho ≠ .tup vs := by intro vs z; cases z) : Fr G Z H ρ σ c ∧ H p = some ho ∧ Z p = none ∧ NotOwned ρ σ p := by
  have at_ : (G.with p ho nt).H0 p = some ho := upd_same
  have ne : ∀ {a : Addr}, (G.with p ho nt).H0 a = none → a ≠ p ∧ G.H0 a = none := fun {a} q => by
    have z : a ≠ p := fun z => by rw [z, at_] at q; cases q
    exact ⟨z, (upd_ne (H := G.H0) (o := ho) z).symm.trans q⟩
  have keep : H p = some ho := F.sm p _ at_ fun s e => ⟨fun z => (gs s e).1 (by rw [← z]; exact h0), fun z => (gs s e).2 (by rw [← z]; exact h0)⟩
  have nz : Z p = none := by
    cases q : Z p with
    | none => rfl
    | some o =>
      rcases F.fr p o q with z | z
      · rw [show (G.with p ho nt).Z0 = G.Z0 from rfl, hz0] at z; cases z
      · exact (z.off (F.zh _ _ q) at_ keep ntu).elim
  have hno : NotOwned ρ σ p := fun i s e w q => by
    have z := F.sl i s e
    cases s with
    | no => cases w
    | sh d => cases w
    | ow ds =>
      obtain ⟨a, e1, us, h1, h2, h3, _⟩ := z
      rw [e1] at q; cases q
      exact (ne h3).1 rfl
    | ob x C ns ds =>
      obtain ⟨a, e1, dx, fs, h1, h2, h3, h4, h5, _⟩ := z
      rw [e1] at q; cases q
      exact (ne h5).1 rfl
  refine ⟨⟨F.zh, gs, F.st, F.len, fun i s e => ?_, F.ap, fun b o e n => ?_, fun b o e => ?_, F.z0, F.tb⟩, ?_, nz, hno⟩
  · have q := F.sl i s e
    cases s with
    | no => trivial
    | sh d => exact q
    | ow ds =>
      obtain ⟨a, e1, us, h1, h2, h3, h4⟩ := q
      exact ⟨a, e1, us, h1, h2, (ne h3).2, h4⟩
    | ob x C ns ds =>
      obtain ⟨a, e1, dx, fs, h1, h2, h3, h4, h5, h6, h7⟩ := q
      exact ⟨a, e1, dx, fs, h1, h2, h3, h4, (ne h5).2, (ne h6).2, h7⟩
  · have hb : b ≠ p := fun z => by rw [z, h0] at e; cases e
    exact F.sm b o ((upd_ne hb).trans e) n
  · rcases F.fr b o e with q | q
    · exact .inl q
    · exact .inr ⟨q.at_.imp (fun z => (ne z).2) id, q.nt⟩
  · exact keep
/-- a list that nobody owns is written -/
theorem Fr.tmp (F : Fr G Z H ρ σ c) {p : Addr} {vs us : List V} (h : H p = some (.lst vs)) (hz : Z p = none) (h0 : G.H0 p = none) (hn : NotOwned ρ σ p) : Fr G Z (upd H p (.lst us)) ρ σ c where
  zh := fun b o e => by
    have hb : b ≠ p := fun z => by rw [z, hz] at e; cases e
    rw [upd_ne hb]; exact F.zh b o e
  gs := F.gs
  st := F.st.keep (fun s e => by
    obtain ⟨n1, n2⟩ := F.notSt h0 s e
    exact ⟨upd_ne (Ne.symm n1), upd_ne (Ne.symm n2)⟩) F.st.noZ (.upd h fun vs z => by cases z)
  len := F.len
  sl := fun i s e => by
    have q := F.sl i s e
    cases s with
    | no => trivial
    | sh d => exact q
    | ow ds =>
      obtain ⟨a, e1, ws, h1, h2⟩ := q
      have ne : a ≠ p := fun z => hn i _ e rfl (by rw [e1, z])
      exact ⟨a, e1, ws, by rw [upd_ne ne]; exact h1, h2⟩
    | ob x C ns ds =>
      obtain ⟨a, e1, dx, fs, h1, h2, h3⟩ := q
      have ne : a ≠ p := fun z => hn i _ e rfl (by rw [e1, z])
      have ne2 : dx ≠ p := fun z => by rw [z, h] at h2; cases h2
      exact ⟨a, e1, dx, fs, by rw [upd_ne ne]; exact h1, by rw [upd_ne ne2]; exact h2, h3⟩
  ap := F.ap
  sm := fun b o e n => by
    have hb : b ≠ p := fun z => by rw [z, h0] at e; cases e
    rw [upd_ne hb]; exact F.sm b o e n
  fr := F.fr
  z0 := F.z0
  tb := tabs_upd F.tb h (fun ps z => by cases z) (fun _ _ => code_lst)
theorem Fr.z0n (F : Fr G Z H ρ σ c) {p : Addr} (hz : Z p = none) : G.Z0 p = none := by
  cases q : G.Z0 p with
  | none => rfl
  | some o => rw [F.z0 p o q] at hz; cases hz
end
theorem wipe_comm (σ : L2.St) (i : Nat) : ∀ vs : List Nat, (L2.wipe σ vs).set i none = L2.wipe (σ.set i none) vs
  | [] => rfl
  | v :: vs => by
    unfold L2.wipe
    rw [← wipe_comm σ i vs]
    by_cases h : v = i
    · subst h; rfl
    · exact List.set_comm _ _ h
theorem wipe_idem (σ : L2.St) : ∀ vs : List Nat, L2.wipe (L2.wipe σ vs) vs = L2.wipe σ vs
  | [] => rfl
  | v :: vs => by
    show (L2.wipe ((L2.wipe σ vs).set v none) vs).set v none = (L2.wipe σ vs).set v none
    rw [← wipe_comm, List.set_set, wipe_idem σ vs]
/-! ### list comprehensions -/
def DTs (X : Cx) (n : Nat) (ifs : List Expr) (t : DTT) : Prop := ∀ G W, Tk X G W → PTs X ifs (LT G n t W)
@[simp] def dYes : DTT := fun ρ Q _ => Q true ρ
theorem dts_nil {X : Cx} : DTs X 0 [] dYes := fun G W _ => ⟨fun pins s σ H Q I ⟨Z, ρ, c, Qd, F, hc, t, k⟩ => pts_nil.run pins s σ H Q I (k true ρ Z H c (fun _ _ e => e) (Nat.le_refl _) t F)⟩
theorem dts_one {X : Cx} {n : Nat} {e : Expr} {t : DTT} (h : DT X n e t) : DTs X n [e] t := fun G W tk => pts_one (h G W tk)
theorem takesN {X : Cx} {G : Gh} : Takes X (LW G noW) := takes0.imp fun c d σ H ⟨_, _, _, _, _, _, _, h⟩ => h
theorem tkN {X : Cx} {G : Gh} (h : G.T = tabsOf X.K) : Tk X G noW := ⟨takesN, h⟩
def dCompGo (g : DTG) (tt : DTT) (te : DTE) (vs : List Nat) (Q : Vd → Rho → Prop) : List D → List D → Rho → Prop
  | [], acc, ρ => Q (.nw (.lst acc)) ρ
  | d :: ds, acc, ρ => g d ρ fun ρ1 => tt ρ1 (fun b ρ2 => if b = true then te ρ2 (fun r ρ3 => dCompGo g tt te vs Q ds (acc ++ [r.d]) (wipeR ρ3 vs)) noW else dCompGo g tt te vs Q ds acc (wipeR ρ2 vs)) noW
@[simp] def dComp (ti : DTI) (g : DTG) (tt : DTT) (te : DTE) (vs : List Nat) : DTE := fun ρ Q W => ti ρ (fun ds ρ1 => dCompGo g tt te vs Q ds [] (wipeR ρ1 vs)) W
def gEx (g : DTG) (vs : List Nat) : TG := fun v σ H Q => ∃ G Z ρ c d Qd, Fr G Z H ρ σ c ∧ Rep G.S Z d v ∧ g d ρ Qd ∧ ∀ ρ' σ', Qd ρ' → Fr G Z H ρ' σ' c → L2.wipe σ' vs = L2.wipe σ vs → Q σ' H
def tEx (T : List (Addr × Str)) (n : Nat) (t : DTT) : TT := fun σ H Q => ∃ G, G.T = T ∧ LT G n t noW σ H Q
def eEx (T : List (Addr × Str)) (n : Nat) (t : DTE) : TE := fun σ H Q => ∃ G, G.T = T ∧ LE G n t noW σ H Q
theorem comp_ok {G : Gh} {W : DX} {n m k : Nat} {ti : DTI} {g : DTG} {tt : DTT} {te : DTE} {vs : List Nat} {σ : L2.St} {H : Hp} {Q : VK} {T : List (Addr × Str)} (hT : G.T = T) (h : LE G (n + sizeLine * (m + k)) (dComp ti g tt te vs) W σ H Q) :
    tLc (LI G n ti W) (gEx g vs) (tEx T m tt) (eEx T k te) vs σ H Q := by
  obtain ⟨Z, ρ, c, Qd, F, hc, t, kk⟩ := h
  refine ⟨Z, ρ, c, _, F, by omega, t, fun ds ρ1 Z1 H1 J c1 z1 l1 q F1 J1 => fun P hP => ?_⟩
  have hcost : ∀ i, i ≤ ds.length → c1 + i * (m + k) ≤ c + (n + sizeLine * (m + k)) := fun i hi => by
    have : i * (m + k) ≤ sizeLine * (m + k) := Nat.mul_le_mul_right _ (Nat.le_trans hi J1.len)
    omega
  have hP0 : G.H0 P = none := F1.free0 hP
  have hPz : G.Z0 P = none := F1.z0n (F1.freeZ hP)
  refine ⟨fun i mm H' => mm = ds.length - i ∧ i ≤ ds.length ∧ ∃ Z2 ρ2 c2 accD accV, Sub Z1 Z2 ∧ Fr G Z2 H' ρ2 (L2.wipe σ vs) c2 ∧ H' P = some (.lst accV) ∧ Z2 P = none ∧ NotOwned ρ2 (L2.wipe σ vs) P ∧ Wiped ρ2 vs ∧ Reps G.S Z2 accD accV ∧ accD.length ≤ i ∧ c2 ≤ c1 + i * (m + k) ∧
    dCompGo g tt te vs Qd (ds.drop i) accD ρ2, ?_, ?_⟩
  · refine ⟨ds.length, by simp, Nat.zero_le _, Z1, wipeR ρ1 vs, c1, [], [], fun _ _ e => e, (F1.alloc _ hP).wipe vs, upd_same, F1.freeZ hP, (NotOwned.of_none F1 hP).wipe, wiped_wipeR _ _, Reps.nil, Nat.le_refl _, by simp, by simpa using q⟩
  rintro i mm H2 ⟨rfl, hi, Z2, ρ2, c2, accD, accV, z2, F2, hD, hDz, hDn, hw, ra, hlen, hc2, q2⟩
  by_cases hlt : i < ds.length
  · refine .inr ⟨J1.go i H2 (z2.trans F2.zh) hlt, _, fun H' z => ⟨ds.length - (i + 1), by omega, rfl, hlt, z⟩, fun x H3 y => ?_⟩
    obtain ⟨hh, Z3, y1, y2, y3, rp⟩ := J1.yld i H2 Z2 x H3 ds[i] z2 F2.zh (by simp [hlt]) y
    rw [drop_cons hlt] at q2
    have FH := F2.hold hD hDz hP0 hDn
    obtain ⟨F3, _⟩ := FH.pur (res := .sh ds[i]) y1 y2 hh y3 rp
    have hcc := hcost (i + 1) hlt
    rw [Nat.add_mul, Nat.one_mul] at hcc
    refine ⟨G.with P (.lst accV), Z3, ρ2, c2, ds[i], _, F3, rp, q2, fun ρ4 σ4 q4 F4 w4 => ⟨by rw [w4]; exact wipe_idem σ vs, ?_⟩⟩
    refine ⟨G.with P (.lst accV), hT, Z3, ρ4, c2, _, F4, by show c2 + m ≤ G.cm; omega, q4, fun b ρ5 Z5 H5 c5 z5 l5 q5 F5 => ?_⟩
    have back : ∀ {ρ6 : Rho} {Z6 H6 : Hp} {c6 : Nat}, Fr (G.with P (.lst accV)) Z6 H6 ρ6 σ4 c6 → Fr G Z6 H6 (wipeR ρ6 vs) (L2.wipe σ vs) c6 ∧ H6 P = some (.lst accV) ∧ Z6 P = none ∧ NotOwned (wipeR ρ6 vs) (L2.wipe σ vs) P := fun {ρ6 Z6 H6 c6} F6 => by
      obtain ⟨G1, G2, G3, G4⟩ := F6.drop F1.gs hP0 hPz
      have e : L2.wipe σ4 vs = L2.wipe σ vs := by rw [w4]; exact wipe_idem σ vs
      rw [← e]
      exact ⟨G1.wipe vs, G2, G3, G4.wipe⟩
    cases b with
    | true =>
      refine ⟨G.with P (.lst accV), hT, Z5, ρ5, c5, _, F5, by show c5 + k ≤ G.cm; omega, q5, fun r ρ6 Z6 H6 v c6 z6 l6 q6 F6 o6 => ?_⟩
      obtain ⟨Z7, z7, F7, r7⟩ := F6.share o6
      obtain ⟨B1, B2, B3, B4⟩ := back F7
      refine ⟨accV, B2, ?_, Z7, wipeR ρ6 vs, c6, accD ++ [r.d], accV ++ [v], z2.trans (y1.trans (z5.trans (z6.trans z7))), B1.tmp B2 B3 hP0 B4, upd_same, B3, B4, wiped_wipeR _ _, ?_, ?_, ?_, q6⟩
      · rw [← ra.length]
        exact Nat.lt_of_le_of_lt hlen (Nat.lt_of_lt_of_le hlt J1.len)
      · exact (ra.mono (y1.trans (z5.trans (z6.trans z7)))).append (Reps.cons r7 Reps.nil)
      · simp; omega
      · rw [Nat.add_mul]; omega
    | false =>
      obtain ⟨B1, B2, B3, B4⟩ := back F5
      refine ⟨Z5, wipeR ρ5 vs, c5, accD, accV, z2.trans (y1.trans z5), B1, B2, B3, B4, wiped_wipeR _ _, ra.mono (y1.trans z5), by omega, by rw [Nat.add_mul]; omega, q5⟩
  · have e : i = ds.length := by omega
    subst e
    rw [List.drop_length] at q2
    have hcc := hcost ds.length (Nat.le_refl _)
    refine .inl ⟨J1.stop H2 (z2.trans F2.zh), ?_⟩
    have F3 := F2.unwipe hw
    exact kk _ ρ2 Z2 H2 _ c2 (z1.trans z2) (by omega) q2 F3 ⟨P, rfl, ⟨_, hD, hDz, hP0, accV, rfl, Nat.le_trans hlen J1.len, ra⟩, hDn.unwipe hw⟩
end DL
set_option Elab.async false
set_option linter.all false
set_option maxRecDepth 100000
set_option maxHeartbeats 4000000
namespace DL
open PySem L2 PyProof.Rows
section
variable {X : Cx} {n m k : Nat} {elt tg iter e : Expr} {ifs : List Expr} {ti : DTI} {g : DTG} {tt : DTT} {te ta : DTE} {pos : Pos}
theorem pe_comp {scope : Scope} {own : List (Str × Nat)} {G : Gh} {W : DX} (tk : Tk X G W) (hc : X.calm = true) (hN : X.N.Nodup) (hi : DI X n tg iter ti) (ok : BlkOk X.N X.env.scope scope own)
    (hg : ∀ (s : Shared) (H : Hp) (C : Addr) (cl : List (Str × Addr)) (fp : List Addr), DG (X.blk s H scope (compEnvC scope cl C X.env) fp) tg g (own.map (·.2)))
    (ht : ∀ (s : Shared) (H : Hp) (C : Addr) (cl : List (Str × Addr)) (fp : List Addr), DTs (X.blk s H scope (compEnvC scope cl C X.env) fp) m ifs tt)
    (he : ∀ (s : Shared) (H : Hp) (C : Addr) (cl : List (Str × Addr)) (fp : List Addr), DE (X.blk s H scope (compEnvC scope cl C X.env) fp) k elt te) :
    (∀ (s : Shared) (H : Hp) (C : Addr) (cl : List (Str × Addr)) (fp : List Addr), PG (X.blk s H scope (compEnvC scope cl C X.env) fp) tg (gEx g (own.map (·.2)))) ∧
    (∀ (s : Shared) (H : Hp) (C : Addr) (cl : List (Str × Addr)) (fp : List Addr), PTs (X.blk s H scope (compEnvC scope cl C X.env) fp) ifs (tEx (tabsOf X.K) m tt)) ∧
    (∀ (s : Shared) (H : Hp) (C : Addr) (cl : List (Str × Addr)) (fp : List Addr), PE (X.blk s H scope (compEnvC scope cl C X.env) fp) elt (eEx (tabsOf X.K) k te)) :=
  ⟨fun s H C cl fp => ⟨fun pins s' σ H' v u Q I r ⟨G, h⟩ => (hg s H C cl fp G).run pins s' σ H' v u Q I r h⟩,
   fun s H C cl fp => ⟨fun pins s' σ H' Q I ⟨G, hG, h⟩ => (ht s H C cl fp G noW (tkN hG)).run pins s' σ H' Q I h⟩,
   fun s H C cl fp => ⟨fun pins s' σ H' Q I ⟨G, hG, h⟩ => (he s H C cl fp G noW (tkN hG)).run pins s' σ H' Q I h⟩⟩
/-- [elt for tg in iter if ..] -/
theorem de_lc {scope : Scope} {own : List (Str × Nat)} (hc : X.calm = true) (hN : X.N.Nodup) (hi : DI X n tg iter ti) (ok : BlkOk X.N X.env.scope scope own)
    (hg : ∀ (s : Shared) (H : Hp) (C : Addr) (cl : List (Str × Addr)) (fp : List Addr), DG (X.blk s H scope (compEnvC scope cl C X.env) fp) tg g (own.map (·.2)))
    (ht : ∀ (s : Shared) (H : Hp) (C : Addr) (cl : List (Str × Addr)) (fp : List Addr), DTs (X.blk s H scope (compEnvC scope cl C X.env) fp) m ifs tt)
    (he : ∀ (s : Shared) (H : Hp) (C : Addr) (cl : List (Str × Addr)) (fp : List Addr), DE (X.blk s H scope (compEnvC scope cl C X.env) fp) k elt te) (hs : ∀ x, foldedSetIterable iter X.env x = pure x := by intro _; rfl) :
    DE X (n + sizeLine * (m + k)) (.ListComp elt [⟨tg, iter, ifs, 0⟩] scope pos) (dComp ti g tt te (own.map (·.2))) := fun G W tk => by
  obtain ⟨h1, h2, h3⟩ := pe_comp tk hc hN hi ok hg ht he
  exact PE.weak (pe_lc hc hN (hi G W tk) ok h1 h2 h3 hs) fun σ H Q h => comp_ok tk.ok h
/-- y = [elt for tg in iter if ..] on one line, y a local -/
theorem ds_setLc {i : Nat} {y : Str} {py : Pos} {scope : Scope} {own : List (Str × Nat)} {spos : Pos} (hc : X.calm = true) (hN : X.N.Nodup) (hy : X.N[i]? = some y) (hyl : X.env.scope.names.lookup y = some .local)
    (hsw : swapsWith (.ListComp elt [⟨tg, iter, ifs, 0⟩] scope pos) (some (.Name y py)) spos.line X.env = pure true) (hi : DI X n tg iter ti) (ok : BlkOk X.N X.env.scope scope own)
    (hg : ∀ (s : Shared) (H : Hp) (C : Addr) (cl : List (Str × Addr)) (fp : List Addr), DG (X.blk s H scope (compEnvC scope cl C X.env) fp) tg g (own.map (·.2)))
    (ht : ∀ (s : Shared) (H : Hp) (C : Addr) (cl : List (Str × Addr)) (fp : List Addr), DTs (X.blk s H scope (compEnvC scope cl C X.env) fp) m ifs tt)
    (he : ∀ (s : Shared) (H : Hp) (C : Addr) (cl : List (Str × Addr)) (fp : List Addr), DE (X.blk s H scope (compEnvC scope cl C X.env) fp) k elt te) (hs : ∀ x, foldedSetIterable iter X.env x = pure x := by intro _; rfl) :
    DS X (n + sizeLine * (m + k)) (.Assign [.Name y py] (.ListComp elt [⟨tg, iter, ifs, 0⟩] scope pos) spos) (dSet i (dComp ti g tt te (own.map (·.2)))) := fun G W tk => by
  obtain ⟨h1, h2, h3⟩ := pe_comp tk hc hN hi ok hg ht he
  refine PS.weak (ps_setLc hc hN hy hyl hsw (hi G W tk) ok h1 h2 h3 hs) fun D σ H h => ?_
  have h' := set_ok h
  exact comp_ok tk.ok h'
/-! ### what is walked -/
@[simp] def itemsOf : D → Option (List D)
  | .lst ds => some ds
  | .tup ds => some ds
  | _ => none
@[simp] def dItems (ta : DTE) : DTI := fun ρ Q W => ta ρ (fun r ρ1 => ∃ ds, itemsOf r.d = some ds ∧ Q ds ρ1) W
theorem it_list {S : Option Stm} {K : PySem.W.Frag} {Z : Hp} {a : Addr} {vs : List V} {ds : List D} (hz : Z a = some (.lst vs)) (hl : ds.length ≤ sizeLine) (rs : Reps S Z ds vs) : ItOk S (Itl K a) Z ds where
  len := hl
  go := fun i H zh hi => ⟨vs, vs[i]'(by rw [← rs.length]; exact hi), SqL.of (zh _ _ hz), by simp⟩
  stop := fun H zh => ⟨vs, SqL.of (zh _ _ hz), by rw [rs.length]; exact Nat.le_refl _⟩
  yld := fun i H Zc x H' d zc zh hd y => by
    obtain ⟨rfl, y⟩ := y
    obtain ⟨v, e, r⟩ := rs.get hd
    have e' := y vs (SqL.of (zh _ _ (zc _ _ hz)))
    rw [e] at e'; cases e'
    exact ⟨fun _ _ e => e, Zc, fun _ _ e => e, zh, fun _ _ e => .inl e, r.mono zc⟩
theorem it_tup {S : Option Stm} {K : PySem.W.Frag} {Z : Hp} {a : Addr} {vs : List V} {ds : List D} (hz : Z a = some (.tup vs)) (hl : ds.length ≤ sizeLine) (rs : Reps S Z ds vs) : ItOk S (Itt K a) Z ds where
  len := hl
  go := fun i H zh hi => ⟨vs, vs[i]'(by rw [← rs.length]; exact hi), SqT.of (zh _ _ hz), by simp⟩
  stop := fun H zh => ⟨vs, SqT.of (zh _ _ hz), by rw [rs.length]; exact Nat.le_refl _⟩
  yld := fun i H Zc x H' d zc zh hd y => by
    obtain ⟨rfl, y⟩ := y
    obtain ⟨v, e, r⟩ := rs.get hd
    have e' := y vs (SqT.of (zh _ _ (zc _ _ hz)))
    rw [e] at e'; cases e'
    exact ⟨fun _ _ e => e, Zc, fun _ _ e => e, zh, fun _ _ e => .inl e, r.mono zc⟩
/-- a value is made, then walked -/
theorem pi_val {l : Expr} {tl : TE} {r : V → Hp → (It → Hp → Prop) → Prop} (hl : PE X l tl)
    (go : ∀ (pins : List (Addr × Obj)) (s : Shared) (σ : L2.St) (H : Hp) (x : V) (u : Value) (R : It → Hp → Prop), L2.Inv X pins σ H s → RelV x u → r x H R → wpAny (model X.prog X.w) X.A (pyIter u) (PIE X pins σ tg R) X.xe s) :
    PI X tg l (fun σ H R => tl σ H fun x H1 => r x H1 R) := ⟨by
  intro pins s σ H R inv h
  have val := hl.run pins s σ H _ inv h
  refine thn val ?_
  rintro u s1 ⟨x, H1, inv1, rx, q⟩
  exact go pins s1 σ H1 x u R inv1 rx q⟩
def iSeq (K : PySem.W.Frag) (tl : TE) : TI := fun σ H R => tl σ H fun x H1 => ∃ a, x = .ref a ∧ (((∃ xs, SqL K H1 a xs) ∧ R (Itl K a) H1) ∨ ((∃ xs, SqT K H1 a xs) ∧ R (Itt K a) H1))
theorem pi_seq {l : Expr} {tl : TE} (hl : PE X l tl) : PI X tg l (iSeq X.K tl) := by
  refine pi_val (r := fun x H1 R => ∃ a, x = .ref a ∧ (((∃ xs, SqL X.K H1 a xs) ∧ R (Itl X.K a) H1) ∨ ((∃ xs, SqT X.K H1 a xs) ∧ R (Itt X.K a) H1))) hl ?_
  rintro pins s σ H x u R inv rx ⟨a, rfl, way⟩
  cases rx
  rcases way with ⟨⟨xs, hs⟩, q⟩ | ⟨⟨xs, hs⟩, q⟩
  · obtain ⟨_, _, is, _⟩ := inv.list hs
    exact wpAny_pyIter_list is.isList (pi_one (tk := s.toks) inv _ (turn_list a _) ⟨_, Heap.get?_push_size _ rfl, rfl, rfl⟩ q)
  · obtain ⟨its, _, is, _⟩ := inv.tuple hs
    exact wpAny_pyIter_tuple (items := its.toArray) is (pi_one (tk := s.toks) inv _ (turn_tuple a _) ⟨_, Heap.get?_push_size _ rfl, rfl, rfl⟩ q)
theorem di_seq (h : DE X n e ta) : DI X n tg e (dItems ta) := fun G W tk => PI.weak (pi_seq (h G W tk)) fun σ H R ⟨Z, ρ, c, Qd, F, hc, t, k⟩ => by
  refine ⟨Z, ρ, c, _, F, hc, t, fun r ρ1 Z1 H1 v c1 z1 l1 q F1 o => ?_⟩
  obtain ⟨Z2, z2, F2, rp⟩ := F1.share o
  obtain ⟨ds, e, q⟩ := q
  cases hr : r.d with
  | lst es =>
    rw [hr] at e rp
    cases e
    obtain ⟨a, vs, rfl, hz, hl, rs⟩ := Rep.lst_iff.mp rp
    exact ⟨a, rfl, .inl ⟨⟨vs, SqL.of (F2.zh _ _ hz)⟩, k _ ρ1 Z2 H1 _ c1 (z1.trans z2) l1 q F2 (it_list hz hl rs)⟩⟩
  | tup es =>
    rw [hr] at e rp
    cases e
    obtain ⟨a, vs, rfl, hz, hl, rs⟩ := Rep.tup_iff.mp rp
    exact ⟨a, rfl, .inr ⟨⟨vs, SqT.of (F2.zh _ _ hz)⟩, k _ ρ1 Z2 H1 _ c1 (z1.trans z2) l1 q F2 (it_tup hz hl rs)⟩⟩
  | _ => rw [hr] at e; cases e
def rangeD (lo : Int) (n : Nat) : List D := (List.range n).map fun (i : Nat) => D.int (lo + (i : Int))
theorem it_range {S : Option Stm} {Z : Hp} {lo : Int} {n : Nat} (hn : n ≤ sizeLine) : ItOk S (Itr lo n) Z (rangeD lo n) where
  len := by simpa [rangeD] using hn
  go := fun i H _ hi => by show i < n; simpa [rangeD] using hi
  stop := fun H _ => by show n ≤ (rangeD lo n).length; simp [rangeD]
  yld := fun i H Zc x H' d zc zh hd y => by
    obtain ⟨rfl, rfl⟩ := y
    refine ⟨fun _ _ e => e, Zc, fun _ _ e => e, zh, fun _ _ e => .inl e, ?_⟩
    unfold rangeD at hd
    rw [List.getElem?_map] at hd
    cases q : (List.range n)[i]? with
    | none => rw [q] at hd; cases hd
    | some j =>
      rw [q] at hd
      have : i = j := by
        have := List.getElem?_eq_some_iff.mp q
        obtain ⟨h1, h2⟩ := this
        simpa using h2
      subst this
      cases hd
      rw [Rep]
@[simp] def dRng1 (ts : DTA) : DTI := fun ρ Q W => ts ρ (fun ds ρ1 => ∃ j : Int, ds = [.int j] ∧ j.toNat ≤ sizeLine ∧ -(2 ^ 62) ≤ j ∧ Q (rangeD 0 j.toNat) ρ1) W
@[simp] def dRng2 (ts : DTA) : DTI := fun ρ Q W => ts ρ (fun ds ρ1 => ∃ i j : Int, ds = [.int i, .int j] ∧ (j - i).toNat ≤ sizeLine ∧ (-(2 ^ 62) ≤ i ∧ i < 2 ^ 62 ∧ -(2 ^ 62) ≤ j ∧ j < 2 ^ 62) ∧ Q (rangeD i (j - i).toNat) ρ1) W
theorem di_range1 {a : Expr} {ts : DTA} {p : Pos} (hg : Gl X "range") (hm : X.mg "range" = none) (ha : DA X n [a] ts) (hs : starEach [a] X.env = [(false, eval a X.env)] := by rfl) : DI X n tg (.Call (.Name "range" p) [a] [] pos) (dRng1 ts) := fun G W tk =>
  PI.weak (pi_range1 hg hm (ha G W tk) hs) fun σ H R ⟨Z, ρ, c, Qd, F, hc, t, k⟩ => by
    refine ⟨Z, ρ, c, _, F, hc, t, fun ds ρ1 Z1 H1 vs c1 z1 l1 q F1 rs => ?_⟩
    obtain ⟨j, rfl, hj, hj2, q⟩ := q
    obtain ⟨v, r, rfl, r1, r2⟩ := Reps.cons_iff.mp rs
    rw [Rep.int_iff] at r1
    rw [Reps.nil_iff] at r2
    subst r1 r2
    have h63 : sizeLine < 2 ^ 62 := by rw [sizeLine_eq]; decide
    refine ⟨j, rfl, hj2, by omega, k _ ρ1 Z1 H1 _ c1 z1 l1 q F1 (it_range hj)⟩
theorem di_range2 {a b : Expr} {ts : DTA} {p : Pos} (hg : Gl X "range") (hm : X.mg "range" = none) (ha : DA X n [a, b] ts) (hs : starEach [a, b] X.env = [(false, eval a X.env), (false, eval b X.env)] := by rfl) (hs2 : starEach [b] X.env = [(false, eval b X.env)] := by rfl) : DI X n tg (.Call (.Name "range" p) [a, b] [] pos) (dRng2 ts) := fun G W tk =>
  PI.weak (pi_range2 hg hm (ha G W tk) hs hs2) fun σ H R ⟨Z, ρ, c, Qd, F, hc, t, k⟩ => by
    refine ⟨Z, ρ, c, _, F, hc, t, fun ds ρ1 Z1 H1 vs c1 z1 l1 q F1 rs => ?_⟩
    obtain ⟨i, j, rfl, hj, hb, q⟩ := q
    obtain ⟨v, r, rfl, r1, r2⟩ := Reps.cons_iff.mp rs
    obtain ⟨v2, r', rfl, r3, r4⟩ := Reps.cons_iff.mp r2
    rw [Rep.int_iff] at r1 r3
    rw [Reps.nil_iff] at r4
    subst r1 r3 r4
    exact ⟨i, j, rfl, hb, k _ ρ1 Z1 H1 _ c1 z1 l1 q F1 (it_range hj)⟩
end
/-! ### what a def promises over data -/
abbrev DSp := List D → (Vd → Prop) → (XD → Prop) → Prop
def spD (K : PySem.W.Frag) (n : Nat) (F : DSp) : Sp := fun vs H Q E => ∃ S Z c ds Qd Wd, (∀ b ps, Z b ≠ some (.tbl ps)) ∧ Sub Z H ∧ StOk S Z H c ∧ c + n ≤ LIM ∧ Reps S Z ds vs ∧ F ds Qd Wd ∧ LamX.Tabs (tabsOf K) H ∧
  (∀ r Z' H' v c', Sub Z Z' → Sub Z' H' → c' ≤ c + n → SameM S (vis H) H' → (∀ b o, Z' b = some o → Z b = some o ∨ (NewIn (vis H) b o)) → StOk S Z' H' c' → LamX.Tabs (tabsOf K) H' → ROk S (vis H) Z' H' r v → Qd r → Q v H') ∧
  (∀ x cls d Z' H' c', Sub Z Z' → Sub Z' H' → c' ≤ c + n → SameM S (vis H) H' → (∀ b o, Z' b = some o → Z b = some o ∨ (NewIn (vis H) b o)) → StOk S Z' H' c' → LamX.Tabs (tabsOf K) H' → XOk S Z' H' cls d x → Wd x → E cls d H')
theorem Fr.call {G : Gh} {Z Z' H H' : Hp} {ρ : Rho} {σ : L2.St} {c c' : Nat} (F : Fr G Z H ρ σ c) (h1 : Sub Z Z') (h2 : Sub Z' H') (h3 : SameM G.S (vis H) H') (h4 : ∀ b o, Z' b = some o → Z b = some o ∨ (NewIn (vis H) b o)) (h5 : StOk G.S Z' H' c') (h6 : LamX.Tabs G.T H') : Fr G Z' H' ρ σ c' :=
  F.step h1 h2 h5 h3 h6 (fun b o e => by
    rcases h4 b o e with q | q
    · exact .inl q
    · exact .inr ⟨q.at_.imp F.free0v id, q.nt⟩) fun b e1 e2 e3 e4 => by
    cases q : Z' b with
    | none => rfl
    | some o =>
      rcases h4 _ _ q with z | z
      · rw [e1] at z; cases z
      · obtain ⟨u, g1, g2, g3⟩ := F.owned_at e4
        exact (z.off (h2 _ _ q) (vis_of g1 g3) (h3 b u (vis_of g1 g3) (F.notSt e3)) g2).elim
theorem Fr.ret {G : Gh} {Z Z' H H' : Hp} {ρ : Rho} {σ : L2.St} {c : Nat} (F : Fr G Z H ρ σ c) {r : Vd} {v : V} (o : ROk G.S (vis H) Z' H' r v) : VOk G Z' H' ρ σ r v := by
  cases r with
  | sh d => exact o
  | nw ds =>
    obtain ⟨a, vs, rfl, q1, q2, q3, q4⟩ := o
    exact ⟨a, rfl, ⟨vs, q1, q2, F.free0v q3, q4⟩, NotOwned.of_vis F q3⟩
@[simp] def dCall (F : DSp) (dd : List D) (ts : DTA) : DTE := fun ρ Q W => ts ρ (fun ds ρ1 => F (ds ++ dd) (fun r => Q r ρ1) (fun x => W x ρ1)) W
theorem call_spD {G : Gh} {W : DX} {m : Nat} {F : DSp} {ρ : Rho} {σ : L2.St} {Z H : Hp} {c : Nat} {ds : List D} {vs : List V} {Q : VK} {Qd : Vd → Rho → Prop} {K : PySem.W.Frag} (hT : G.T = tabsOf K) (F1 : Fr G Z H ρ σ c) (hc : c + m ≤ G.cm) (rs : Reps G.S Z ds vs)
    (hF : F ds (fun r => Qd r ρ) (fun x => W x ρ)) (k : ∀ r Z' H' v c', Sub Z Z' → c' ≤ c + m → Qd r ρ → Fr G Z' H' ρ σ c' → VOk G Z' H' ρ σ r v → Q v H') : spD K m F vs H Q (WE (LW G W) σ) := by
  rw [spD, ← hT]
  refine ⟨G.S, Z, c, ds, _, _, F1.zn, F1.zh, F1.st, Nat.le_trans hc G.cml, rs, hF, F1.tb, fun r Z' H' v c' h1 h2 h3 h4 h5 h6 ht h7 h8 => ?_, fun x cls d Z' H' c' h1 h2 h3 h4 h5 h6 ht h7 h8 => ?_⟩
  · exact k r Z' H' v c' h1 h3 h8 (F1.call h1 h2 h4 h5 h6 ht) (F1.ret h7)
  · exact ⟨Z', ρ, c', x, F1.call h1 h2 h4 h5 h6 ht, by omega, h7, h8⟩
section
variable {X : Cx} {n m k : Nat} {e o : Expr} {es : List Expr} {ts : DTA} {ta : DTE} {pos p apos : Pos} {F : DSp} {f C : Addr} {fd : FuncData} {ps : List Str} {x : Str} {dvs : List V} {ds : List Value} {dd : List D}
/-- f(e, ..); dd: the data of the defaults that fill up -/
theorem de_call (Fn : FnOk X.prog X.w X.K X.mg X.base (L2.CX X.prog X.w) k f fd ps (spD X.K m F)) (hr : Room k X.A) (hg : Gl X x) (hm : X.mg x = some (.ref f)) (hk : PySem.W.keepIn X.K (.ref f) = true) (hb : Binds X.K fd ps ds) (hd : Vals dvs ds) (hdd : ∀ S Z, Reps S Z dd dvs)
    (ha : DA X n (e :: es) ts) (hdb : (x == ("__debug__" : Str)) = false := by decide) (he : starEach (e :: es) X.env = (false, eval e X.env) :: starEach es X.env := by rfl) (hpl : (backTo pos (starEach es X.env)).any (·.1) = false := by rfl) :
    DE X (n + m) (.Call (.Name x p) (e :: es) [] pos) (dCall F dd ts) := fun G W tk =>
  PE.weak (pe_callSD Fn hr hg hm hk hb hd (fun σ => passAt tk.tk σ) (ha G W tk) hdb he hpl) fun σ H Q ⟨Z, ρ, c, Qd, F0, hc, t, kk⟩ => by
    refine ⟨Z, ρ, c, _, F0, by omega, t, fun xs ρ1 Z1 H1 vs c1 z1 l1 q F1 rs => ?_⟩
    exact call_spD tk.ok F1 (by omega) (rs.append (hdd _ _)) q fun r Z' H' v c' z2 l2 q2 F2 o2 => kk r ρ1 Z' H' v c' (z1.trans z2) (by omega) q2 F2 o2
end
@[simp] def startR (N : List Str) (ds : List D) : Rho := ds.map Slot.sh ++ List.replicate (N.length - ds.length) Slot.no
theorem start_fr {S : Option Stm} {Z H : Hp} {c cm : Nat} {cml : cm ≤ LIM} {N : List Str} {ds : List D} {vs : List V} {T : List (Addr × Str)} (hzt : ∀ b ps, Z b ≠ some (.tbl ps)) (hz : Sub Z H) (hst : StOk S Z H c) (rs : Reps S Z ds vs) (ht : LamX.Tabs T H) :
    Fr ⟨S, vis H, Z, cm, cml, vis_nt, T, hzt⟩ Z H (startR N ds) (L2.start N vs) c where
  zh := hz
  gs := fun s e => by
    obtain ⟨⟨_, h1, _, t1⟩, _, h2, _, t2⟩ := hst.at_ e
    exact ⟨by show vis H s.st ≠ none; rw [vis_of h1 t1]; simp, by show vis H s.cl ≠ none; rw [vis_of h2 t2]; simp⟩
  st := hst
  len := by simp [startR, L2.start, rs.length]
  sl := fun i s e => by
    unfold startR at e
    by_cases hi : i < ds.length
    · rw [List.getElem?_append_left (by simpa using hi), List.getElem?_map] at e
      cases q : ds[i]? with
      | none => rw [q] at e; cases e
      | some d =>
        rw [q] at e
        cases e
        obtain ⟨v, hv, r⟩ := rs.get q
        refine ⟨v, ?_, r⟩
        unfold L2.start
        rw [List.getElem?_append_left (by simpa [← rs.length] using hi), List.getElem?_map, hv]
        rfl
    · rw [List.getElem?_append_right (by simpa using hi)] at e
      have := List.eq_of_mem_replicate (List.mem_of_getElem? e)
      subst this
      trivial
  ap := fun i j s t ne e1 e2 w1 w2 => by
    exfalso
    unfold startR at e1
    rcases List.mem_append.mp (List.mem_of_getElem? e1) with h | h
    · obtain ⟨d, _, rfl⟩ := List.mem_map.mp h
      cases w1
    · rw [List.eq_of_mem_replicate h] at w1
      cases w1
  sm := .ofv fun _ _ e => e
  fr := fun b o e => .inl e
  z0 := fun _ _ e => e
  tb := ht
/-- THE RULE: a def by its body -/
theorem okD {P : Program} {w : World} {K : PySem.W.Frag} {mg : Str → Option Value} {base : Heap} {x qual : Str} {params : Arguments} {body : List Stmt} {scope : Scope} {dvs : List V} {kws : List (Str × V)} {f : Addr} {fd : FuncData} {N ps : List Str} {k n : Nat} {F : DSp}
    (Fn : FunD K x qual params body scope dvs kws f fd) (Sc : FnScope N ps scope) (len : ∀ ds Q W, F ds Q W → ds.length = ps.length)
    (h : ∃ t : DTS, (∀ (cdv : Value) (A : Around) (outer : List Env) (s : Shared) (H : Hp) (E : XK), Room k (A.deeper (envOfC qual scope s.heap.objs.size f cdv)) → DSs (cxOf (L2.CX P w) P w K mg base N qual scope f cdv A outer s H E) n body t) ∧
      ∀ ds Q W, F ds Q W → t { nx := fun _ => Q (.sh .non), rt := Q } (fun x _ => W x) (startR N ds)) : FnOk P w K mg base (L2.CX P w) (k + 1) f fd ps (spD K n F) := by
  obtain ⟨t, hd, ht⟩ := h
  refine Fn.ok Sc (fun vs H Q E ⟨S, Z, c, ds, Qd, Wd, hzt, h1, h2, h3, h4, h5, _⟩ => by rw [← h4.length]; exact len _ _ _ h5) fun cdv A outer s H vs Q E hr ⟨S, Z, c, ds, Qd, Wd, hzt, h1, h2, h3, h4, h5, ht0, h6, h7⟩ => ?_
  have tk0 : Takes (cxOf (L2.CX P w) P w K mg base N qual scope f cdv A outer s H E) (fun cls d _ H' => E cls d H') := takes_of rfl rfl rfl rfl
  have tk : Takes (cxOf (L2.CX P w) P w K mg base N qual scope f cdv A outer s H E) (LW ⟨S, vis H, Z, c + n, h3, vis_nt, tabsOf K, hzt⟩ fun x _ => Wd x) := tk0.imp fun cls d σ H' ⟨Z', ρ, c', y, F', l, xo, wd⟩ =>
    h7 y cls d Z' H' c' F'.z0 F'.zh l F'.sm F'.fr F'.st F'.tb xo wd
  refine ⟨_, hd cdv A outer s H E hr ⟨S, vis H, Z, c + n, h3, vis_nt, tabsOf K, hzt⟩ _ ⟨tk, rfl⟩, Z, startR N ds, c, _, start_fr hzt h1 h2 h4 ht0, Nat.le_refl _, ht ds Qd Wd h5, ?_, fun _ _ _ _ _ _ _ z => z.elim, fun _ _ _ _ _ _ _ z => z.elim, ?_⟩
  · exact fun ρ σ Z' H' c' z l q F' => h6 (.sh .non) Z' H' .non c' z F'.zh l F'.sm F'.fr F'.st F'.tb (show Rep _ _ _ _ by rw [Rep]) q
  · refine fun r ρ σ Z' H' v c' z l q F' o => h6 r Z' H' v c' z F'.zh l F'.sm F'.fr F'.st F'.tb ?_ q
    cases r with
    | sh d => exact o
    | nw es =>
      obtain ⟨a, rfl, ⟨us, q1, q2, q3, q4⟩, _⟩ := o
      exact ⟨a, us, rfl, q1, q2, q3, q4⟩
end DL
set_option Elab.async false
set_option linter.all false
set_option maxRecDepth 100000
set_option maxHeartbeats 4000000
namespace DL
open PySem L2 PyProof.Rows
/-! ### data that the library compares -/
mutual
def D.toPy : D → Option PyData
  | .non => some .none
  | .bl b => some (.bool b)
  | .int i => some (.int i)
  | .str x => some (.str x)
  | .tup ds => (D.toPys ds).map .tuple
  | .lst ds => (D.toPys ds).map .list
  | _ => none
def D.toPys : List D → Option (List PyData)
  | [] => some []
  | d :: ds => match D.toPy d, D.toPys ds with
    | some p, some ps => some (p :: ps)
    | _, _ => none
end
mutual
def D.dep : D → Nat
  | .tup ds => D.deps ds + 1
  | .lst ds => D.deps ds + 1
  | .non | .bl _ | .int _ | .str _ => 0
  | _ => 1000
def D.deps : List D → Nat
  | [] => 0
  | d :: ds => max (D.dep d) (D.deps ds)
end
mutual
def D.eqv : D → D → Bool
  | .non, .non => true
  | .bl a, .bl b => a == b
  | .bl a, .int j => (if a then 1 else 0) == j
  | .int i, .bl b => i == (if b then 1 else 0)
  | .int i, .int j => i == j
  | .str x, .str y => x == y
  | .lst xs, .lst ys => D.eqvs xs ys
  | .tup xs, .tup ys => D.eqvs xs ys
  | _, _ => false
def D.eqvs : List D → List D → Bool
  | [], [] => true
  | x :: xs, y :: ys => D.eqv x y && D.eqvs xs ys
  | _, _ => false
end
mutual
theorem toPy_some : ∀ (d : D), D.dep d ≤ 64 → ∃ p, D.toPy d = some p ∧ p.depth = D.dep d
  | .non, _ => ⟨.none, by simp [D.toPy], by simp [PyData.depth, D.dep]⟩
  | .bl b, _ => ⟨.bool b, by simp [D.toPy], by simp [PyData.depth, D.dep]⟩
  | .int i, _ => ⟨.int i, by simp [D.toPy], by simp [PyData.depth, D.dep]⟩
  | .str x, _ => ⟨.str x, by simp [D.toPy], by simp [PyData.depth, D.dep]⟩
  | .tup ds, h => by
    rw [D.dep] at h
    obtain ⟨ps, e, hd⟩ := toPys_some ds (by omega)
    exact ⟨.tuple ps, by simp [D.toPy, e], by simp [PyData.depth, D.dep, hd]⟩
  | .lst ds, h => by
    rw [D.dep] at h
    obtain ⟨ps, e, hd⟩ := toPys_some ds (by omega)
    exact ⟨.list ps, by simp [D.toPy, e], by simp [PyData.depth, D.dep, hd]⟩
  | .ty _, h => by simp [D.dep] at h
  | .dct _ _ _, h => by simp [D.dep] at h
  | .ins _ _ _, h => by simp [D.dep] at h
  | .stm, h => by simp [D.dep] at h
  | .fn _ _, h => by simp [D.dep] at h
  | .mem _, h => by simp [D.dep] at h
theorem toPys_some : ∀ (ds : List D), D.deps ds ≤ 64 → ∃ ps, D.toPys ds = some ps ∧ PyData.depthAll ps = D.deps ds
  | [], _ => ⟨[], by simp [D.toPys], by simp [PyData.depthAll, D.deps]⟩
  | d :: ds, h => by
    rw [D.deps] at h
    obtain ⟨p, e, hp⟩ := toPy_some d (by omega)
    obtain ⟨ps, e2, hps⟩ := toPys_some ds (by omega)
    exact ⟨p :: ps, by simp [D.toPys, e, e2], by simp [PyData.depthAll, D.deps, hp, hps]⟩
end
mutual
theorem toPy_eqv : ∀ (d e : D) (p q : PyData), D.toPy d = some p → D.toPy e = some q → PyData.eqv p q = D.eqv d e
  | .non, e, p, q, h1, h2 => by
    simp only [D.toPy, Option.some.injEq] at h1; subst h1
    cases e <;> simp only [D.toPy, Option.some.injEq, Option.map_eq_some_iff] at h2 <;> first | (cases h2; done) | (subst h2; simp [PyData.eqv, D.eqv]) | (obtain ⟨_, _, rfl⟩ := h2; simp [PyData.eqv, D.eqv])
  | .bl b, e, p, q, h1, h2 => by
    simp only [D.toPy, Option.some.injEq] at h1; subst h1
    cases e <;> simp only [D.toPy, Option.some.injEq, Option.map_eq_some_iff] at h2 <;> first | (cases h2; done) | (subst h2; simp [PyData.eqv, D.eqv]) | (obtain ⟨_, _, rfl⟩ := h2; simp [PyData.eqv, D.eqv])
  | .int i, e, p, q, h1, h2 => by
    simp only [D.toPy, Option.some.injEq] at h1; subst h1
    cases e <;> simp only [D.toPy, Option.some.injEq, Option.map_eq_some_iff] at h2 <;> first | (cases h2; done) | (subst h2; simp [PyData.eqv, D.eqv]) | (obtain ⟨_, _, rfl⟩ := h2; simp [PyData.eqv, D.eqv])
  | .str i, e, p, q, h1, h2 => by
    simp only [D.toPy, Option.some.injEq] at h1; subst h1
    cases e <;> simp only [D.toPy, Option.some.injEq, Option.map_eq_some_iff] at h2 <;> first | (cases h2; done) | (subst h2; simp [PyData.eqv, D.eqv]) | (obtain ⟨_, _, rfl⟩ := h2; simp [PyData.eqv, D.eqv])
  | .tup ds, e, p, q, h1, h2 => by
    simp only [D.toPy, Option.map_eq_some_iff] at h1
    obtain ⟨ps, h1, rfl⟩ := h1
    cases e <;> simp only [D.toPy, Option.some.injEq, Option.map_eq_some_iff] at h2 <;> first | (cases h2; done) | (subst h2; simp [PyData.eqv, D.eqv]; done) | (obtain ⟨qs, h2, rfl⟩ := h2; simp only [PyData.eqv, D.eqv]; done) | (obtain ⟨qs, h2, rfl⟩ := h2; simp only [PyData.eqv, D.eqv]; exact toPys_eqv ds _ ps qs h1 h2)
  | .lst ds, e, p, q, h1, h2 => by
    simp only [D.toPy, Option.map_eq_some_iff] at h1
    obtain ⟨ps, h1, rfl⟩ := h1
    cases e <;> simp only [D.toPy, Option.some.injEq, Option.map_eq_some_iff] at h2 <;> first | (cases h2; done) | (subst h2; simp [PyData.eqv, D.eqv]; done) | (obtain ⟨qs, h2, rfl⟩ := h2; simp only [PyData.eqv, D.eqv]; done) | (obtain ⟨qs, h2, rfl⟩ := h2; simp only [PyData.eqv, D.eqv]; exact toPys_eqv ds _ ps qs h1 h2)
  | .ty _, _, _, _, h1, _ => by simp [D.toPy] at h1
  | .dct _ _ _, _, _, _, h1, _ => by simp [D.toPy] at h1
  | .ins _ _ _, _, _, _, h1, _ => by simp [D.toPy] at h1
  | .stm, _, _, _, h1, _ => by simp [D.toPy] at h1
  | .fn _ _, _, _, _, h1, _ => by simp [D.toPy] at h1
  | .mem _, _, _, _, h1, _ => by simp [D.toPy] at h1
theorem toPys_eqv : ∀ (ds es : List D) (ps qs : List PyData), D.toPys ds = some ps → D.toPys es = some qs → PyData.eqvAll ps qs = D.eqvs ds es
  | [], es, ps, qs, h1, h2 => by
    simp only [D.toPys, Option.some.injEq] at h1; subst h1
    cases es with
    | nil => simp only [D.toPys, Option.some.injEq] at h2; subst h2; simp [PyData.eqvAll, D.eqvs]
    | cons e es =>
      rw [D.toPys] at h2
      split at h2
      · cases h2; simp [PyData.eqvAll, D.eqvs]
      · cases h2
  | d :: ds, es, ps, qs, h1, h2 => by
    rw [D.toPys] at h1
    split at h1
    · rename_i p ps' e1 e2
      cases h1
      cases es with
      | nil => simp only [D.toPys, Option.some.injEq] at h2; subst h2; simp [PyData.eqvAll, D.eqvs]
      | cons e es =>
        rw [D.toPys] at h2
        split at h2
        · rename_i q qs' f1 f2
          cases h2
          simp [PyData.eqvAll, D.eqvs, toPy_eqv d e _ _ e1 f1, toPys_eqv ds es _ _ e2 f2]
        · cases h2
    · cases h1
end
mutual
theorem Rep.dp {S : Option Stm} {Z H : Hp} {K : PySem.W.Frag} (zh : Sub Z H) : ∀ (d : D) (v : V) (p : PyData), Rep S Z d v → D.toPy d = some p → Dp K H v p ∧ p.canLay0 = true
  | .non, v, p, r, h => by
    rw [Rep] at r; subst r
    simp only [D.toPy, Option.some.injEq] at h; subst h
    exact ⟨.non, by simp [PyData.canLay0]⟩
  | .bl b, v, p, r, h => by
    rw [Rep] at r; subst r
    simp only [D.toPy, Option.some.injEq] at h; subst h
    exact ⟨.bl b, by simp [PyData.canLay0]⟩
  | .int b, v, p, r, h => by
    rw [Rep] at r; subst r
    simp only [D.toPy, Option.some.injEq] at h; subst h
    exact ⟨.int b, by simp [PyData.canLay0]⟩
  | .str b, v, p, r, h => by
    rw [Rep] at r
    obtain ⟨rfl, so⟩ := r
    simp only [D.toPy, Option.some.injEq] at h; subst h
    exact ⟨.str b, by simp [PyData.canLay0, so.ok]⟩
  | .tup ds, v, p, r, h => by
    rw [Rep] at r
    obtain ⟨a, vs, rfl, hz, _, rs⟩ := r
    simp only [D.toPy, Option.map_eq_some_iff] at h
    obtain ⟨ps, h, rfl⟩ := h
    obtain ⟨q1, q2⟩ := Reps.dp zh ds vs ps rs h
    exact ⟨.tup (SqT.of (zh _ _ hz)) q1, by simpa [PyData.canLay0] using q2⟩
  | .lst ds, v, p, r, h => by
    rw [Rep] at r
    obtain ⟨a, vs, rfl, hz, _, rs⟩ := r
    simp only [D.toPy, Option.map_eq_some_iff] at h
    obtain ⟨ps, h, rfl⟩ := h
    obtain ⟨q1, q2⟩ := Reps.dp zh ds vs ps rs h
    exact ⟨.lst (SqL.of (zh _ _ hz)) q1, by simpa [PyData.canLay0] using q2⟩
  | .ty _, _, _, _, h1 => by simp [D.toPy] at h1
  | .dct _ _ _, _, _, _, h1 => by simp [D.toPy] at h1
  | .ins _ _ _, _, _, _, h1 => by simp [D.toPy] at h1
  | .stm, _, _, _, h1 => by simp [D.toPy] at h1
  | .fn _ _, _, _, _, h1 => by simp [D.toPy] at h1
  | .mem _, _, _, _, h1 => by simp [D.toPy] at h1
theorem Reps.dp {S : Option Stm} {Z H : Hp} {K : PySem.W.Frag} (zh : Sub Z H) : ∀ (ds : List D) (vs : List V) (ps : List PyData), Reps S Z ds vs → D.toPys ds = some ps → DpAll K H vs ps ∧ PyData.canLayAll0 ps = true
  | [], [], ps, _, h => by
    simp only [D.toPys, Option.some.injEq] at h; subst h
    exact ⟨.nil, by simp [PyData.canLayAll0]⟩
  | [], _ :: _, _, r, _ => by simp [Reps] at r
  | _ :: _, [], _, r, _ => by simp [Reps] at r
  | d :: ds, v :: vs, ps, r, h => by
    rw [Reps] at r
    rw [D.toPys] at h
    split at h
    · rename_i p ps' e1 e2
      cases h
      obtain ⟨a1, a2⟩ := Rep.dp (K := K) zh d v p r.1 e1
      obtain ⟨b1, b2⟩ := Reps.dp (K := K) zh ds vs ps' r.2 e2
      exact ⟨.cons a1 b1, by simp [PyData.canLayAll0, a2, b2]⟩
    · cases h
end
end DL
set_option Elab.async false
set_option linter.all false
set_option maxRecDepth 100000
set_option maxHeartbeats 4000000
namespace DL
open PySem L2 PyProof.Rows
theorem CallR.or {X : Cx} {g : Value} {r r' : List V → Hp → VK → Prop} (h : CallR X g r) (h' : CallR X g r') : CallR X g (fun xs H Q => r xs H Q ∨ r' xs H Q) := by
  intro pins s σ H xs us Q I rx q
  rcases q with q | q
  · exact h pins s σ H xs us Q I rx q
  · exact h' pins s σ H xs us Q I rx q
section
variable {S : Option Stm} {Z H : Hp} {vs : List V} {d d1 d2 d3 : D}
theorem Reps.one (h : Reps S Z [d] vs) : ∃ v, vs = [v] ∧ Rep S Z d v := by
  obtain ⟨v, r, rfl, r1, r2⟩ := Reps.cons_iff.mp h
  rw [Reps.nil_iff] at r2; subst r2
  exact ⟨v, rfl, r1⟩
theorem Reps.two (h : Reps S Z [d1, d2] vs) : ∃ v u, vs = [v, u] ∧ Rep S Z d1 v ∧ Rep S Z d2 u := by
  obtain ⟨v, r, rfl, r1, r2⟩ := Reps.cons_iff.mp h
  obtain ⟨u, rfl, r3⟩ := Reps.one r2
  exact ⟨v, u, rfl, r1, r3⟩
/-- what follows an operation -/
def Kont (S : Option Stm) (Z H : Hp) (res : Vd) (Q : VK) : Prop := ∀ Z' H' v, Sub Z Z' → Sub Z' H' → Sub H H' → (∀ b o, Z' b = some o → Z b = some o ∨ (NewIn (H) b o)) → ROk S H Z' H' res v → Q v H'
theorem Kont.val {Q : VK} {v : V} (k : Kont S Z H (.sh d) Q) (zh : Sub Z H) (r : Rep S Z d v) : Q v H := k Z H v (fun _ _ e => e) zh (fun _ _ e => e) (fun _ _ e => .inl e) r
theorem freeZ {p : Addr} (zh : Sub Z H) (h : H p = none) : Z p = none := by
  cases q : Z p with
  | none => rfl
  | some o => rw [zh p o q] at h; cases h
theorem Kont.lst {Q : VK} {es : List D} {us : List V} {p : Addr} (k : Kont S Z H (.nw (.lst es)) Q) (zh : Sub Z H) (hp : H p = none) (hl : es.length ≤ sizeLine) (rs : Reps S Z es us) : Q (.ref p) (upd H p (.lst us)) :=
  k Z _ _ (fun _ _ e => e) (zh.trans (sub_upd hp)) (sub_upd hp) (fun _ _ e => .inl e) ⟨p, _, rfl, upd_same, freeZ zh hp, hp, us, rfl, hl, rs⟩
theorem Kont.tup {Q : VK} {es : List D} {us : List V} {p : Addr} (k : Kont S Z H (.sh (.tup es)) Q) (zh : Sub Z H) (hp : H p = none) (hl : es.length ≤ sizeLine) (rs : Reps S Z es us) : Q (.ref p) (upd H p (.tup us)) := by
  have hz := freeZ zh hp
  refine k (upd Z p (.tup us)) _ _ (sub_upd hz) (fun b o e => ?_) (sub_upd hp) (fun b o e => ?_) ?_
  · by_cases hb : b = p
    · subst hb; rw [upd_same] at e ⊢; exact e
    · rw [upd_ne hb] at e ⊢; exact zh b o e
  · by_cases hb : b = p
    · subst hb; rw [upd_same] at e; cases e; exact .inr ⟨.inl hp, fun ps z => by cases z⟩
    · rw [upd_ne hb] at e; exact .inl e
  · show Rep _ _ _ _
    rw [Rep.tup_iff]
    exact ⟨p, us, rfl, upd_same, hl, rs.mono (sub_upd hz)⟩
theorem Rep.bl {b : Bool} : Rep S Z (.bl b) (.bl b) := by rw [Rep]
theorem Rep.int {i : Int} : Rep S Z (.int i) (.int i) := by rw [Rep]
theorem Rep.non : Rep S Z .non .non := by rw [Rep]
theorem Rep.str {x : Str} (h : SOk x) : Rep S Z (.str x) (.str x) := by rw [Rep]; exact ⟨rfl, h⟩
end
theorem SOk.append {a b : Str} (ha : SOk a) (hb : SOk b) (hl : a.length + b.length ≤ sizeLine) : SOk (a ++ b) := by
  have e : (a ++ b).cps = a.cps ++ b.cps := rfl
  refine Bool.and_eq_true_iff.mpr ⟨?_, decide_eq_true ?_⟩
  · unfold PyData.strOk
    rw [e, Array.all_append]
    exact Bool.and_eq_true_iff.mpr ⟨ha.ok, hb.ok⟩
  · show (a ++ b).cps.size ≤ sizeLine
    rw [e, Array.size_append]
    exact hl
/-! ### operators -/
@[simp] def fAdd : List D → Option Vd
  | [.int a, .int b] => some (.sh (.int (a + b)))
  | [.str a, .str b] => if a.length + b.length ≤ sizeLine then some (.sh (.str (a ++ b))) else none
  | [.lst a, .lst b] => if a.length + b.length ≤ sizeLine then some (.nw (.lst (a ++ b))) else none
  | [.tup a, .tup b] => if a ≠ [] ∧ a.length + b.length ≤ sizeLine then some (.sh (.tup (a ++ b))) else none
  | _ => none
section
variable {X : Cx}
theorem od_add : OpD X (binaryOp .Add) fAdd := by
  refine ⟨_, (op_add.or (op_add_str.or (op_cat.or op_catT))), fun S vs H Z ds res Q zh rs e k => ?_⟩
  unfold fAdd at e
  split at e
  · cases e
    obtain ⟨v, u, rfl, r1, r2⟩ := rs.two
    rw [Rep.int_iff] at r1 r2; subst r1 r2
    exact ⟨_, _, rfl, .inl ⟨_, _, rfl, rfl, Kont.val k zh Rep.int⟩⟩
  · split at e
    · rename_i hl
      cases e
      obtain ⟨v, u, rfl, r1, r2⟩ := rs.two
      rw [Rep.str_iff] at r1 r2
      obtain ⟨rfl, s1⟩ := r1
      obtain ⟨rfl, s2⟩ := r2
      exact ⟨_, _, rfl, .inr (.inl ⟨_, _, rfl, rfl, hl, Kont.val k zh (Rep.str (s1.append s2 hl))⟩)⟩
    · cases e
  · split at e
    · rename_i hl
      cases e
      obtain ⟨v, u, rfl, r1, r2⟩ := rs.two
      obtain ⟨p, us, rfl, z1, l1, q1⟩ := Rep.lst_iff.mp r1
      obtain ⟨p2, us2, rfl, z2, l2, q2⟩ := Rep.lst_iff.mp r2
      refine ⟨_, _, rfl, .inr (.inr (.inl ⟨_, _, _, _, rfl, rfl, zh _ _ z1, zh _ _ z2, by rw [← q1.length, ← q2.length]; exact hl, fun p hp => Kont.lst k zh hp (by rw [List.length_append]; exact hl) (q1.append q2)⟩))⟩
    · cases e
  · split at e
    · rename_i hl
      cases e
      obtain ⟨v, u, rfl, r1, r2⟩ := rs.two
      obtain ⟨p, us, rfl, z1, l1, q1⟩ := Rep.tup_iff.mp r1
      obtain ⟨p2, us2, rfl, z2, l2, q2⟩ := Rep.tup_iff.mp r2
      refine ⟨_, _, rfl, .inr (.inr (.inr ⟨_, _, _, _, rfl, rfl, SqT.of (zh _ _ z1), SqT.of (zh _ _ z2), fun z => hl.1 (List.eq_nil_of_length_eq_zero (by rw [q1.length, z]; rfl)), by rw [← q1.length, ← q2.length]; exact hl.2, fun z => ?_, fun _ p hp => Kont.tup k zh hp (by rw [List.length_append]; exact hl.2) (q1.append q2)⟩))⟩
      have : ∀ b : List D, Reps S Z b [] → b = [] := fun b q => List.eq_nil_of_length_eq_zero q.length
      rw [z] at q2
      have e := this _ q2
      subst e
      simp only [List.append_nil] at k
      exact Kont.val k zh r1
    · cases e
  · cases e
@[simp] def fInt2 (f : Int → Int → D) : List D → Option Vd
  | [.int a, .int b] => some (.sh (f a b))
  | _ => none
theorem pur_int0 {g : Int → Int → V} {f : Int → Int → D} (h : ∀ a b S Z, Rep S Z (f a b) (g a b)) : Pur (fun vs H Q => ∃ x y, vs = [x, y] ∧ rI0 g x y H Q) (fInt2 f) := fun S vs H Z ds res Q zh rs e k => by
  unfold fInt2 at e
  split at e
  · cases e
    obtain ⟨v, u, rfl, r1, r2⟩ := rs.two
    rw [Rep.int_iff] at r1 r2; subst r1 r2
    exact ⟨_, _, rfl, _, _, rfl, rfl, Kont.val k zh (h _ _ _ _)⟩
  · cases e
theorem od_sub : OpD X (binaryOp .Sub) (fInt2 fun a b => .int (a - b)) := ⟨_, op_sub, pur_int0 fun _ _ _ _ => Rep.int⟩
theorem od_lt : OpD X (compareOp .Lt) (fInt2 fun a b => .bl (decide (a < b))) := ⟨_, op_lt, pur_int0 fun _ _ _ _ => Rep.bl⟩
theorem od_le : OpD X (compareOp .LtE) (fInt2 fun a b => .bl (decide (a ≤ b))) := ⟨_, op_le, pur_int0 fun _ _ _ _ => Rep.bl⟩
theorem od_gt : OpD X (compareOp .Gt) (fInt2 fun a b => .bl (decide (b < a))) := ⟨_, op_gt, pur_int0 fun _ _ _ _ => Rep.bl⟩
@[simp] def fMod : List D → Option Vd
  | [.int a, .int b] => if 0 < b then some (.sh (.int (a % b))) else none
  | _ => none
@[simp] def fNeg : List D → Option Vd
  | [.int a] => some (.sh (.int (-a)))
  | _ => none
theorem ud_neg : UnD X (unaryOp .USub) fNeg := ⟨_, un_neg, fun S vs H Z ds res Q zh rs e k => by
  unfold fNeg at e
  split at e
  · cases e
    obtain ⟨v, rfl, r1⟩ := rs.one
    rw [Rep.int_iff] at r1; subst r1
    exact ⟨_, rfl, _, rfl, Kont.val k zh Rep.int⟩
  · cases e⟩
/-! == and in -/
@[simp] def fEq : List D → Option Vd
  | [x, y] => if x.dep ≤ 64 ∧ y.dep ≤ 64 then some (.sh (.bl (D.eqv x y))) else none
  | _ => none
@[simp] def fNe : List D → Option Vd
  | [x, y] => if x.dep ≤ 64 ∧ y.dep ≤ 64 then some (.sh (.bl (!D.eqv x y))) else none
  | _ => none
theorem shaped_of {p : PyData} {d : D} (h1 : p.canLay0 = true) (h2 : p.depth = d.dep) (h3 : d.dep ≤ 64) : SeqAt.shaped p = true := by
  unfold SeqAt.shaped
  exact Bool.and_eq_true_iff.mpr ⟨h1, decide_eq_true (by rw [h2]; exact h3)⟩
theorem od_eq (hu : X.A.units + 64 < cLine) : OpD X (compareOp .Eq) fEq := ⟨_, op_eqD hu, fun S vs H Z ds res Q zh rs e k => by
  unfold fEq at e
  split at e
  · split at e
    · rename_i x y h
      cases e
      obtain ⟨v, u, rfl, r1, r2⟩ := rs.two
      obtain ⟨p, e1, d1⟩ := toPy_some x h.1
      obtain ⟨q, e2, d2⟩ := toPy_some y h.2
      obtain ⟨a1, a2⟩ := Rep.dp (K := X.K) zh x v p r1 e1
      obtain ⟨b1, b2⟩ := Rep.dp (K := X.K) zh y u q r2 e2
      refine ⟨v, u, rfl, p, q, a1, b1, shaped_of a2 d1 h.1, shaped_of b2 d2 h.2, ?_⟩
      rw [toPy_eqv x y p q e1 e2]
      exact Kont.val k zh Rep.bl
    · cases e
  · cases e⟩
theorem od_ne (hu : X.A.units + 64 < cLine) : OpD X (compareOp .NotEq) fNe := ⟨_, op_neD hu, fun S vs H Z ds res Q zh rs e k => by
  unfold fNe at e
  split at e
  · split at e
    · rename_i x y h
      cases e
      obtain ⟨v, u, rfl, r1, r2⟩ := rs.two
      obtain ⟨p, e1, d1⟩ := toPy_some x h.1
      obtain ⟨q, e2, d2⟩ := toPy_some y h.2
      obtain ⟨a1, a2⟩ := Rep.dp (K := X.K) zh x v p r1 e1
      obtain ⟨b1, b2⟩ := Rep.dp (K := X.K) zh y u q r2 e2
      refine ⟨v, u, rfl, p, q, a1, b1, shaped_of a2 d1 h.1, shaped_of b2 d2 h.2, ?_⟩
      rw [toPy_eqv x y p q e1 e2]
      exact Kont.val k zh Rep.bl
    · cases e
  · cases e⟩
def strIn (a b : Str) : Bool := !(Builtin.Str.occurrences b a 0 b.length 1).isEmpty
theorem toPys_any : ∀ (ds : List D) (ps : List PyData) (d : D) (p : PyData), D.toPys ds = some ps → D.toPy d = some p → (ps.any fun z => PyData.eqv z p) = ds.any fun z => D.eqv z d
  | [], ps, d, p, h, _ => by
    simp only [D.toPys, Option.some.injEq] at h; subst h; rfl
  | e :: ds, ps, d, p, h, h2 => by
    rw [D.toPys] at h
    split at h
    · rename_i q qs e1 e2
      cases h
      simp only [List.any_cons, toPy_eqv e d _ _ e1 h2, toPys_any ds qs d p e2 h2]
    · cases h
def D.flat : D → Bool
  | .non | .bl _ | .int _ | .str _ => true
  | _ => false
theorem flat_rep {S : Option Stm} {Z : Hp} {d : D} {v : V} (h : d.flat = true) (r : Rep S Z d v) : flatV v = true := by
  cases d <;> first | (cases h; done) | (rw [Rep] at r; first | (subst r; rfl) | (obtain ⟨rfl, _⟩ := r; rfl))
theorem flat_eq {S : Option Stm} {Z : Hp} {d e : D} {v u : V} (h : d.flat = true) (h2 : e.flat = true) (r : Rep S Z d v) (r2 : Rep S Z e u) : eqV v u = D.eqv d e := by
  cases d <;> first | (cases h; done) | (cases e <;> first | (cases h2; done) | (simp only [Rep] at r r2; first | (subst r r2; simp [eqV, D.eqv]) | (obtain ⟨rfl, _⟩ := r; subst r2; simp [eqV, D.eqv]) | (subst r; obtain ⟨rfl, _⟩ := r2; simp [eqV, D.eqv]) | (obtain ⟨rfl, _⟩ := r; obtain ⟨rfl, _⟩ := r2; simp [eqV, D.eqv])))
theorem flats_rep {S : Option Stm} {Z : Hp} : ∀ {ds : List D} {vs : List V}, ds.all D.flat = true → Reps S Z ds vs → vs.all flatV = true
  | [], [], _, _ => rfl
  | [], _ :: _, _, r => by simp [Reps] at r
  | _ :: _, [], _, r => by simp [Reps] at r
  | d :: ds, v :: vs, h, r => by
    rw [Reps] at r
    rw [List.all_cons, Bool.and_eq_true] at h ⊢
    exact ⟨flat_rep h.1 r.1, flats_rep h.2 r.2⟩
theorem flats_in {S : Option Stm} {Z : Hp} {e : D} {u : V} (h2 : e.flat = true) (r2 : Rep S Z e u) : ∀ {ds : List D} {vs : List V}, ds.all D.flat = true → Reps S Z ds vs → inV u vs = ds.any fun z => D.eqv z e
  | [], [], _, _ => rfl
  | [], _ :: _, _, r => by simp [Reps] at r
  | _ :: _, [], _, r => by simp [Reps] at r
  | d :: ds, v :: vs, h, r => by
    rw [Reps] at r
    rw [List.all_cons, Bool.and_eq_true] at h
    have ih := flats_in h2 r2 h.2 r.2
    unfold inV at ih ⊢
    rw [List.any_cons, List.any_cons, flat_eq h.1 h2 r.1 r2, ih]
@[simp] def fInB (neg : Bool) : List D → Option Vd
  | [x, .lst ds] => if x.dep ≤ 64 ∧ D.deps ds ≤ 63 then some (.sh (.bl (neg ^^ ds.any fun z => D.eqv z x))) else none
  | [x, .tup ds] => if x.flat = true ∧ ds.all D.flat = true then some (.sh (.bl (neg ^^ ds.any fun z => D.eqv z x))) else none
  | [.str a, .str b] => some (.sh (.bl (neg ^^ strIn a b)))
  | _ => none
theorem od_in (hu : X.A.units + 65 < cLine) : OpD X (compareOp .In) (fInB false) := ⟨_, (op_inD hu).or (op_in_seq.or op_in_str), fun S vs H Z ds res Q zh rs e k => by
  unfold fInB at e
  split at e
  · split at e
    · rename_i x ds h
      cases e
      obtain ⟨v, u, rfl, r1, r2⟩ := rs.two
      obtain ⟨p, e1, d1⟩ := toPy_some x h.1
      have hd : (D.lst ds).dep ≤ 64 := by rw [D.dep]; omega
      obtain ⟨q, e2, d2⟩ := toPy_some (.lst ds) hd
      obtain ⟨a1, a2⟩ := Rep.dp (K := X.K) zh x v p r1 e1
      obtain ⟨b1, b2⟩ := Rep.dp (K := X.K) zh _ u q r2 e2
      have hs := shaped_of b2 d2 hd
      simp only [D.toPy, Option.map_eq_some_iff] at e2
      obtain ⟨qs, e2, rfl⟩ := e2
      refine ⟨v, u, rfl, .inl ⟨p, qs, a1, b1, shaped_of a2 d1 h.1, hs, ?_⟩⟩
      rw [toPys_any ds qs x p e2 e1]
      simp only [Bool.false_bne] at k
      exact Kont.val k zh Rep.bl
    · cases e
  · split at e
    · rename_i x ds h
      cases e
      obtain ⟨v, u, rfl, r1, r2⟩ := rs.two
      obtain ⟨p, us, rfl, hz, hl, q⟩ := Rep.tup_iff.mp r2
      refine ⟨v, _, rfl, .inr (.inl ⟨p, us, rfl, .inr (SqT.of (zh _ _ hz)), flat_rep h.1 r1, flats_rep h.2 q, ?_⟩)⟩
      simp only [Bool.false_bne] at k
      simp only [Bool.false_eq_true, if_false]
      rw [flats_in h.1 r1 h.2 q]
      exact Kont.val k zh Rep.bl
    · cases e
  · cases e
    obtain ⟨v, u, rfl, r1, r2⟩ := rs.two
    rw [Rep.str_iff] at r1 r2
    obtain ⟨rfl, s1⟩ := r1
    obtain ⟨rfl, s2⟩ := r2
    simp only [Bool.false_bne] at k
    exact ⟨_, _, rfl, .inr (.inr ⟨_, _, rfl, rfl, Kont.val k zh Rep.bl⟩)⟩
  · cases e⟩
theorem od_notin (hu : X.A.units + 65 < cLine) : OpD X (compareOp .NotIn) (fInB true) := ⟨_, (op_notInD hu).or (op_notIn_seq.or op_notin_str), fun S vs H Z ds res Q zh rs e k => by
  unfold fInB at e
  split at e
  · split at e
    · rename_i x ds h
      cases e
      obtain ⟨v, u, rfl, r1, r2⟩ := rs.two
      obtain ⟨p, e1, d1⟩ := toPy_some x h.1
      have hd : (D.lst ds).dep ≤ 64 := by rw [D.dep]; omega
      obtain ⟨q, e2, d2⟩ := toPy_some (.lst ds) hd
      obtain ⟨a1, a2⟩ := Rep.dp (K := X.K) zh x v p r1 e1
      obtain ⟨b1, b2⟩ := Rep.dp (K := X.K) zh _ u q r2 e2
      have hs := shaped_of b2 d2 hd
      simp only [D.toPy, Option.map_eq_some_iff] at e2
      obtain ⟨qs, e2, rfl⟩ := e2
      refine ⟨v, u, rfl, .inl ⟨p, qs, a1, b1, shaped_of a2 d1 h.1, hs, ?_⟩⟩
      rw [toPys_any ds qs x p e2 e1]
      simp only [Bool.true_bne] at k
      exact Kont.val k zh Rep.bl
    · cases e
  · split at e
    · rename_i x ds h
      cases e
      obtain ⟨v, u, rfl, r1, r2⟩ := rs.two
      obtain ⟨p, us, rfl, hz, hl, q⟩ := Rep.tup_iff.mp r2
      refine ⟨v, _, rfl, .inr (.inl ⟨p, us, rfl, .inr (SqT.of (zh _ _ hz)), flat_rep h.1 r1, flats_rep h.2 q, ?_⟩)⟩
      simp only [Bool.true_bne] at k
      simp only [if_true]
      rw [flats_in h.1 r1 h.2 q]
      exact Kont.val k zh Rep.bl
    · cases e
  · cases e
    obtain ⟨v, u, rfl, r1, r2⟩ := rs.two
    rw [Rep.str_iff] at r1 r2
    obtain ⟨rfl, s1⟩ := r1
    obtain ⟨rfl, s2⟩ := r2
    simp only [Bool.true_bne] at k
    exact ⟨_, _, rfl, .inr (.inr ⟨_, _, rfl, rfl, Kont.val k zh Rep.bl⟩)⟩
  · cases e⟩
/-! is None -/
@[simp] def D.isNon : D → Bool
  | .non => true
  | _ => false
@[simp] def fIsN (neg : Bool) : List D → Option Vd
  | [x, .non] => some (.sh (.bl (neg ^^ x.isNon)))
  | _ => none
theorem rep_isNon {S : Option Stm} {Z : Hp} {d : D} {v : V} (r : Rep S Z d v) : decide (v = V.non) = d.isNon := by
  cases d <;> rw [Rep] at r
  all_goals first
    | (subst r; rfl)
    | (obtain ⟨rfl, _⟩ := r; rfl)
    | (obtain ⟨_, _, rfl, _⟩ := r; rfl)
    | (obtain ⟨_, rfl, _⟩ := r; rfl)
    | (obtain ⟨_, _, _, rfl, _⟩ := r; rfl)
    | (obtain ⟨_, _, rfl⟩ := r; rfl)
theorem od_isN : OpD X (compareOp .Is) (fIsN false) := ⟨_, op_isN, fun S vs H Z ds res Q zh rs e k => by
  unfold fIsN at e
  split at e
  · cases e
    obtain ⟨v, u, rfl, r1, r2⟩ := rs.two
    rw [Rep.non_iff] at r2; subst r2
    refine ⟨_, _, rfl, rfl, ?_⟩
    rw [rep_isNon r1]
    simp only [Bool.false_bne] at k
    exact Kont.val k zh Rep.bl
  · cases e⟩
theorem od_isnotN : OpD X (compareOp .IsNot) (fIsN true) := ⟨_, op_notN, fun S vs H Z ds res Q zh rs e k => by
  unfold fIsN at e
  split at e
  · cases e
    obtain ⟨v, u, rfl, r1, r2⟩ := rs.two
    rw [Rep.non_iff] at r2; subst r2
    refine ⟨_, _, rfl, rfl, ?_⟩
    rw [rep_isNon r1]
    simp only [Bool.true_bne] at k
    exact Kont.val k zh Rep.bl
  · cases e⟩
end
end DL
set_option Elab.async false
set_option linter.all false
set_option maxRecDepth 100000
set_option maxHeartbeats 4000000
namespace DL
open PySem L2 PyProof.Rows
/-! ### isinstance -/
@[simp] def D.tyN : D → Option String
  | .non => some "NoneType"
  | .bl _ => some "bool"
  | .int _ => some "int"
  | .str _ => some "str"
  | .tup _ => some "tuple"
  | .lst _ => some "list"
  | .dct t _ _ => if t = true then none else some "dict"
  | _ => none
def tyNames : List String := ["NoneType", "bool", "int", "str", "tuple", "list", "dict"]
def isaB (a b : String) : Bool := a == b || (a == "bool" && b == "int")
theorem kit_all : (tyNames.all fun a => tyNames.all fun b => decide (kitB a b = some (isaB a b))) = true := by decide +kernel
theorem kit_isa {a b : String} (ha : a ∈ tyNames) (hb : b ∈ tyNames) : kitB a b = some (isaB a b) := of_decide_eq_true (List.all_eq_true.mp (List.all_eq_true.mp kit_all a ha) b hb)
theorem tyN_mem {d : D} {a : String} (h : d.tyN = some a) : a ∈ tyNames := by
  cases d <;> simp only [D.tyN, Option.some.injEq] at h <;> first | (cases h; done) | (subst h; decide) | (split at h <;> first | (cases h; done) | (cases h; decide))
theorem rep_tyX {S : Option Stm} {Z H : Hp} {K : PySem.W.Frag} {d : D} {v : V} {a : String} (zh : Sub Z H) (r : Rep S Z d v) (h : d.tyN = some a) : TyX K H v (.type a) := by
  cases d <;> simp only [D.tyN, Option.some.injEq] at h <;> first | (cases h; done) | subst h | (split at h <;> first | (cases h; done) | skip)
  · rw [Rep] at r; subst r; exact .base .non
  · rw [Rep] at r; subst r; exact .base (.bl _)
  · rw [Rep] at r; subst r; exact .base (.int _)
  · rw [Rep] at r; obtain ⟨rfl, _⟩ := r; exact .base (.str _)
  · rw [Rep] at r; obtain ⟨p, us, rfl, hz, _⟩ := r; exact .base (.tup (zh _ _ hz))
  · rw [Rep] at r; obtain ⟨p, us, rfl, hz, _⟩ := r; exact .base (.lst (zh _ _ hz))
  · rw [Rep] at r
    obtain ⟨p, rfl, _, _, q⟩ := r
    cases h
    rcases q with ⟨kvs, _, hz, _⟩ | ⟨kvs, e, _, _⟩
    · rcases hz with hz | ⟨o, hz⟩
      · exact .base (.dK (zh _ _ hz))
      · exact .fDict (zh _ _ hz)
    · exact absurd e (by assumption)
@[simp] def D.asTy : D → Option String
  | .ty n => if n ∈ tyNames then some n else none
  | _ => none
@[simp] def asTys : List D → Option (List String)
  | [] => some []
  | d :: ds => match d.asTy, asTys ds with
    | some n, some ns => some (n :: ns)
    | _, _ => none
@[simp] def fIsi : List D → Option Vd
  | [x, .ty b] => match x.tyN with
    | some a => if b ∈ tyNames then some (.sh (.bl (isaB a b))) else none
    | none => none
  | [x, .tup ts] => match x.tyN, asTys ts with
    | some a, some ns => some (.sh (.bl (ns.any (isaB a))))
    | _, _ => none
  | _ => none
theorem asTys_ok {S : Option Stm} {Z : Hp} : ∀ {ds : List D} {ns : List String} {vs : List V}, asTys ds = some ns → Reps S Z ds vs → Paired ClsV vs (ns.map Value.type) ∧ ∀ n ∈ ns, n ∈ tyNames
  | [], ns, vs, h, r => by
    simp only [asTys, Option.some.injEq] at h; subst h
    rw [Reps.nil_iff] at r; subst r
    exact ⟨.nil, by simp⟩
  | d :: ds, ns, vs, h, r => by
    rw [asTys] at h
    split at h
    · rename_i n ms e1 e2
      cases h
      obtain ⟨v, us, rfl, r1, r2⟩ := Reps.cons_iff.mp r
      obtain ⟨p, q⟩ := asTys_ok e2 r2
      cases d <;> simp only [D.asTy] at e1 <;> first | (cases e1; done) | skip
      rename_i m
      split at e1
      · rename_i hm
        cases e1
        rw [Rep.ty_iff] at r1; subst r1
        exact ⟨.cons (.ty n) p, fun z hz => by
          rcases List.mem_cons.mp hz with rfl | hz
          · exact hm
          · exact q z hz⟩
      · cases e1
    · cases h
theorem kitAny_of {K : PySem.W.Frag} {a : String} (ha : a ∈ tyNames) : ∀ {ns : List String}, (∀ n ∈ ns, n ∈ tyNames) → PySem.W.kitAny K (.type a) (ns.map Value.type) = some (ns.any (isaB a))
  | [], _ => rfl
  | n :: ns, h => by
    have h1 := kit_ty (K := K) (kit_isa ha (h n List.mem_cons_self))
    refine kitAny_cons h1 (fun e => ?_) fun e => by rw [List.any_cons, e]; rfl
    rw [List.any_cons, e, Bool.false_or]
    exact kitAny_of ha fun z hz => h z (List.mem_cons_of_mem _ hz)
section
variable {X : Cx}
theorem cd_isi : CallD X (.builtin "isinstance") fIsi := ⟨_, (CallR.or call_isi call_isiT), fun S vs H Z ds res Q zh rs e k => by
  unfold fIsi at e
  split at e
  · split at e
    · rename_i a ha
      split at e
      · rename_i x b hb
        cases e
        obtain ⟨v, u, rfl, r1, r2⟩ := rs.two
        rw [Rep.ty_iff] at r2; subst r2
        exact .inl ⟨v, _, _, _, _, rfl, .ty _, rep_tyX zh r1 ha, kit_ty (kit_isa (tyN_mem ha) hb), Kont.val k zh Rep.bl⟩
      · cases e
    · cases e
  · split at e
    · rename_i x ts a ns ha hn
      cases e
      obtain ⟨v, u, rfl, r1, r2⟩ := rs.two
      obtain ⟨p, us, rfl, hz, _, q⟩ := Rep.tup_iff.mp r2
      obtain ⟨q1, q2⟩ := asTys_ok hn q
      exact .inr ⟨v, p, us, _, _, _, rfl, zh _ _ hz, q1, rep_tyX zh r1 ha, kitAny_of (tyN_mem ha) q2, Kont.val k zh Rep.bl⟩
    · cases e
  · cases e⟩
/-! ### len, all, any, list, tuple, int, min, max -/
end
/-- len of a dict with tuple keys (HandS.TupLen's own) is not needed here -/
@[simp] def fLenS : List D → Option Vd
  | [.lst ds] => some (.sh (.int ds.length))
  | [.tup ds] => some (.sh (.int ds.length))
  | [.str x] => some (.sh (.int x.length))
  | _ => none
section
variable {X : Cx}
theorem cd_len : CallD X (.builtin "len") fLenS := ⟨_, call_len, fun S vs H Z ds res Q zh rs e k => by
  unfold fLenS at e
  split at e
  · cases e
    obtain ⟨v, rfl, r1⟩ := rs.one
    obtain ⟨p, us, rfl, hz, _, q⟩ := Rep.lst_iff.mp r1
    exact ⟨_, _, rfl, .inl ⟨us, SqL.of (zh _ _ hz), q.length⟩, Kont.val k zh Rep.int⟩
  · cases e
    obtain ⟨v, rfl, r1⟩ := rs.one
    obtain ⟨p, us, rfl, hz, _, q⟩ := Rep.tup_iff.mp r1
    exact ⟨_, _, rfl, .inr ⟨us, SqT.of (zh _ _ hz), q.length⟩, Kont.val k zh Rep.int⟩
  · cases e
    obtain ⟨v, rfl, r1⟩ := rs.one
    rw [Rep.str_iff] at r1
    obtain ⟨rfl, so⟩ := r1
    exact ⟨_, _, rfl, ⟨so.len, rfl⟩, Kont.val k zh Rep.int⟩
  · cases e⟩
def asBools : List D → Option (List Bool)
  | [] => some []
  | .bl b :: ds => (asBools ds).map (b :: ·)
  | _ => none
theorem asBools_ok {S : Option Stm} {Z : Hp} : ∀ {ds : List D} {bs : List Bool} {vs : List V}, asBools ds = some bs → Reps S Z ds vs → vs = bs.map V.bl
  | [], bs, vs, h, r => by
    simp only [asBools, Option.some.injEq] at h; subst h
    rw [Reps.nil_iff] at r; subst r; rfl
  | d :: ds, bs, vs, h, r => by
    cases d <;> simp only [asBools] at h <;> first | (cases h; done) | skip
    rw [Option.map_eq_some_iff] at h
    obtain ⟨cs, h, rfl⟩ := h
    obtain ⟨v, us, rfl, r1, r2⟩ := Reps.cons_iff.mp r
    rw [Rep.bl_iff] at r1; subst r1
    rw [asBools_ok h r2]; rfl
theorem asBools_map {α : Type} (f : α → Bool) : ∀ xs : List α, asBools (xs.map fun x => D.bl (f x)) = some (xs.map f)
  | [] => rfl
  | x :: xs => by simp [asBools, asBools_map f xs]
@[simp] def fAll : List D → Option Vd
  | [.lst ds] => (asBools ds).map fun bs => .sh (.bl (bs.all id))
  | _ => none
@[simp] def fAny : List D → Option Vd
  | [.lst ds] => (asBools ds).map fun bs => .sh (.bl (bs.any id))
  | _ => none
theorem cd_all (hc : X.calm = true) : CallD X (.builtin "all") fAll := ⟨_, cr_all hc, fun S vs H Z ds res Q zh rs e k => by
  unfold fAll at e
  split at e
  · rw [Option.map_eq_some_iff] at e
    obtain ⟨bs, e, rfl⟩ := e
    obtain ⟨v, rfl, r1⟩ := rs.one
    obtain ⟨p, us, rfl, hz, _, q⟩ := Rep.lst_iff.mp r1
    have := asBools_ok e q
    subst this
    exact ⟨p, bs, rfl, SqL.of (zh _ _ hz), Kont.val k zh Rep.bl⟩
  · cases e⟩
theorem cd_any (hc : X.calm = true) : CallD X (.builtin "any") fAny := ⟨_, cr_any hc, fun S vs H Z ds res Q zh rs e k => by
  unfold fAny at e
  split at e
  · rw [Option.map_eq_some_iff] at e
    obtain ⟨bs, e, rfl⟩ := e
    obtain ⟨v, rfl, r1⟩ := rs.one
    obtain ⟨p, us, rfl, hz, _, q⟩ := Rep.lst_iff.mp r1
    have := asBools_ok e q
    subst this
    exact ⟨p, bs, rfl, SqL.of (zh _ _ hz), Kont.val k zh Rep.bl⟩
  · cases e⟩
@[simp] def fList : List D → Option Vd
  | [.lst ds] => some (.nw (.lst ds))
  | [.tup ds] => some (.nw (.lst ds))
  | _ => none
theorem cd_list : CallD X (.type "list") fList := ⟨_, call_list_of, fun S vs H Z ds res Q zh rs e k => by
  unfold fList at e
  split at e
  · cases e
    obtain ⟨v, rfl, r1⟩ := rs.one
    obtain ⟨p, us, rfl, hz, hl, q⟩ := Rep.lst_iff.mp r1
    exact ⟨p, us, rfl, .inl (SqL.of (zh _ _ hz)), fun l hp => Kont.lst k zh hp hl q⟩
  · cases e
    obtain ⟨v, rfl, r1⟩ := rs.one
    obtain ⟨p, us, rfl, hz, hl, q⟩ := Rep.tup_iff.mp r1
    exact ⟨p, us, rfl, .inr (SqT.of (zh _ _ hz)), fun l hp => Kont.lst k zh hp hl q⟩
  · cases e⟩
@[simp] def fTuple : List D → Option Vd
  | [.lst ds] => some (.sh (.tup ds))
  | [.tup ds] => some (.sh (.tup ds))
  | _ => none
theorem cd_tuple : CallD X (.type "tuple") fTuple := ⟨_, call_tuple_of, fun S vs H Z ds res Q zh rs e k => by
  unfold fTuple at e
  split at e
  · cases e
    obtain ⟨v, rfl, r1⟩ := rs.one
    obtain ⟨p, us, rfl, hz, hl, q⟩ := Rep.lst_iff.mp r1
    exact ⟨p, us, rfl, .inl ⟨SqL.of (zh _ _ hz), fun l hp => Kont.tup k zh hp hl q⟩⟩
  · cases e
    obtain ⟨v, rfl, r1⟩ := rs.one
    obtain ⟨p, us, rfl, hz, hl, q⟩ := Rep.tup_iff.mp r1
    exact ⟨p, us, rfl, .inr ⟨SqT.of (zh _ _ hz), Kont.val k zh r1⟩⟩
  · cases e⟩
@[simp] def fInt : List D → Option Vd
  | [.int i] => some (.sh (.int i))
  | [.bl b] => some (.sh (.int (if b then 1 else 0)))
  | _ => none
theorem cd_int : CallD X (.type "int") fInt := ⟨_, call_int1, fun S vs H Z ds res Q zh rs e k => by
  unfold fInt at e
  split at e
  · cases e
    obtain ⟨v, rfl, r1⟩ := rs.one
    rw [Rep.int_iff] at r1; subst r1
    exact .inl ⟨_, rfl, Kont.val k zh Rep.int⟩
  · cases e
    obtain ⟨v, rfl, r1⟩ := rs.one
    rw [Rep.bl_iff] at r1; subst r1
    exact .inr ⟨_, rfl, Kont.val k zh Rep.int⟩
  · cases e⟩
theorem cd_min2 (hc : X.calm = true) : CallD X (.builtin "min") (fInt2 fun a b => .int (min a b)) := ⟨_, call_min2 hc, fun S vs H Z ds res Q zh rs e k => by
  unfold fInt2 at e
  split at e
  · cases e
    obtain ⟨v, u, rfl, r1, r2⟩ := rs.two
    rw [Rep.int_iff] at r1 r2; subst r1 r2
    refine ⟨_, _, rfl, ?_⟩
    rename_i a b
    have : (if b < a then b else a) = min a b := by rw [Int.min_def]; split <;> split <;> omega
    rw [this]
    exact Kont.val k zh Rep.int
  · cases e⟩
/-! ### subscripts -/
@[simp] def fIx : List D → Option Vd
  | [.lst ds, .int i] => (atI ds i).map .sh
  | [.tup ds, .int i] => (atI ds i).map .sh
  | [.str z, .int i] => (atI z.cps.toList i).map fun c => .sh (.str ⟨#[c]⟩)
  | _ => none
theorem atI_rep {S : Option Stm} {Z : Hp} {ds : List D} {vs : List V} {i : Int} {d : D} (r : Reps S Z ds vs) (h : atI ds i = some d) : ∃ v, atI vs i = some v ∧ Rep S Z d v := by
  unfold atI at h ⊢
  rw [← r.length]
  cases e : ixN ds.length i with
  | none => rw [e] at h; cases h
  | some j =>
    rw [e] at h
    exact r.get h
theorem SOk.one {z : Str} {c : Nat} (h : SOk z) (hm : c ∈ z.cps.toList) : SOk ⟨#[c]⟩ := by
  refine Bool.and_eq_true_iff.mpr ⟨?_, decide_eq_true ?_⟩
  · have := h.ok
    unfold PyData.strOk at this ⊢
    rw [Array.all_eq_true'] at this
    simpa using this c (by simpa using hm)
  · show 1 ≤ sizeLine
    rw [sizeLine_eq]; decide
theorem atI_mem {α : Type} {xs : List α} {i : Int} {x : α} (h : atI xs i = some x) : x ∈ xs := by
  unfold atI at h
  cases e : ixN xs.length i with
  | none => rw [e] at h; cases h
  | some j => rw [e] at h; exact List.mem_of_getElem? h
theorem de_ix {n m : Nat} {a b : Expr} {ta tb : DTE} {pos : Pos} (ha : DE X n a ta) (hb : DE X m b tb) (hs : PlainIx b) : DE X (n + m) (.Subscript a b pos) (dOp2 fIx ta tb) := fun G W tk =>
  PE.weak (pe_ix ix_seq (ha G W tk) (hb G W tk) hs) fun σ H Q h => two_ok (r := rIx X.K) (fun S vs H Z ds res Q zh rs e k => by
    unfold fIx at e
    split at e
    · rw [Option.map_eq_some_iff] at e
      obtain ⟨d, e, rfl⟩ := e
      obtain ⟨v, u, rfl, r1, r2⟩ := rs.two
      rw [Rep.int_iff] at r2; subst r2
      obtain ⟨p, us, rfl, hz, hl, q⟩ := Rep.lst_iff.mp r1
      obtain ⟨w, e2, rw'⟩ := atI_rep q e
      exact ⟨_, _, rfl, .inl ⟨p, us, _, w, rfl, rfl, SqL.of (zh _ _ hz), e2, Kont.val k zh rw'⟩⟩
    · rw [Option.map_eq_some_iff] at e
      obtain ⟨d, e, rfl⟩ := e
      obtain ⟨v, u, rfl, r1, r2⟩ := rs.two
      rw [Rep.int_iff] at r2; subst r2
      obtain ⟨p, us, rfl, hz, hl, q⟩ := Rep.tup_iff.mp r1
      obtain ⟨w, e2, rw'⟩ := atI_rep q e
      exact ⟨_, _, rfl, .inr (.inl ⟨p, us, _, w, rfl, rfl, SqT.of (zh _ _ hz), e2, Kont.val k zh rw'⟩)⟩
    · rw [Option.map_eq_some_iff] at e
      obtain ⟨c, e, rfl⟩ := e
      obtain ⟨v, u, rfl, r1, r2⟩ := rs.two
      rw [Rep.int_iff] at r2; subst r2
      rw [Rep.str_iff] at r1
      obtain ⟨rfl, so⟩ := r1
      exact ⟨_, _, rfl, .inr (.inr ⟨_, _, c, rfl, rfl, so.len, e, Kont.val k zh (Rep.str (so.one (atI_mem e)))⟩)⟩
    · cases e) h
/-! slices -/
abbrev DTO := Rho → (Option Int → Rho → Prop) → DX → Prop
def LO (G : Gh) (n : Nat) (t : DTO) (W : DX) : TO := fun σ H Q => ∃ Z ρ c Qd, Fr G Z H ρ σ c ∧ c + n ≤ G.cm ∧ t ρ Qd W ∧
  ∀ o ρ' Z' H' c', Sub Z Z' → c' ≤ c + n → Qd o ρ' → Fr G Z' H' ρ' σ c' → Q o H'
def DO (X : Cx) (n : Nat) (e : Option Expr) (t : DTO) : Prop := ∀ G W, Tk X G W → PO X e (LO G n t W)
theorem PO.weak {e : Option Expr} {t t' : TO} (h : PO X e t) (k : ∀ σ H Q, t' σ H Q → t σ H Q) : PO X e t' := ⟨fun pins s σ H Q I hw => h.run pins s σ H Q I (k σ H Q hw)⟩
@[simp] def dNoPart : DTO := fun ρ Q _ => Q none ρ
@[simp] def dPart (ta : DTE) : DTO := fun ρ Q W => ta ρ (fun r ρ1 => ∃ i, r.d = .int i ∧ Q (some i) ρ1) W
theorem do_none : DO X 0 none dNoPart := fun G W _ => PO.weak po_none fun σ H Q ⟨Z, ρ, c, Qd, F, hc, t, k⟩ => k _ ρ Z H c (fun _ _ e => e) (Nat.le_refl _) t F
theorem do_some {n : Nat} {e : Expr} {ta : DTE} (h : DE X n e ta) : DO X n (some e) (dPart ta) := fun G W tk => PO.weak (po_some (h G W tk)) fun σ H Q ⟨Z, ρ, c, Qd, F, hc, t, k⟩ => by
  refine ⟨Z, ρ, c, _, F, hc, t, fun r ρ1 Z1 H1 v c1 z1 l1 q F1 o => ?_⟩
  obtain ⟨Z2, z2, F2, rp⟩ := F1.share o
  obtain ⟨i, e, q⟩ := q
  rw [e, Rep.int_iff] at rp
  exact ⟨i, rp, k _ ρ1 Z2 H1 c1 (z1.trans z2) l1 q F2⟩
def cutD {α : Type} (xs : List α) (lo hi : Option Int) : List α := (xs.drop (HT.sIx xs.length 0 lo)).take (HT.sIx xs.length xs.length hi - HT.sIx xs.length 0 lo)
theorem cutD_len {α : Type} (xs : List α) (lo hi : Option Int) : (cutD xs lo hi).length ≤ xs.length := by
  unfold cutD
  rw [List.length_take, List.length_drop]
  omega
theorem cut_rep {S : Option Stm} {Z : Hp} {ds : List D} {vs : List V} (r : Reps S Z ds vs) (lo hi : Option Int) : Reps S Z (cutD ds lo hi) (cutV vs lo hi) := by
  unfold cutD cutV
  rw [r.length]
  exact (r.drop _).take _
@[simp] def fSl : D → Option Int → Option Int → Option Vd
  | .lst ds, lo, hi => some (.nw (.lst (cutD ds lo hi)))
  | .tup ds, lo, hi => if HT.sIx ds.length 0 lo = 0 ∧ HT.sIx ds.length ds.length hi = ds.length then none else some (.sh (.tup (cutD ds lo hi)))
  | _, _, _ => none
@[simp] def dSl (ta : DTE) (tl th : DTO) : DTE := fun ρ Q W => ta ρ (fun x ρ1 => tl ρ1 (fun lo ρ2 => th ρ2 (fun hi ρ3 => ∃ z, fSl x.d lo hi = some z ∧ Q z ρ3) W) W) W
theorem de_slice {n m k : Nat} {a : Expr} {lo hi : Option Expr} {ta : DTE} {tl th : DTO} {p2 pos : Pos} (ha : DE X n a ta) (hl : DO X m lo tl) (hh : DO X k hi th) : DE X (n + m + k) (.Subscript a (.Slice lo hi none p2) pos) (dSl ta tl th) := fun G W tk =>
  PE.weak (pe_slice (sl_list.or sl_tup) (ha G W tk) (hl G W tk) (hh G W tk)) fun σ H Q ⟨Z, ρ, c, Qd, F, hc, t, kk⟩ => by
    refine ⟨Z, ρ, c, _, F, by omega, t, fun x ρ1 Z1 H1 v c1 z1 l1 q F1 o => ?_⟩
    obtain ⟨Z2, z2, F2, rp⟩ := F1.share o
    refine ⟨Z2, ρ1, c1, _, F2, by omega, q, fun o1 ρ3 Z3 H3 c3 z3 l3 q3 F3 => ?_⟩
    refine ⟨Z3, ρ3, c3, _, F3, by omega, q3, fun o2 ρ4 Z4 H4 c4 z4 l4 q4 F4 => ?_⟩
    obtain ⟨z, e, q5⟩ := q4
    have rp' := rp.mono (z3.trans z4)
    have fin : Kont G.S Z4 H4 z Q := fun Z5 H5 w y1 y2 y3 y4 ro => by
      obtain ⟨F5, o5⟩ := F4.pur y1 y2 y3 y4 ro
      exact kk _ ρ4 Z5 H5 w c4 (z1.trans (z2.trans (z3.trans (z4.trans y1)))) (by omega) q5 F5 o5
    cases hx : x.d with
    | lst ds =>
      rw [hx] at e rp'
      cases e
      obtain ⟨p, us, rfl, hz, hl', rs⟩ := Rep.lst_iff.mp rp'
      exact .inl ⟨p, us, rfl, SqL.of (F4.zh _ _ hz), fun p hp => fin.lst F4.zh hp (Nat.le_trans (cutD_len _ _ _) hl') (cut_rep rs _ _)⟩
    | tup ds =>
      rw [hx] at e rp'
      simp only [fSl] at e
      split at e
      · cases e
      · rename_i hn
        cases e
        obtain ⟨p, us, rfl, hz, hl', rs⟩ := Rep.tup_iff.mp rp'
        exact .inr ⟨p, us, rfl, SqT.of (F4.zh _ _ hz), by rw [← rs.length]; exact hn, fun p hp => fin.tup F4.zh hp (Nat.le_trans (cutD_len _ _ _) hl') (cut_rep rs _ _)⟩
    | _ => rw [hx] at e; cases e
end
end DL
set_option Elab.async false
set_option linter.all false
set_option maxRecDepth 100000
set_option maxHeartbeats 4000000
namespace DL
open PySem L2 PyProof.Rows
/-! ### a list of one's own is changed -/
structure MutD (X : Cx) (id : String) (f : List D → List D → Option (D × List D)) : Prop where
  ex : ∃ r : V → List V → Hp → VK → Prop, MtM X id r ∧ ∀ (S : Option Stm) (Z H : Hp) (a : Addr) (xs : List D) (vs : List V) (ds : List D) (us : List V) (res : D) (ys : List D), Sub Z H → H a = some (.lst vs) → xs.length ≤ sizeLine → Reps S Z xs vs → Reps S Z ds us → f ds xs = some (res, ys) →
    ys.length ≤ sizeLine ∧ ∃ ws w, Reps S Z ys ws ∧ Rep S Z res w ∧ ∀ Q : VK, Q w (upd H a (.lst ws)) → r (.ref a) us H Q
@[simp] def dMut (i : Nat) (f : List D → List D → Option (D × List D)) (ts : DTA) : DTE := fun ρ Q W => (∃ xs, ρ[i]? = some (.ow (.lst xs))) ∧ ts ρ (fun ds ρ1 => ∃ xs res ys, ρ1[i]? = some (.ow (.lst xs)) ∧ f ds xs = some (res, ys) ∧ Q (.sh res) (ρ1.set i (.ow (.lst ys)))) W
section
variable {X : Cx} {n m k : Nat} {e o : Expr} {es : List Expr} {ts : DTA} {ta tb tc : DTE} {pos apos cpos p : Pos} {name : Str} {id : String}
theorem mut_ok {G : Gh} {i : Nat} {f : List D → List D → Option (D × List D)} {r : V → List V → Hp → VK → Prop}
    (hr : ∀ (S : Option Stm) (Z H : Hp) (a : Addr) (xs : List D) (vs : List V) (ds : List D) (us : List V) (res : D) (ys : List D), Sub Z H → H a = some (.lst vs) → xs.length ≤ sizeLine → Reps S Z xs vs → Reps S Z ds us → f ds xs = some (res, ys) →
      ys.length ≤ sizeLine ∧ ∃ ws w, Reps S Z ys ws ∧ Rep S Z res w ∧ ∀ Q : VK, Q w (upd H a (.lst ws)) → r (.ref a) us H Q) {W : DX} {σ : L2.St} {H : Hp} {Q : VK}
    (h : LE G n (dMut i f ts) W σ H Q) : ∃ a xs, σ[i]? = some (some (.ref a)) ∧ H a = some (.lst xs) ∧ LA G n ts W σ H fun us H1 => r (.ref a) us H1 Q := by
  obtain ⟨Z, ρ, c, Qd, F, hc, ⟨⟨xs0, h0⟩, t⟩, k⟩ := h
  obtain ⟨a, vs0, ea, ha0, _⟩ := F.atL h0
  refine ⟨a, vs0, ea, ha0, Z, ρ, c, _, F, hc, t, fun ds ρ1 Z1 H1 us c1 z1 l1 q F1 rs => ?_⟩
  obtain ⟨xs, res, ys, e1, e2, q⟩ := q
  obtain ⟨a', vs, ea', h1, h2, h3, h4, h5⟩ := F1.atL e1
  rw [ea] at ea'; cases ea'
  obtain ⟨hl, ws, w, q1, q2, q3⟩ := hr G.S Z1 H1 a xs vs ds us res ys F1.zh h1 h4 h5 rs e2
  exact q3 Q (k _ _ Z1 _ w c1 z1 l1 q (F1.write e1 ea hl q1) q2)
theorem de_mut {i : Nat} {f : List D → List D → Option (D × List D)} (hm : MutD X id f) (slot : PySem.Slot "list" name id) (hty : typeOf (.builtin id) = pure (.type "method_descriptor")) (ho : PE X o (tVar i)) (ha : DA X n (e :: es) ts)
    (hbase : attributeBase o name X.env (eval o X.env) = eval o X.env := by rfl)
    (hfew : ((backTo cpos (starEach (e :: es) X.env)).all (fun x => !x.1) && (backToKw cpos (keywordEach [] X.env)).all (fun x => x.1.isSome)
      && decide ((e :: es).length + ([] : List Keyword).length + (if ([] : List Keyword).isEmpty then 0 else 1) < 30)) = true := by rfl)
    (hline : (apos.endLine == cpos.line) = true := by rfl) (hs : starEach (e :: es) X.env = (false, eval e X.env) :: starEach es X.env := by rfl) (hplain : (backTo cpos (starEach es X.env)).any (·.1) = false := by rfl) :
    DE X n (.Call (.Attribute o name apos) (e :: es) [] cpos) (dMut i f ts) := fun G W tk => by
  obtain ⟨r, h1, h2⟩ := hm.ex
  refine PE.weak (pe_bm PySem.F.plainAttrs_list slot hty h1 ho (ha G W tk) hbase hfew hline hs hplain) fun σ H Q h => ?_
  obtain ⟨a, xs, ea, hh, q⟩ := mut_ok h2 h
  exact ⟨_, ea, .inl ⟨rfl, xs, SqL.of hh⟩, q⟩
@[simp] def fAppend : List D → List D → Option (D × List D)
  | [y], xs => if xs.length < sizeLine then some (.non, xs ++ [y]) else none
  | _, _ => none
theorem md_append : MutD X "list.append" fAppend := ⟨_, mt_append, fun S Z H a xs vs ds us res ys zh ha hxl rx rd e => by
  unfold fAppend at e
  split at e
  · split at e
    · rename_i y xs hl
      cases e
      obtain ⟨u, rfl, ru⟩ := rd.one
      exact ⟨by simp; omega, vs ++ [u], .non, rx.append (Reps.cons ru Reps.nil), Rep.non, fun Q q => ⟨a, vs, u, rfl, rfl, ha, by rw [← rx.length]; exact hl, q⟩⟩
    · cases e
  · cases e⟩
@[simp] def fExtend : List D → List D → Option (D × List D)
  | [.lst ys], xs => if xs.length + ys.length ≤ sizeLine then some (.non, xs ++ ys) else none
  | _, _ => none
@[simp] def fPop : List D → List D → Option (D × List D)
  | [], xs => match xs[xs.length - 1]? with
    | some y => some (y, xs.dropLast)
    | none => none
  | [.int i], xs => if -(2 ^ 63) ≤ i ∧ i < 2 ^ 63 then match seqIndex? i xs.length with
    | some k => match xs[k]? with
      | some y => some (y, xs.eraseIdx k)
      | none => none
    | none => none
    else none
  | _, _ => none
theorem Reps.dropLast {S : Option Stm} {Z : Hp} {ds : List D} {vs : List V} (r : Reps S Z ds vs) : Reps S Z ds.dropLast vs.dropLast := by
  rw [List.dropLast_eq_take, List.dropLast_eq_take, r.length]
  exact r.take _
theorem md_pop : MutD X "list.pop" fPop := ⟨_, fun pins s σ H x xs v us Q I rx rs q => by
    rcases (show rPop x xs H Q ∨ rPopAt x xs H Q from q) with q | q
    · exact mt_pop pins s σ H x xs v us Q I rx rs q
    · exact mt_popAt pins s σ H x xs v us Q I rx rs q, fun S Z H a xs vs ds us res ys zh ha hxl rx rd e => by
  unfold fPop at e
  split at e
  · split at e
    · rename_i y hy
      cases e
      rw [Reps.nil_iff] at rd; subst rd
      obtain ⟨w, hw, rw'⟩ := rx.get hy
      refine ⟨?_, vs.dropLast, w, rx.dropLast, rw', fun Q q => .inl ⟨a, vs, w, rfl, rfl, ha, by rw [← rx.length]; exact hw, q⟩⟩
      simp; omega
    · cases e
  · split at e
    · rename_i hi
      split at e
      · rename_i k hk
        split at e
        · rename_i y hy
          cases e
          obtain ⟨u, rfl, ru⟩ := rd.one
          rw [Rep.int_iff] at ru; subst ru
          obtain ⟨w, hw, rw'⟩ := rx.get hy
          refine ⟨?_, vs.eraseIdx k, w, rx.eraseIdx k, rw', fun Q q => .inr ⟨a, vs, _, k, w, rfl, rfl, ha, hi.1, hi.2, by rw [← rx.length]; exact hk, hw, q⟩⟩
          exact Nat.le_trans (len_erase _ _) hxl
        · cases e
      · cases e
    · cases e
  · cases e⟩
/-! ### x[i] = e -/
@[simp] def dStoreIx (i : Nat) (te ti : DTE) : DTS := fun D W ρ => te ρ (fun r ρ1 => (∃ xs, ρ1[i]? = some (.ow (.lst xs))) ∧ ti ρ1 (fun j ρ2 => ∃ xs q k, ρ2[i]? = some (.ow (.lst xs)) ∧ j.d = .int q ∧ ixN xs.length q = some k ∧ D.nx (ρ2.set i (.ow (.lst (xs.set k r.d))))) W) W
theorem ds_storeIx {i : Nat} {ix : Expr} {ti te : DTE} {spos : Pos} (he : DE X n e te) (ho : PE X o (tVar i)) (hi : DE X m ix ti)
    (ha : ∀ v, assign (.Subscript o ix pos) X.env v = (do
      let ov ← holding [v] (eval o X.env)
      let iv ← holding [v, ov] (eval ix X.env)
      standAt pos
      holding [v, ov, iv] (setItem ov iv v)
      release [v, ov, iv] []) := by intro _; rfl)
    (hs : swapsWithSole [.Subscript o ix pos] e spos.line X.env = pure false := by rfl) (hw : swappedStores [.Subscript o ix pos] e X.env = pure none := by rfl)
    (h1 : (assignEach [.Subscript o ix pos] X.env).map (·.2) = [assign (.Subscript o ix pos) X.env] := by rfl) : DS X (n + m) (.Assign [.Subscript o ix pos] e spos) (dStoreIx i te ti) := fun G W tk =>
  PS.weak (ps_asg (he G W tk) (pg_sub ho (hi G W tk) set_list ha) hs hw h1) fun D σ H ⟨Z, ρ, c, Dd, F, hc, t, k⟩ => by
    refine ⟨Z, ρ, c, _, F, by omega, t, fun r ρ1 Z1 H1 v c1 z1 l1 q F1 o1 => ?_⟩
    obtain ⟨Z2, z2, F2, rp⟩ := F1.share o1
    obtain ⟨⟨xs0, h0⟩, q⟩ := q
    obtain ⟨a, ea, _⟩ := F2.sl i _ h0
    refine ⟨_, ea, Z2, ρ1, c1, _, F2, by omega, q, fun j ρ3 Z3 H3 u c3 z3 l3 q3 F3 o3 => ?_⟩
    obtain ⟨Z4, z4, F4, rp4⟩ := F3.share o3
    obtain ⟨xs, q0, kk, e1, e2, e3, q4⟩ := q3
    obtain ⟨a', vs, ea', b1, b2, b3, b4, b5⟩ := F4.atL e1
    rw [ea] at ea'; cases ea'
    rw [e2, Rep.int_iff] at rp4; subst rp4
    refine ⟨a, vs, q0, kk, rfl, rfl, b1, by rw [← b5.length]; exact e3, ?_⟩
    exact k.nx _ _ Z4 _ c3 (z1.trans (z2.trans (z3.trans z4))) (by omega) q4 (F4.write e1 ea (by simpa using b4) (b5.set kk (rp.mono (z3.trans z4))))
/-! ### chains -/
@[simp] def dChain (f g : List D → Option Vd) (ta tb tc : DTE) : DTE := fun ρ Q W => ta ρ (fun x ρ1 => tb ρ1 (fun y ρ2 => ∃ b, f [x.d, y.d] = some (.sh (.bl b)) ∧ if b = true then tc ρ2 (fun z ρ3 => ∃ w, g [y.d, z.d] = some w ∧ Q w ρ3) W else Q (.sh (.bl false)) ρ2) W) W
theorem chain_ok {G : Gh} {r r' : R2} {f g : List D → Option Vd} (h1 : Pur (fun vs H Q => ∃ x y, vs = [x, y] ∧ r x y H Q) f) (h2 : Pur (fun vs H Q => ∃ x y, vs = [x, y] ∧ r' x y H Q) g) {W : DX} {σ : L2.St} {H : Hp} {Q : VK}
    (h : LE G (n + m + k) (dChain f g ta tb tc) W σ H Q) : tChain r r' (LE G n ta W) (LE G m tb W) (LE G k tc W) σ H Q := by
  obtain ⟨Z, ρ, c, Qd, F, hc, t, kk⟩ := h
  refine ⟨Z, ρ, c, _, F, by omega, t, fun x ρ1 Z1 H1 v c1 z1 l1 q F1 o1 => ?_⟩
  obtain ⟨Z2, z2, F2, rp⟩ := F1.share o1
  refine ⟨Z2, ρ1, c1, _, F2, by omega, q, fun y ρ3 Z3 H3 u c3 z3 l3 q3 F3 o3 => ?_⟩
  obtain ⟨Z4, z4, F4, rp4⟩ := F3.share o3
  obtain ⟨b, e, q4⟩ := q3
  obtain ⟨x', y', e1, hr⟩ := h1 G.S [v, u] H3 Z4 _ _ (fun z H3 => ∃ k', z = .bl k' ∧ (if k' = true then LE G k tc W σ H3 (fun w' H4 => r' u w' H4 Q) else Q (.bl false) H3)) F4.zh (Reps.cons (rp.mono (z3.trans z4)) (Reps.cons rp4 Reps.nil)) e fun Z5 H5 w y1 y2 y3 y4 ro => by
    obtain ⟨F5, o5⟩ := F4.pur y1 y2 y3 y4 ro
    have ro' : w = .bl b := by
      have : Rep G.S Z5 (.bl b) w := ro
      rwa [Rep.bl_iff] at this
    refine ⟨b, ro', ?_⟩
    cases b with
    | false => exact kk _ ρ3 Z5 H5 _ c3 (z1.trans (z2.trans (z3.trans (z4.trans y1)))) (by omega) q4 F5 (show Rep _ _ _ _ from Rep.bl)
    | true =>
      refine ⟨Z5, ρ3, c3, _, F5, by omega, q4, fun z ρ6 Z6 H6 u6 c6 z6 l6 q6 F6 o6 => ?_⟩
      obtain ⟨Z7, z7, F7, rp7⟩ := F6.share o6
      obtain ⟨w7, e7, q7⟩ := q6
      obtain ⟨x8, y8, e8, hr8⟩ := h2 G.S [u, u6] H6 Z7 _ w7 Q F7.zh (Reps.cons (rp4.mono (y1.trans (z6.trans z7))) (Reps.cons rp7 Reps.nil)) e7 fun Z9 H9 w9 x1 x2 x3 x4 ro9 => by
        obtain ⟨F9, o9⟩ := F7.pur x1 x2 x3 x4 ro9
        exact kk _ ρ6 Z9 H9 w9 c6 (z1.trans (z2.trans (z3.trans (z4.trans (y1.trans (z6.trans (z7.trans x1))))))) (by omega) q7 F9 o9
      cases e8
      exact hr8
  cases e1
  exact hr
theorem dt_chain {op op' : CmpOp} {f g : List D → Option Vd} {a b c : Expr} (ho : OpD X (compareOp op) f) (ho' : OpD X (compareOp op') g) (ha : DE X n a ta) (hb : DE X m b tb) (hc : DE X k c tc)
    (hm : lastMarks [op, op'] [b, c] = false := by with_unfolding_all rfl) : DT X (n + m + k) (.Compare a [op, op'] [b, c] pos) (dTest (dChain f g ta tb tc)) := fun G W tk => by
  obtain ⟨r, h1, h2⟩ := ho.ex
  obtain ⟨r', h1', h2'⟩ := ho'.ex
  refine PT.weak (pt_chain h1 h1' (ha G W tk) (hb G W tk) (hc G W tk) hm) fun σ H Q h => ?_
  have h' := test_ok h
  exact chain_ok h2 h2' h'
/-! ### several values, what is one's own kept so -/
structure Under (G G' : Gh) : Prop where
  cm : G'.cm = G.cm
  S : G'.S = G.S
  fr : ∀ {Z H : Hp} {ρ : Rho} {σ : L2.St} {c : Nat}, Fr G' Z H ρ σ c → Fr G Z H ρ σ c
  h0 : ∀ a, G'.H0 a = none → G.H0 a = none
  T : G'.T = G.T
theorem Under.refl (G : Gh) : Under G G := ⟨rfl, rfl, fun F => F, fun _ h => h, rfl⟩
theorem Under.takes {G G' : Gh} {W : DX} (u : Under G G') (tk : Tk X G W) : Tk X G' W := ⟨tk.tk.imp fun cls d σ H ⟨Z, ρ, c, x, F, l, xo, w⟩ => ⟨Z, ρ, c, x, u.fr F, by rw [← u.cm]; exact l, by rw [← u.S]; exact xo, w⟩, u.T.trans tk.ok⟩
theorem Under.vok {G G' : Gh} (u : Under G G') {Z H : Hp} {ρ : Rho} {σ : L2.St} {r : Vd} {v : V} (o : VOk G' Z H ρ σ r v) : VOk G Z H ρ σ r v := by
  cases r with
  | sh d => show Rep _ _ _ _; rw [← u.S]; exact o
  | nw ds =>
    obtain ⟨a, e, ⟨vs, h1, h2, h3, h4⟩, no⟩ := o
    exact ⟨a, e, ⟨vs, h1, h2, u.h0 a h3, by rw [← u.S]; exact h4⟩, no⟩
/-- hold a value apart while others are made -/
theorem Fr.holdV {G : Gh} {Z H : Hp} {ρ : Rho} {σ : L2.St} {c : Nat} (F : Fr G Z H ρ σ c) {r : Vd} {v : V} (o : VOk G Z H ρ σ r v) : ∃ G', Under G G' ∧ Fr G' Z H ρ σ c ∧
    (∀ Z' H' ρ' c', Sub Z Z' → Fr G' Z' H' ρ' σ c' → VOk G Z' H' ρ' σ r v) ∧ ∀ Z' H' ρ' r2 v2, VOk G' Z' H' ρ' σ r2 v2 → ∀ ds es, r = .nw ds → r2 = .nw es → v2 ≠ v := by
  cases r with
  | sh d => exact ⟨G, .refl G, F, fun Z' H' ρ' c' z _ => Rep.mono z o, fun _ _ _ _ _ _ ds es q => by cases q⟩
  | nw ds =>
    obtain ⟨a, rfl, ⟨ho, h1, h2, h3, h4⟩, no⟩ := o
    have z0 := F.z0n h2
    refine ⟨G.with a ho h4.ntbl, ⟨rfl, rfl, fun F' => (F'.drop F.gs h3 z0 h4.ntup).1, fun b hb => ?_, rfl⟩, F.hold h1 h2 h3 no h4.ntbl h4.nown, fun Z' H' ρ' c' z F' => ?_, fun Z' H' ρ' r2 v2 o2 ds' es q1 q2 q3 => ?_⟩
    · by_cases e : b = a
      · rw [e]; exact h3
      · exact (upd_ne (H := G.H0) (o := ho) e).symm.trans hb
    · obtain ⟨_, g1, g2, g3⟩ := F'.drop F.gs h3 z0 h4.ntup
      exact ⟨a, rfl, ⟨ho, g1, g2, h3, h4.mono z⟩, g3⟩
    · subst q2
      obtain ⟨b, e, ⟨_, _, _, h0, _⟩, _⟩ := o2
      rw [q3] at e
      cases e
      rw [show (G.with a ho h4.ntbl).H0 = upd G.H0 a ho from rfl, upd_same] at h0
      cases h0
def Vd.isNw : Vd → Bool
  | .nw _ => true
  | _ => false
def VOks (G : Gh) (Z H : Hp) (ρ : Rho) (σ : L2.St) : List Vd → List V → Prop
  | [], [] => True
  | r :: rs, v :: vs => VOk G Z H ρ σ r v ∧ VOks G Z H ρ σ rs vs ∧ (r.isNw = true → ∀ p ∈ rs.zip vs, p.1.isNw = true → p.2 ≠ v)
  | _, _ => False
abbrev DTV := Rho → (List Vd → Rho → Prop) → DX → Prop
def LV (G : Gh) (n : Nat) (t : DTV) (W : DX) : TA := fun σ H Q => ∃ Z ρ c Qd, Fr G Z H ρ σ c ∧ c + n ≤ G.cm ∧ t ρ Qd W ∧
  ∀ rs ρ' Z' H' vs c', Sub Z Z' → c' ≤ c + n → Qd rs ρ' → Fr G Z' H' ρ' σ c' → VOks G Z' H' ρ' σ rs vs → Q vs H'
def DV (X : Cx) (n : Nat) (es : List Expr) (t : DTV) : Prop := ∀ G W, Tk X G W → PA X es (LV G n t W)
@[simp] def dVNil : DTV := fun ρ Q _ => Q [] ρ
@[simp] def dVCons (ta : DTE) (tr : DTV) : DTV := fun ρ Q W => ta ρ (fun x ρ1 => tr ρ1 (fun xs ρ2 => Q (x :: xs) ρ2) W) W
theorem dv_nil : DV X 0 [] dVNil := fun G W _ => PA.weak pa_nil fun σ H Q ⟨Z, ρ, c, Qd, F, hc, t, k⟩ => k [] ρ Z H [] c (fun _ _ e => e) (Nat.le_refl _) t F (by simp [VOks])
theorem VOks.under {G G' : Gh} (u : Under G G') {Z H : Hp} {ρ : Rho} {σ : L2.St} : ∀ {rs : List Vd} {vs : List V}, VOks G' Z H ρ σ rs vs → VOks G Z H ρ σ rs vs
  | [], [], _ => by simp [VOks]
  | [], _ :: _, h => by simp [VOks] at h
  | _ :: _, [], h => by simp [VOks] at h
  | r :: rs, v :: vs, h => by
    rw [VOks] at h ⊢
    exact ⟨u.vok h.1, VOks.under u h.2.1, h.2.2⟩
theorem VOks.mem {G : Gh} {Z H : Hp} {ρ : Rho} {σ : L2.St} : ∀ {rs : List Vd} {vs : List V}, VOks G Z H ρ σ rs vs → ∀ p ∈ rs.zip vs, VOk G Z H ρ σ p.1 p.2
  | [], [], _, p, hp => by simp at hp
  | [], _ :: _, h, _, _ => by simp [VOks] at h
  | _ :: _, [], h, _, _ => by simp [VOks] at h
  | r :: rs, v :: vs, h, p, hp => by
    rw [VOks] at h
    rw [List.zip_cons_cons] at hp
    rcases List.mem_cons.mp hp with rfl | hp
    · exact h.1
    · exact VOks.mem h.2.1 p hp
theorem dv_cons {tr : DTV} (ha : DE X n e ta) (hr : DV X m es tr) (hs : starEach (e :: es) X.env = (false, eval e X.env) :: starEach es X.env := by rfl) : DV X (n + m) (e :: es) (dVCons ta tr) := fun G W tk => by
  have hr' : PA X es (fun σ H Q => ∃ G', Under G G' ∧ LV G' m tr W σ H Q) := ⟨fun pos pins s σ H Q I ⟨G', u, h⟩ => (hr G' W (u.takes tk)).run pos pins s σ H Q I h⟩
  refine PA.weak (pa_cons (ha G W tk) hr' hs) fun σ H Q ⟨Z, ρ, c, Qd, F, hc, t, k⟩ => ?_
  refine ⟨Z, ρ, c, _, F, by omega, t, fun x ρ1 Z1 H1 v c1 z1 l1 q F1 o1 => ?_⟩
  obtain ⟨G', u, F2, ho, hne⟩ := F1.holdV o1
  refine ⟨G', u, Z1, ρ1, c1, _, F2, by rw [u.cm]; omega, q, fun rs ρ3 Z3 H3 vs c3 z3 l3 q3 F3 o3 => ?_⟩
  refine k _ ρ3 Z3 H3 (v :: vs) c3 (z1.trans z3) (by omega) q3 (u.fr F3) ?_
  rw [VOks]
  refine ⟨ho Z3 H3 ρ3 c3 z3 F3, o3.under u, fun hx p hp hq => ?_⟩
  have op := o3.mem p hp
  cases x with
  | sh d => cases hx
  | nw ds =>
    cases hp2 : p.1 with
    | sh d => rw [hp2] at hq; cases hq
    | nw es => exact hne Z3 H3 ρ3 _ _ op ds es rfl hp2
/-- stores one after another -/
theorem Fr.put2 {G : Gh} {Z H : Hp} {ρ : Rho} {σ : L2.St} {c i : Nat} {r : Vd} {v : V} (F : Fr G Z H ρ σ c) (o : VOk G Z H ρ σ r v) {r2 : Vd} {v2 : V} (o2 : VOk G Z H ρ σ r2 v2) (hne : r.isNw = true → r2.isNw = true → v2 ≠ v) : VOk G Z H (ρ.set i r.slot) (σ.set i (some v)) r2 v2 := by
  cases r2 with
  | sh d => exact o2
  | nw es =>
    obtain ⟨a, rfl, ow, no⟩ := o2
    refine ⟨a, rfl, ow, fun j s e w q => ?_⟩
    have hl : i < σ.length ∨ ¬ i < σ.length := Nat.lt_or_ge _ _ |>.imp id (by omega)
    rcases set_get e with ⟨rfl, rfl⟩ | ⟨ne, e⟩
    · cases r with
      | sh d => cases w
      | nw ds =>
        have hl : i < σ.length := by
          have := (List.getElem?_eq_some_iff.mp e).1
          rw [List.length_set, F.len] at this; exact this
        rw [List.getElem?_set_self hl] at q
        cases q
        exact hne rfl rfl rfl
    · rw [List.getElem?_set_ne ne] at q
      exact no j s e w q
@[simp] def dPar2 (i j : Nat) (tv : DTV) : DTS := fun D W ρ => tv ρ (fun rs ρ1 => ∃ r s, rs = [r, s] ∧ D.nx ((ρ1.set i r.slot).set j s.slot)) W
theorem ds_par2 {i j : Nat} {x y : Str} {a b : Expr} {tv : DTV} {px py pt : Pos} {kt k2 pt2} (hc : X.calm = true) (hN : X.N.Nodup) (hi : X.N[i]? = some x) (hj : X.N[j]? = some y) (hij : i ≠ j)
    (hx : X.env.scope.names.lookup x = some .local) (hy : X.env.scope.names.lookup y = some .local) (ha : DV X n [a, b] tv)
    (hw : swappedStores [.Tuple [.Name x px, .Name y py] kt pt] (.Tuple [a, b] k2 pt2) X.env = pure (some [x, y]))
    (hs : swapsWithSole [.Tuple [.Name x px, .Name y py] kt pt] (.Tuple [a, b] k2 pt2) pos.line X.env = pure false := by rfl) :
    DS X n (.Assign [.Tuple [.Name x px, .Name y py] kt pt] (.Tuple [a, b] k2 pt2) pos) (dPar2 i j tv) := fun G W tk => PS.weak (ps_par hc hN hi hj hij hx hy (ha G W tk) hw hs) fun D σ H ⟨Z, ρ, c, Dd, F, hcm, t, k⟩ => by
  refine ⟨Z, ρ, c, _, F, hcm, t, fun rs ρ1 Z1 H1 vs c1 z1 l1 q F1 o1 => ?_⟩
  obtain ⟨r, s, rfl, q⟩ := q
  match vs, o1 with
  | [], h => simp [VOks] at h
  | [_], h => simp [VOks] at h
  | _ :: _ :: _ :: _, h => simp [VOks] at h
  | [v, w], h =>
    simp only [VOks] at h
    obtain ⟨o, ⟨o2, _⟩, ne⟩ := h
    exact ⟨v, w, rfl, k.nx _ _ Z1 H1 c1 z1 l1 q ((F1.put o).put (F1.put2 o o2 fun h1 h2 => ne h1 (s, w) (by simp) h2))⟩
@[simp] def dPar3 (i j l : Nat) (tv : DTV) : DTS := fun D W ρ => tv ρ (fun rs ρ1 => ∃ r s u, rs = [r, s, u] ∧ D.nx (((ρ1.set i r.slot).set j s.slot).set l u.slot)) W
end
end DL
set_option Elab.async false
set_option linter.all false
set_option maxRecDepth 100000
set_option maxHeartbeats 4000000
namespace DL
open PySem L2 PyProof.Rows
/-! ### a list or a tuple, as a source -/
def SqB : Bool → PySem.W.Frag → Hp → Addr → List V → Prop
  | true, K, H, a, xs => SqL K H a xs
  | false, K, H, a, xs => SqT K H a xs
def ItB : Bool → Heap → Addr → Addr → Nat → Prop
  | true, h, it, a, i => h.IsListIter it a i
  | false, h, it, a, i => h.IsTupleIter it a i
def CoB : Bool → Heap → Addr → Array Value → Prop
  | true, h, a, its => h.IsList a its
  | false, h, a, its => h.IsTuple a its
def objB : Bool → Addr → Obj
  | true, a => { cls := .type "list_iterator", data := .fields #[.ref a, .int 0 0] }
  | false, a => { cls := .type "tuple_iterator", data := .fields #[.ref a, .int 0 0] }
theorem ItB.at {l : Bool} {h h' : Heap} {it a : Addr} {i : Nat} (x : ItB l h it a i) (k : ∀ o, h.get? it = some o → h'.get? it = some o) : ItB l h' it a i := by
  cases l with
  | true => exact Heap.IsListIter.at x k
  | false => exact Heap.IsTupleIter.at x k
theorem ItB.obj {l : Bool} {h : Heap} {it a : Addr} {i : Nat} (x : ItB l h it a i) : ∃ o, h.get? it = some o ∧ (∃ c : String, o.cls = .type c ∧ (c = "list_iterator" ∨ c = "tuple_iterator")) ∧ ∀ v, o.data ≠ .cell v := by
  cases l with
  | true =>
    obtain ⟨o, e, c, d⟩ := (show h.IsListIter it a i from x)
    exact ⟨o, e, ⟨_, c, .inl rfl⟩, fun v z => by rw [d] at z; cases z⟩
  | false =>
    obtain ⟨o, e, c, d⟩ := (show h.IsTupleIter it a i from x)
    exact ⟨o, e, ⟨_, c, .inr rfl⟩, fun v z => by rw [d] at z; cases z⟩
theorem CoB.obj {l : Bool} {h : Heap} {a : Addr} {its : Array Value} (x : CoB l h a its) : ∃ o, h.get? a = some o ∧ (o.cls = .type "list" ∨ o.cls = .type "tuple") := by
  cases l with
  | true =>
    obtain ⟨o, e, c, _⟩ := (show h.IsList a its from x)
    exact ⟨o, e, .inl c⟩
  | false =>
    obtain ⟨o, e, c, _⟩ := (show h.IsTuple a its from x)
    exact ⟨o, e, .inr c⟩
theorem ItB.ne {l l' : Bool} {h : Heap} {it a b : Addr} {i : Nat} {its : Array Value} (x : ItB l h it a i) (y : CoB l' h b its) : b ≠ it := by
  rintro rfl
  obtain ⟨o, e, ⟨c, hc, hc'⟩, _⟩ := x.obj
  obtain ⟨o', e', c2⟩ := y.obj
  rw [e] at e'; cases e'
  rcases hc' with rfl | rfl <;> rcases c2 with c2 | c2 <;> (rw [hc] at c2; exact absurd c2 (by decide))
theorem drawsB {prog : Program} {w : World} {A : Around} (hh : A.handled = none) (l : Bool) (it a : Addr) (hne : a ≠ it) (its : Array Value) : Draws prog w A it [it, a] its.size (fun i v => its[i]? = some v) (fun i h => ItB l h it a i ∧ CoB l h a its) := by
  cases l with
  | true => exact Draws.list hh it a hne its
  | false => exact Draws.tuple hh it a hne its
theorem beginsB (l : Bool) (a : Addr) (its : Array Value) : Begins (.ref a) (objB l a) fun h => CoB l h a its := by
  cases l with
  | true => exact begins_list a its
  | false => exact begins_tuple a its
theorem itB_new {l : Bool} {h : Heap} {it a : Addr} (e : h.get? it = some (objB l a)) : ItB l h it a 0 := by
  cases l with
  | true => exact ⟨_, e, rfl, rfl⟩
  | false => exact ⟨_, e, rfl, rfl⟩
section
variable {X : Cx} {pins : List (Addr × Obj)} {σ : L2.St} {H : Hp} {s : Shared} {a : Addr} {xs ys : List V}
theorem invB (I : L2.Inv X pins σ H s) {l : Bool} (h : SqB l X.K H a xs) : ∃ its : List Value, Vals xs its ∧ CoB l s.heap a its.toArray ∧ xs.length ≤ sizeLine := by
  cases l with
  | true =>
    obtain ⟨its, r, p, z⟩ := I.list h
    exact ⟨its, r, p.isList, z⟩
  | false =>
    obtain ⟨its, r, p, z⟩ := I.tuple h
    exact ⟨its, r, p, z⟩
theorem invB_inj (I : L2.Inv X pins σ H s) {l : Bool} (h : SqB l X.K H a xs) (h' : SqB l X.K H a ys) : xs = ys := by
  cases l with
  | true => exact I.list_inj h h'
  | false => exact I.tuple_inj h h'
end
/-! ### an iterator that hands out new pairs, brought to the hand layer -/
/-- new pairs (x, y) with Pt, told by GoesN -/
abbrev PairsBy (P : Program) (w : World) (A : Around) (elts : List Expr) (kk : Nat) (tpos : Pos) (I : Addr) (fp wr : List Addr) (n : Nat) (Pt : Nat → Value → Value → Prop) (St : Nat → Heap → Prop) : Prop :=
  GoesN P w A (.Tuple elts kk tpos) I fp wr n (fun i h0 v h => ∃ T x y, v = .ref T ∧ h0.objs.size ≤ T ∧ Pt i x y ∧ h.IsTuple T #[x, y]) St
/-- what a walk of pairs must bring at a state -/
structure PairStep (J : It) (own wr : List Addr) (tn : Nat → Heap → Prop) (i : Nat) (H : Hp) (h : Heap) (n : Nat) (Pt : Nat → Value → Value → Prop) (St : Nat → Heap → Prop) : Prop where
  lt : i < n
  now : St i h
  nxt : ∀ h', St (i + 1) h' → tn (i + 1) h'
  gives : ∀ x y, Pt i x y → ∃ a b : V, RelV a x ∧ RelV b y ∧ ∀ T, H T = none → J.yld i H (.ref T) (upd H T (.tup [a, b]))
theorem two_le : ([] : List V).length + 2 ≤ sizeLine := by rw [sizeLine_eq]; decide
theorem turn_pairs {P : Program} {w : World} {K : PySem.W.Frag} {elts : List Expr} {kk : Nat} {tpos : Pos} {J : It} {own wr : List Addr} {I : Addr} {tn : Nat → Heap → Prop} (hI : I ∈ own) (hwr : ∀ b ∈ wr, b ∈ own)
    (objs : ∀ i h, tn i h → ∀ b ∈ own, ∃ o, h.get? b = some o ∧ ∀ v, o.data ≠ .cell v) (kp : ∀ i h h', tn i h → (∀ b ∈ own, ∀ o, h.get? b = some o → h'.get? b = some o) → tn i h')
    (slf : ∀ (A : Around) (i : Nat) (s : Shared) (Q : Value → Shared → Prop) (E : Value → Shared → Prop), tn i s.heap → Q (.ref I) s → wpAny (model P w) A (pyIter (.ref I)) Q E s)
    (st : ∀ (X : Cx), X.prog = P → X.w = w → X.K = K → X.calm = true → ∀ (i : Nat) (pins : List (Addr × Obj)) (s : Shared) (σ : L2.St) (H : Hp), L2.Inv X pins σ H s → tn i s.heap → J.go i H →
      ∃ fp n Pt St, PairsBy P w X.A elts kk tpos I fp wr n Pt St ∧ PairStep J own wr tn i H s.heap n Pt St)
    (fin : ∀ (X : Cx), X.prog = P → X.w = w → X.K = K → X.calm = true → ∀ (i : Nat) (pins : List (Addr × Obj)) (s : Shared) (σ : L2.St) (H : Hp), L2.Inv X pins σ H s → tn i s.heap → J.stop i H →
      ∃ fp n Pt St, PairsBy P w X.A elts kk tpos I fp wr n Pt St ∧ St n s.heap) : Turn P w K (.Tuple elts kk tpos) J own I tn := by
  refine ⟨hI, objs, kp, ?_, ?_, slf⟩
  · intro X e1 e2 e3 hc i pins s σ H E inv hf t0 go
    obtain ⟨fp, n, Pt, St, W, B⟩ := st X e1 e2 e3 hc i pins s σ H inv t0 go
    refine W.goes i s _ E B.lt B.now ?_
    rintro v h' tk ⟨T, x, y, rfl, hT, hp, isT⟩ st' hk _
    obtain ⟨a, b, ra, rb, y0⟩ := B.gives x y hp
    have free : H T = none := inv.hok.fresh hT
    have apart : ∀ c ∈ own, c ≠ T := fun c hc e => by
      obtain ⟨o, ho, _⟩ := objs i s.heap t0 c hc
      have := Heap.lt_size ho
      rw [e] at this
      exact Nat.lt_irrefl _ (Nat.lt_of_lt_of_le this hT)
    subst e1 e2
    refine ⟨.ref T, upd H T (.tup [a, b]), inv.turnedNew (ch := wr) hk (fun c hc => hf c (hwr c hc)) hT ⟨two_le, [x, y], .cons ra (.cons rb .nil), isT⟩, rfl, y0 T free, B.nxt _ st', fun c hc => ?_⟩
    rw [upd_ne (apart c hc)]
    exact (hf c hc).1
  · intro X e1 e2 e3 hc i pins s σ H E inv hf t0 stp
    obtain ⟨fp, n, Pt, St, W, now⟩ := fin X e1 e2 e3 hc i pins s σ H inv t0 stp
    exact W.stops s _ E now fun h' tk hk _ => inv.turnedL hk fun c hc => hf c (hwr c hc)
/-! ### enumerate(seq) -/
theorem wp_if {M : Model} {A : Around} {α : Type} {c : Prop} [Decidable c] {a b : Sem α} {Q : α → Shared → Prop} {E : Value → Shared → Prop} {s : Shared} (h1 : wpAny M A a Q E s) (h2 : wpAny M A b Q E s) : wpAny M A (if c then a else b) Q E s := by
  split
  · exact h1
  · exact h2
theorem enum_of_one {v : Value} {o : Obj} {H : Heap → Prop} (B : Begins v o H) : Meets (Builtin.«enumerate.__new__» ⟨[.type "enumerate", v], []⟩) (fun _ R s => H s.heap ∧
    R (.ok (.ret (.ref (s.heap.objs.size + 1)))) { s with heap := (s.heap.push o).push { cls := .type "enumerate", data := .fields #[.none, .bool false, .ref s.heap.objs.size, rawInt 0, .none, .none] } }) := by
  intro prog w A R s hh
  obtain ⟨h1, hR⟩ := hh
  have it : ∀ {A' : Around} {E' : Value → Shared → Prop} {Q' : Value → Shared → Prop}, Q' (.ref s.heap.objs.size) { s with heap := s.heap.push o } → wpAny (model prog w) A' (pyIter v) Q' E' s := fun q => B.iter prog w _ _ s _ h1 q
  unfold Builtin.«enumerate.__new__»
  wp_walk
  rw [PySem.sub_enumerate]
  wp_walk using it
  refine wpAny_stack_any fun stk => wpAny_pure ?_
  refine wp_if ?_ ?_ <;> wp_walk using it
  all_goals
    have e : (s.heap.push o).objs.size = s.heap.objs.size + 1 := by simp [Heap.push]
    show R (.ok (.ret (.ref (s.heap.push o).objs.size))) _
    rw [e]
    exact hR
theorem enum_call {prog : Program} {w : World} {A : Around} {E : Value → Shared → Prop} {s : Shared} {v : Value} {o : Obj} {H : Heap → Prop} {Q : Value → Shared → Prop} (B : Begins v o H) (h1 : H s.heap)
    (q : Q (.ref (s.heap.objs.size + 1)) { s with heap := (s.heap.push o).push { cls := .type "enumerate", data := .fields #[.none, .bool false, .ref s.heap.objs.size, rawInt 0, .none, .none] } }) :
    wpAny (model prog w) A (call (.type "enumerate") [v]) Q E s := by
  refine callType_new F.called_enumerate (by decide) (F.typeCall_enumerate_1 v) (F.newCall_enumerate_1 v) (fun x => F.args_object_init_2 x v) F.entry_enumerate_new (enum_of_one B) ⟨h1, ?_, q⟩
  have e : s.heap.objs.size + 1 = (s.heap.push o).objs.size := by simp [Heap.push]
  rw [e]
  exact ⟨_, Heap.get?_push_size _ rfl, rfl⟩
/-! ### a walk of pairs by what the heap tells of them -/
/-- src H ps: at H the pairs are ps -/
def ItP (src : Hp → List (V × V) → Prop) : It where
  go := fun i H => ∃ ps, src H ps ∧ i < ps.length
  yld := fun i H x H' => ∃ T p, x = .ref T ∧ H T = none ∧ H' = upd H T (.tup [p.1, p.2]) ∧ ∀ ps, src H ps → ps[i]? = some p
  stop := fun i H => ∃ ps, src H ps ∧ ps.length = i
/-- the walk of the pairs ps, now at i -/
structure WalkP (P : Program) (w : World) (A : Around) (elts : List Expr) (kk : Nat) (tpos : Pos) (I : Addr) (wr : List Addr) (tn : Nat → Heap → Prop) (h : Heap) (i : Nat) (ps : List (V × V)) (fp : List Addr) (Pt : Nat → Value → Value → Prop) (St : Nat → Heap → Prop) : Prop where
  by_ : PairsBy P w A elts kk tpos I fp wr ps.length Pt St
  now : St i h
  nxt : ∀ h', St (i + 1) h' → tn (i + 1) h'
  rel : ∀ x y, Pt i x y → ∀ p, ps[i]? = some p → RelV p.1 x ∧ RelV p.2 y
theorem turn_src {P : Program} {w : World} {K : PySem.W.Frag} {elts : List Expr} {kk : Nat} {tpos : Pos} {src : Hp → List (V × V) → Prop} {own wr : List Addr} {I : Addr} {tn : Nat → Heap → Prop} (hI : I ∈ own) (hwr : ∀ b ∈ wr, b ∈ own)
    (objs : ∀ i h, tn i h → ∀ b ∈ own, ∃ o, h.get? b = some o ∧ ∀ v, o.data ≠ .cell v) (kp : ∀ i h h', tn i h → (∀ b ∈ own, ∀ o, h.get? b = some o → h'.get? b = some o) → tn i h')
    (slf : ∀ (A : Around) (i : Nat) (s : Shared) (Q : Value → Shared → Prop) (E : Value → Shared → Prop), tn i s.heap → Q (.ref I) s → wpAny (model P w) A (pyIter (.ref I)) Q E s)
    (inj : ∀ (X : Cx) (pins : List (Addr × Obj)) (s : Shared) (σ : L2.St) (H : Hp), X.K = K → L2.Inv X pins σ H s → ∀ ps qs, src H ps → src H qs → ps = qs)
    (wk : ∀ (X : Cx), X.prog = P → X.w = w → X.K = K → X.A.handled = none → ∀ (i : Nat) (pins : List (Addr × Obj)) (s : Shared) (σ : L2.St) (H : Hp), L2.Inv X pins σ H s → tn i s.heap → ∀ ps, src H ps →
      ∃ fp Pt St, WalkP P w X.A elts kk tpos I wr tn s.heap i ps fp Pt St) : Turn P w K (.Tuple elts kk tpos) (ItP src) own I tn := by
  refine turn_pairs hI hwr objs kp slf ?_ ?_
  · rintro X e1 e2 e3 hc i pins s σ H inv t0 ⟨ps, hs, hi⟩
    obtain ⟨fp, Pt, St, W⟩ := wk X e1 e2 e3 (inv.ok.hd hc) i pins s σ H inv t0 ps hs
    refine ⟨fp, ps.length, Pt, St, W.by_, hi, W.now, W.nxt, fun x y hp => ?_⟩
    have hg : ps[i]? = some ps[i] := List.getElem?_eq_getElem hi
    obtain ⟨r1, r2⟩ := W.rel x y hp _ hg
    exact ⟨_, _, r1, r2, fun T hT => ⟨T, ps[i], rfl, hT, rfl, fun qs hq => by rw [inj X pins s σ H e3 inv qs ps hq hs]; exact hg⟩⟩
  · rintro X e1 e2 e3 hc i pins s σ H inv t0 ⟨ps, hs, hi⟩
    obtain ⟨fp, Pt, St, W⟩ := wk X e1 e2 e3 (inv.ok.hd hc) i pins s σ H inv t0 ps hs
    exact ⟨fp, ps.length, Pt, St, W.by_, by rw [hi]; exact W.now⟩
/-- (k, x0), (k + 1, x1), .. -/
def numbered {α β : Type} (f : Nat → β) : Nat → List α → List (β × α)
  | _, [] => []
  | k, x :: xs => (f k, x) :: numbered f (k + 1) xs
theorem numbered_len {α β : Type} (f : Nat → β) : ∀ (k : Nat) (xs : List α), (numbered f k xs).length = xs.length
  | _, [] => rfl
  | k, x :: xs => by simp [numbered, numbered_len f (k + 1) xs]
theorem numbered_get {α β : Type} (f : Nat → β) : ∀ (k : Nat) (xs : List α) (i : Nat), (numbered f k xs)[i]? = (xs[i]?).map fun x => (f (k + i), x)
  | _, [], i => by simp [numbered]
  | k, x :: xs, 0 => by simp [numbered]
  | k, x :: xs, i + 1 => by
    simp only [numbered, List.getElem?_cons_succ, numbered_get f (k + 1) xs i]
    congr 1; funext y; congr 2; omega
def srcE (l : Bool) (K : PySem.W.Frag) (a : Addr) (H : Hp) (ps : List (V × V)) : Prop := ∃ xs, SqB l K H a xs ∧ ps = numbered (fun k => V.int (k : Nat)) 0 xs
def srcZ (l m : Bool) (K : PySem.W.Frag) (a b : Addr) (H : Hp) (ps : List (V × V)) : Prop := ∃ xs ys, SqB l K H a xs ∧ SqB m K H b ys ∧ ps = xs.zip ys
theorem vals_get {xs : List V} {its : List Value} (h : Vals xs its) {i : Nat} {x : V} {u : Value} (hx : xs[i]? = some x) (hu : its[i]? = some u) : RelV x u := by
  obtain ⟨u', e, r⟩ := paired_get h hx
  rw [hu] at e; cases e
  exact r
def enumTn (l : Bool) (a e it : Addr) (i : Nat) (h : Heap) : Prop := (∃ old, IsEnum h e it (i : Int) old) ∧ ItB l h it a i ∧ e ≠ it
theorem turn_enumP {P : Program} {w : World} {K : PySem.W.Frag} {elts : List Expr} {kk : Nat} {tpos : Pos} (l : Bool) (a e it : Addr) : Turn P w K (.Tuple elts kk tpos) (ItP (srcE l K a)) [e, it] e (enumTn l a e it) := by
  refine turn_src (wr := [e, it]) (by simp) (fun b hb => hb) ?_ ?_ ?_ ?_ ?_
  · rintro i h ⟨⟨old, he⟩, hi, _⟩ b hb
    simp only [List.mem_cons, List.not_mem_nil, or_false] at hb
    rcases hb with rfl | rfl
    · exact ⟨_, he, fun v z => by cases z⟩
    · obtain ⟨o, ho, _, hd⟩ := hi.obj
      exact ⟨o, ho, hd⟩
  · rintro i h h' ⟨⟨old, he⟩, hi, ne⟩ k
    exact ⟨⟨old, k e (by simp) _ he⟩, hi.at fun o => k it (by simp) o, ne⟩
  · rintro A i s Q E ⟨⟨old, he⟩, _⟩ q
    exact wpAny_pyIter_enum he q
  · rintro X pins s σ H e3 inv ps qs ⟨xs, h1, rfl⟩ ⟨ys, h2, rfl⟩
    subst e3
    rw [invB_inj inv h1 h2]
  · rintro X e1 e2 e3 hd i pins s σ H inv ⟨⟨old, he⟩, hi, ne⟩ ps ⟨xs, h1, rfl⟩
    subst e1 e2 e3
    obtain ⟨its, rv, co, _⟩ := invB inv h1
    have hai : a ≠ it := hi.ne co
    have hea : e ≠ a := by
      rintro rfl
      obtain ⟨o, ho, hc⟩ := co.obj
      rw [he] at ho; cases ho
      rcases hc with hc | hc <;> simp at hc
    have Dr := drawsB (prog := X.prog) (w := X.w) (A := X.A.in1) hd l it a hai its.toArray
    have G := GoesN.enumFrom (elts := elts) (x1 := kk) (pos := tpos) 0 Dr e ne (by simp [ne, hea]) (by simp)
    have hn : its.toArray.size = (numbered (fun k => V.int (k : Nat)) 0 xs).length := by
      rw [numbered_len, Paired.length rv]; simp
    rw [hn] at G
    refine ⟨_, fun i x y => (∃ t, x = .int (i : Int) t) ∧ its.toArray[i]? = some y, _, G.mono fun i h0 v h _ y => ?_, ⟨⟨old, by rw [Int.zero_add]; exact he⟩, hi, co⟩, fun h' st => ?_, fun x y hp p hg => ?_⟩
    · obtain ⟨T, t, x, ev, hT, hx, isT⟩ := y
      exact ⟨T, _, x, ev, hT, ⟨⟨t, rfl⟩, hx⟩, by rw [Int.zero_add] at isT; exact isT⟩
    · obtain ⟨⟨old', he'⟩, hi', _⟩ := st
      exact ⟨⟨old', by rw [Int.zero_add] at he'; exact he'⟩, hi', ne⟩
    · obtain ⟨⟨t, rfl⟩, hy⟩ := hp
      rw [numbered_get] at hg
      cases hx : xs[i]? with
      | none => rw [hx] at hg; cases hg
      | some x =>
        rw [hx] at hg
        simp only [Option.map_some, Option.some.injEq, Nat.zero_add] at hg
        subst hg
        exact ⟨⟨t, rfl⟩, vals_get rv hx (by simpa using hy)⟩
/-! ### zip(seq, seq) -/
structure ZipOwn (z TI TO i1 i2 : Addr) : Prop where
  d : [z, TI, TO, i1, i2].Nodup
def zipTn (l m : Bool) (a b z TI TO i1 i2 : Addr) (i : Nat) (h : Heap) : Prop := IsZip h z TI TO .none ∧ IsTupOf2 h TI (.ref i1) (.ref i2) ∧ (∃ c d, IsTupOf2 h TO c d) ∧ ItB l h i1 a i ∧ ItB m h i2 b i
theorem turn_zipP {P : Program} {w : World} {K : PySem.W.Frag} {elts : List Expr} {kk : Nat} {tpos : Pos} {l m : Bool} {a b z TI TO i1 i2 : Addr} (O : ZipOwn z TI TO i1 i2) (ha : a ≠ TO) (hb : b ≠ TO) :
    Turn P w K (.Tuple elts kk tpos) (ItP (srcZ l m K a b)) [z, TI, TO, i1, i2] z (zipTn l m a b z TI TO i1 i2) := by
  have nd := O.d
  simp only [List.nodup_cons, List.mem_cons, List.not_mem_nil, or_false, not_or, not_false_eq_true, List.nodup_nil, and_true] at nd
  obtain ⟨⟨zTI, zTO, zi1, zi2⟩, ⟨TITO, TIi1, TIi2⟩, ⟨TOi1, TOi2⟩, i12⟩ := nd
  refine turn_src (wr := [z, TO, i1, i2]) (by simp) (fun c hc => ?_) ?_ ?_ ?_ ?_ ?_
  · simp only [List.mem_cons, List.not_mem_nil, or_false] at hc ⊢
    rcases hc with h | h | h | h <;> simp [h]
  · rintro i h ⟨hz, h1, ⟨c, d, h2⟩, x1, x2⟩ q hq
    simp only [List.mem_cons, List.not_mem_nil, or_false] at hq
    rcases hq with rfl | rfl | rfl | rfl | rfl
    · exact ⟨_, hz, fun v y => by cases y⟩
    · exact ⟨_, h1, fun v y => by cases y⟩
    · exact ⟨_, h2, fun v y => by cases y⟩
    · obtain ⟨o, ho, _, hd⟩ := x1.obj; exact ⟨o, ho, hd⟩
    · obtain ⟨o, ho, _, hd⟩ := x2.obj; exact ⟨o, ho, hd⟩
  · rintro i h h' ⟨hz, h1, ⟨c, d, h2⟩, x1, x2⟩ k
    exact ⟨k z (by simp) _ hz, k TI (by simp) _ h1, ⟨c, d, k TO (by simp) _ h2⟩, x1.at fun o => k i1 (by simp) o, x2.at fun o => k i2 (by simp) o⟩
  · rintro A i s Q E ⟨hz, _⟩ q
    exact wpAny_pyIter_zip hz q
  · rintro X pins s σ H e3 inv ps qs ⟨xs, ys, h1, h2, rfl⟩ ⟨xs', ys', h3, h4, rfl⟩
    subst e3
    rw [invB_inj inv h1 h3, invB_inj inv h2 h4]
  · rintro X e1 e2 e3 hd i pins s σ H inv ⟨hz, h1, ⟨c, d, h2⟩, x1, x2⟩ ps ⟨xs, ys, s1, s2, rfl⟩
    subst e1 e2 e3
    obtain ⟨its, rv, co, _⟩ := invB inv s1
    obtain ⟨jts, rw', co', _⟩ := invB inv s2
    have za : ∀ {l' : Bool} {q : Addr} {us : Array Value}, CoB l' s.heap q us → z ≠ q := fun {l' q us} co e => by
      obtain ⟨o, ho, hc⟩ := co.obj
      rw [← e, hz] at ho; cases ho
      rcases hc with hc | hc <;> simp at hc
    have Sp : ZipSep2 z TI TO i1 i2 [i1, a] [i2, b] := ⟨Ne.symm zTI, Ne.symm zTO, TITO, TIi1, by simp, by simp [zi1, za co], by simp [TOi1, Ne.symm ha], TIi2, by simp, by simp [zi2, za co'], by simp [TOi2, Ne.symm hb],
      by simp [i12, Ne.symm (x1.ne co')], by simp [Ne.symm i12, Ne.symm (x2.ne co)]⟩
    have D1 := drawsB (prog := X.prog) (w := X.w) (A := X.A.in1) hd l i1 a (x1.ne co) its.toArray
    have D2 := drawsB (prog := X.prog) (w := X.w) (A := X.A.in1) hd m i2 b (x2.ne co') jts.toArray
    have G := GoesN.zip2 (elts := elts) (x1 := kk) (pos := tpos) Sp D1 D2
    have hn : min its.toArray.size jts.toArray.size = (xs.zip ys).length := by
      rw [List.length_zip, Paired.length rv, Paired.length rw']; simp
    rw [hn] at G
    refine ⟨_, fun i x y => its.toArray[i]? = some x ∧ jts.toArray[i]? = some y, _, G.mono fun i h0 v h _ y => ?_, ⟨hz, h1, ⟨c, d, h2⟩, ⟨x1, co⟩, ⟨x2, co'⟩⟩, fun h' st => ?_, fun x y hp p hg => ?_⟩
    · obtain ⟨T, x, y, ev, hT, hx, hy, isT⟩ := y
      exact ⟨T, x, y, ev, hT, ⟨hx, hy⟩, isT⟩
    · obtain ⟨g1, g2, g3, g4, g5⟩ := st
      exact ⟨g1, g2, g3, g4.1, g5.1⟩
    · obtain ⟨q1, q2⟩ := List.getElem?_zip_eq_some.mp hg
      exact ⟨vals_get rv q1 (by simpa using hp.1), vals_get rw' q2 (by simpa using hp.2)⟩
/-! ### the two calls as what is walked -/
theorem coB_lt {l : Bool} {h : Heap} {a : Addr} {its : Array Value} (x : CoB l h a its) : a < h.objs.size := by
  obtain ⟨o, ho, _⟩ := x.obj
  exact Heap.lt_size ho
/-- objects that are all young may turn -/
theorem young {X : Cx} {pins : List (Addr × Obj)} {σ : L2.St} {H : Hp} {s : Shared} (I : L2.Inv X pins σ H s) {own : List Addr} (h : ∀ b ∈ own, s.heap.objs.size ≤ b) : ∀ b ∈ own, FpOk X pins H b := fun b hb => I.fpOk (h b hb) (I.hok.fresh (h b hb))
/-- a built-in class is called, what it makes is walked -/
theorem pi_call {X : Cx} {tg e : Expr} {es : List Expr} {ta : TA} {p pos : Pos} {x : Str} {T : String} {r : List V → Hp → (It → Hp → Prop) → Prop}
    (go : ∀ (pins : List (Addr × Obj)) (s : Shared) (σ : L2.St) (H : Hp) (vs : List V) (us : List Value) (R : It → Hp → Prop), L2.Inv X pins σ H s → Vals vs us → r vs H R →
      wpAny (model X.prog X.w) X.A (call (.type T) us) (fun v s1 => wpAny (model X.prog X.w) X.A (pyIter v) (PIE X pins σ tg R) X.xe s1) X.xe s)
    (hg : Gl X x) (hm : X.mg x = none) (hv : bootBuiltins x = some (.type T)) (ha : PA X (e :: es) ta) (hn : x ≠ "__name__") (hdb : (x == ("__debug__" : Str)) = false)
    (he : starEach (e :: es) X.env = (false, eval e X.env) :: starEach es X.env) (hpl : (backTo pos (starEach es X.env)).any (·.1) = false) :
    PI X tg (.Call (.Name x p) (e :: es) [] pos) (fun σ H R => ta σ H fun vs H1 => r vs H1 R) := ⟨by
  intro pins s σ H R inv h
  have args := ha.run pos pins s σ H _ inv h
  refine wpAny_Call_Name_kw (ld_blt inv hg hm hv ?_ hn hdb)
  refine callWith_type1 (thn args ?_) he hpl
  rintro us s1 ⟨vs, H1, inv1, rv, hr⟩
  exact go pins s1 σ H1 vs us R inv1 rv hr⟩
theorem vals_ref1 {a : Addr} {us : List Value} (h : Vals [V.ref a] us) : us = [.ref a] := by
  cases h with
  | cons r rr => cases rr; cases r; rfl
theorem vals_ref2 {a b : Addr} {us : List Value} (h : Vals [V.ref a, V.ref b] us) : us = [.ref a, .ref b] := by
  cases h with
  | cons r rr => cases r; rw [vals_ref1 rr]
theorem five_nodup (n : Nat) : [n + 4, n + 2, n + 3, n, n + 1].Nodup := by
  simp only [List.nodup_cons, List.mem_cons, List.not_mem_nil, or_false, not_or, not_false_eq_true, List.nodup_nil, and_true]
  omega
def iEnumB (K : PySem.W.Frag) (ta : TA) : TI := fun σ H R => ta σ H fun vs H1 => ∃ l a xs, vs = [.ref a] ∧ SqB l K H1 a xs ∧ R (ItP (srcE l K a)) H1
def iZipB (K : PySem.W.Frag) (ta : TA) : TI := fun σ H R => ta σ H fun vs H1 => ∃ l m a b xs ys, vs = [.ref a, .ref b] ∧ SqB l K H1 a xs ∧ SqB m K H1 b ys ∧ R (ItP (srcZ l m K a b)) H1
section
variable {X : Cx} {e e2 : Expr} {ta : TA} {p pos tpos : Pos} {elts : List Expr} {kk : Nat}
theorem pi_enumB (hg : Gl X "enumerate") (hm : X.mg "enumerate" = none) (ha : PA X [e] ta) (hs : starEach [e] X.env = [(false, eval e X.env)] := by rfl) : PI X (.Tuple elts kk tpos) (.Call (.Name "enumerate" p) [e] [] pos) (iEnumB X.K ta) := by
  refine pi_call (r := fun vs H1 R => ∃ l a xs, vs = [.ref a] ∧ SqB l X.K H1 a xs ∧ R (ItP (srcE l X.K a)) H1) ?_ hg hm boot_enumerate ha (by decide) (by decide) hs rfl
  rintro pins s σ H vs us R inv rv ⟨l, a, xs, rfl, hq, q⟩
  rw [vals_ref1 rv]
  obtain ⟨its, _, co, _⟩ := invB inv hq
  refine enum_call (beginsB l a its.toArray) co ?_
  have size1 : (s.heap.push (objB l a)).objs.size = s.heap.objs.size + 1 := by simp [Heap.push]
  have free : (objB l a).isFreed = false := (beginsB l a its.toArray).free
  have k : ∀ b o, s.heap.get? b = some o → ((s.heap.push (objB l a)).push { cls := .type "enumerate", data := .fields #[.none, .bool false, .ref s.heap.objs.size, rawInt 0, .none, .none] }).get? b = some o := fun b o h => Heap.get?_push_of_some _ (Heap.get?_push_of_some _ h)
  have hE : IsEnum ((s.heap.push (objB l a)).push { cls := .type "enumerate", data := .fields #[.none, .bool false, .ref s.heap.objs.size, rawInt 0, .none, .none] }) (s.heap.objs.size + 1) s.heap.objs.size 0 .none := by
    unfold IsEnum
    rw [← size1]
    exact Heap.get?_push_size _ rfl
  have hI : ItB l ((s.heap.push (objB l a)).push { cls := .type "enumerate", data := .fields #[.none, .bool false, .ref s.heap.objs.size, rawInt 0, .none, .none] }) s.heap.objs.size a 0 := itB_new (Heap.get?_push_of_some _ (Heap.get?_push_size _ free))
  refine wpAny_pyIter_enum (s := { s with heap := _ }) hE ?_
  refine ⟨_, [s.heap.objs.size + 1, s.heap.objs.size], _, _, H, rfl, inv.kept (t' := s.toks) k, turn_enumP l a (s.heap.objs.size + 1) s.heap.objs.size, ⟨⟨_, hE⟩, hI, Nat.succ_ne_self _⟩, young inv fun b hb => ?_, q⟩
  simp only [List.mem_cons, List.not_mem_nil, or_false] at hb
  rcases hb with h | h <;> (rw [h]; first | exact Nat.le_refl _ | exact Nat.le_add_right _ _)
theorem pi_zipB (hg : Gl X "zip") (hm : X.mg "zip" = none) (ha : PA X [e, e2] ta) (hs : starEach [e, e2] X.env = (false, eval e X.env) :: starEach [e2] X.env := by rfl) (hpl : (backTo pos (starEach [e2] X.env)).any (·.1) = false := by rfl) :
    PI X (.Tuple elts kk tpos) (.Call (.Name "zip" p) [e, e2] [] pos) (iZipB X.K ta) := by
  refine pi_call (r := fun vs H1 R => ∃ l m a b xs ys, vs = [.ref a, .ref b] ∧ SqB l X.K H1 a xs ∧ SqB m X.K H1 b ys ∧ R (ItP (srcZ l m X.K a b)) H1) ?_ hg hm boot_zip ha (by decide) (by decide) hs hpl
  rintro pins s σ H vs us R inv rv ⟨l, m, a, b, xs, ys, rfl, hq, hq2, q⟩
  rw [vals_ref2 rv]
  obtain ⟨its, _, co, _⟩ := invB inv hq
  obtain ⟨jts, _, co', _⟩ := invB inv hq2
  refine zip_begins2 (beginsB l a its.toArray) (beginsB m b jts.toArray) co co' fun h' hz h1 h2 g1 g2 _ k => wpAny_pyIter_zip (s := { s with heap := h' }) hz ?_
  have la := coB_lt co
  have lb := coB_lt co'
  refine ⟨_, [s.heap.objs.size + 4, s.heap.objs.size + 2, s.heap.objs.size + 3, s.heap.objs.size, s.heap.objs.size + 1], _, _, H, rfl, inv.kept (t' := s.toks) k, turn_zipP ⟨five_nodup _⟩ (Nat.ne_of_lt (Nat.lt_add_right 3 la)) (Nat.ne_of_lt (Nat.lt_add_right 3 lb)), ⟨hz, h1, ⟨_, _, h2⟩, itB_new g1, itB_new g2⟩, young inv fun c hc => ?_, q⟩
  simp only [List.mem_cons, List.not_mem_nil, or_false] at hc
  rcases hc with h | h | h | h | h <;> (rw [h]; first | exact Nat.le_refl _ | exact Nat.le_add_right _ _)
end
end DL
set_option Elab.async false
set_option linter.all false
set_option maxRecDepth 100000
set_option maxHeartbeats 4000000
namespace DL
open PySem L2 PyProof.Rows
/-! ### enumerate, zip over data -/
def enumD : Nat → List D → List D
  | _, [] => []
  | i, d :: ds => .tup [.int i, d] :: enumD (i + 1) ds
theorem enumD_len : ∀ (k : Nat) (ds : List D), (enumD k ds).length = ds.length
  | _, [] => rfl
  | k, _ :: ds => by simp [enumD, enumD_len (k + 1) ds]
theorem enumD_get : ∀ (k : Nat) (ds : List D) (i : Nat), (enumD k ds)[i]? = (ds[i]?).map fun d => D.tup [.int ((k + i : Nat) : Int), d]
  | _, [], _ => by simp [enumD]
  | k, d :: ds, 0 => by simp [enumD]
  | k, d :: ds, i + 1 => by
    rw [enumD, List.getElem?_cons_succ, enumD_get (k + 1) ds i, List.getElem?_cons_succ]
    have : k + 1 + i = k + (i + 1) := by omega
    rw [this]
def zipD (xs ys : List D) : List D := (xs.zip ys).map fun p => D.tup [p.1, p.2]
theorem items_sq {S : Option Stm} {Z : Hp} {d : D} {v : V} {ds : List D} (r : Rep S Z d v) (h : itemsOf d = some ds) : ∃ (l : Bool) (a : Addr) (vs : List V), v = .ref a ∧ ds.length ≤ sizeLine ∧ Reps S Z ds vs ∧ ∀ (K : PySem.W.Frag) (H : Hp), Sub Z H → SqB l K H a vs := by
  cases d <;> simp only [itemsOf] at h <;> first | (cases h; done) | skip
  · cases h
    obtain ⟨a, vs, rfl, hz, hl, rs⟩ := Rep.tup_iff.mp r
    exact ⟨false, a, vs, rfl, hl, rs, fun K H zh => SqT.of (zh _ _ hz)⟩
  · cases h
    obtain ⟨a, vs, rfl, hz, hl, rs⟩ := Rep.lst_iff.mp r
    exact ⟨true, a, vs, rfl, hl, rs, fun K H zh => SqL.of (zh _ _ hz)⟩
/-- a new pair, frozen -/
theorem pair_new {S : Option Stm} {Zc H : Hp} {T : Addr} {d e : D} {x y : V} (zh : Sub Zc H) (hT : H T = none) (r1 : Rep S Zc d x) (r2 : Rep S Zc e y) : Sub H (upd H T (.tup [x, y])) ∧ ∃ Z1, Sub Zc Z1 ∧ Sub Z1 (upd H T (.tup [x, y])) ∧ (∀ b o, Z1 b = some o → Zc b = some o ∨ (NewIn (H) b o)) ∧ Rep S Z1 (.tup [d, e]) (.ref T) := by
  have hz := freeZ zh hT
  refine ⟨sub_upd hT, upd Zc T (.tup [x, y]), sub_upd hz, fun b o q => ?_, fun b o q => ?_, ?_⟩
  · by_cases hb : b = T
    · subst hb; rw [upd_same] at q ⊢; exact q
    · rw [upd_ne hb] at q ⊢; exact zh b o q
  · by_cases hb : b = T
    · subst hb; rw [upd_same] at q; cases q; exact .inr ⟨.inl hT, fun ps z => by cases z⟩
    · rw [upd_ne hb] at q; exact .inl q
  · rw [Rep.tup_iff]
    exact ⟨T, [x, y], rfl, upd_same, by show 2 ≤ sizeLine; rw [sizeLine_eq]; decide, Reps.cons (r1.mono (sub_upd hz)) (Reps.cons (r2.mono (sub_upd hz)) Reps.nil)⟩
/-- pairs of data, as a walk of pairs hands them out -/
theorem it_pairs {S : Option Stm} {Z : Hp} {src : Hp → List (V × V) → Prop} {ps : List (V × V)} {ds : List (D × D)} (hl : ds.length ≤ sizeLine) (hs : ∀ H, Sub Z H → src H ps) (he : ds.length = ps.length)
    (rp : ∀ (i : Nat) (d : D × D) (p : V × V), ds[i]? = some d → ps[i]? = some p → Rep S Z d.1 p.1 ∧ Rep S Z d.2 p.2) : ItOk S (ItP src) Z (ds.map fun d => D.tup [d.1, d.2]) := by
  refine ⟨by simpa using hl, fun i H zh hi => ⟨ps, hs H zh, by simpa [he] using hi⟩, fun H zh => ⟨ps, hs H zh, by simp [he]⟩, ?_⟩
  rintro i H Zc x H' d zc zh hd ⟨T, p, rfl, hT, rfl, hp⟩
  rw [List.getElem?_map] at hd
  cases q : ds[i]? with
  | none => rw [q] at hd; cases hd
  | some e =>
    rw [q] at hd
    cases hd
    obtain ⟨r1, r2⟩ := rp i e p q (hp ps (hs H (zc.trans zh)))
    exact pair_new zh hT (r1.mono zc) (r2.mono zc)
theorem enumD_numbered : ∀ (k : Nat) (ds : List D), enumD k ds = (numbered (fun k => D.int (k : Nat)) k ds).map fun d => D.tup [d.1, d.2]
  | _, [] => rfl
  | k, d :: ds => by simp only [enumD, numbered, List.map_cons, enumD_numbered (k + 1) ds]
theorem it_enum {S : Option Stm} {K : PySem.W.Frag} {Z : Hp} {l : Bool} {a : Addr} {vs : List V} {ds : List D} (hl : ds.length ≤ sizeLine) (rs : Reps S Z ds vs) (sq : ∀ H, Sub Z H → SqB l K H a vs) : ItOk S (ItP (srcE l K a)) Z (enumD 0 ds) := by
  rw [enumD_numbered]
  refine it_pairs (ps := numbered (fun k => V.int (k : Nat)) 0 vs) (by rw [numbered_len]; exact hl) (fun H zh => ⟨vs, sq H zh, rfl⟩) (by rw [numbered_len, numbered_len, rs.length]) fun i d p hd hp => ?_
  rw [numbered_get] at hd hp
  cases q : ds[i]? with
  | none => rw [q] at hd; cases hd
  | some e =>
    obtain ⟨v, hv, r⟩ := rs.get q
    rw [q] at hd
    rw [hv] at hp
    cases hd
    cases hp
    exact ⟨Rep.int, r⟩
theorem it_zip {S : Option Stm} {K : PySem.W.Frag} {Z : Hp} {l m : Bool} {a b : Addr} {vs us : List V} {ds es : List D} (hl : ds.length ≤ sizeLine) (rs : Reps S Z ds vs) (rt : Reps S Z es us) (sq : ∀ H, Sub Z H → SqB l K H a vs) (sq2 : ∀ H, Sub Z H → SqB m K H b us) :
    ItOk S (ItP (srcZ l m K a b)) Z (zipD ds es) := by
  refine it_pairs (ps := vs.zip us) (by rw [List.length_zip]; exact Nat.le_trans (Nat.min_le_left _ _) hl) (fun H zh => ⟨vs, us, sq H zh, sq2 H zh, rfl⟩) (by rw [List.length_zip, List.length_zip, rs.length, rt.length]) fun i d p hd hp => ?_
  obtain ⟨h1, h2⟩ := List.getElem?_zip_eq_some.mp hd
  obtain ⟨h3, h4⟩ := List.getElem?_zip_eq_some.mp hp
  obtain ⟨v, hv, r⟩ := rs.get h1
  obtain ⟨u, hu, r'⟩ := rt.get h2
  rw [hv] at h3
  rw [hu] at h4
  cases h3
  cases h4
  exact ⟨r, r'⟩
section
variable {X : Cx} {n m k : Nat} {e e2 o : Expr} {es : List Expr} {ts : DTA} {ta : DTE} {pos p tpos : Pos} {elts : List Expr} {kk : Nat}
@[simp] def dEnum (ts : DTA) : DTI := fun ρ Q W => ts ρ (fun ds ρ1 => ∃ x xs, ds = [x] ∧ itemsOf x = some xs ∧ Q (enumD 0 xs) ρ1) W
@[simp] def dZip (ts : DTA) : DTI := fun ρ Q W => ts ρ (fun ds ρ1 => ∃ x y xs ys, ds = [x, y] ∧ itemsOf x = some xs ∧ itemsOf y = some ys ∧ Q (zipD xs ys) ρ1) W
theorem di_enum (hg : Gl X "enumerate") (hm : X.mg "enumerate" = none) (ha : DA X n [e] ts) (hs : starEach [e] X.env = [(false, eval e X.env)] := by rfl) : DI X n (.Tuple elts kk tpos) (.Call (.Name "enumerate" p) [e] [] pos) (dEnum ts) := fun G W tk =>
  PI.weak (pi_enumB hg hm (ha G W tk) hs) fun σ H R ⟨Z, ρ, c, Qd, F, hc, t, kk⟩ => by
    refine ⟨Z, ρ, c, _, F, hc, t, fun ds ρ1 Z1 H1 vs c1 z1 l1 q F1 rs => ?_⟩
    obtain ⟨x, xs, rfl, hx, q⟩ := q
    obtain ⟨v, rfl, r⟩ := rs.one
    obtain ⟨l, a, us, rfl, hl, ru, sq⟩ := items_sq r hx
    exact ⟨l, a, us, rfl, sq _ _ F1.zh, kk _ ρ1 Z1 H1 _ c1 z1 l1 q F1 (it_enum hl ru (sq X.K))⟩
theorem di_zip (hg : Gl X "zip") (hm : X.mg "zip" = none) (ha : DA X n [e, e2] ts) (hs : starEach [e, e2] X.env = (false, eval e X.env) :: starEach [e2] X.env := by rfl) (hpl : (backTo pos (starEach [e2] X.env)).any (·.1) = false := by rfl) :
    DI X n (.Tuple elts kk tpos) (.Call (.Name "zip" p) [e, e2] [] pos) (dZip ts) := fun G W tk =>
  PI.weak (pi_zipB hg hm (ha G W tk) hs hpl) fun σ H R ⟨Z, ρ, c, Qd, F, hc, t, kk⟩ => by
    refine ⟨Z, ρ, c, _, F, hc, t, fun ds ρ1 Z1 H1 vs c1 z1 l1 q F1 rs => ?_⟩
    obtain ⟨x, y, xs, ys, rfl, hx, hy, q⟩ := q
    obtain ⟨v, w, rfl, r, r'⟩ := rs.two
    obtain ⟨l, a, us, rfl, hl, ru, sq⟩ := items_sq r hx
    obtain ⟨l', b, us', rfl, hl', ru', sq'⟩ := items_sq r' hy
    exact ⟨l, l', a, b, us, us', rfl, sq _ _ F1.zh, sq' _ _ F1.zh, kk _ ρ1 Z1 H1 _ c1 z1 l1 q F1 (it_zip hl ru ru' (sq X.K) (sq' X.K))⟩
end
/-! ### instances -/
@[simp] def lookF (f : Str) : List Str → List D → Option D
  | n :: ns, d :: ds => if f = n then some d else lookF f ns ds
  | _, _ => none
theorem lookF_ok {S : Option Stm} {Z : Hp} {f : Str} : ∀ {fs : List (Str × V)} {ds : List D} {d : D}, Reps S Z ds (fs.map (·.2)) → lookF f (fs.map (·.1)) ds = some d → ∃ v, fs.lookup f = some v ∧ Rep S Z d v
  | [], ds, d, r, h => by simp [lookF] at h
  | (n, v) :: fs, [], d, r, h => by simp [lookF] at h
  | (n, v) :: fs, e :: ds, d, r, h => by
    rw [List.map_cons, Reps] at r
    simp only [List.map_cons, lookF] at h
    by_cases hf : f = n
    · subst hf
      rw [if_pos rfl] at h
      cases h
      exact ⟨v, by simp [List.lookup], r.1⟩
    · rw [if_neg hf] at h
      obtain ⟨w, e1, r1⟩ := lookF_ok r.2 h
      exact ⟨w, by rw [List.lookup_cons, beq_eq_false_iff_ne.mpr hf]; exact e1, r1⟩
@[simp] def putD (f : Str) (d : D) : List Str → List D → List Str × List D
  | n :: ns, e :: ds => if n = f then (n :: ns, d :: ds) else (n :: (putD f d ns ds).1, e :: (putD f d ns ds).2)
  | _, _ => ([f], [d])
section
variable {X : Cx} {n m k : Nat} {e o : Expr} {es : List Expr} {ts : DTA} {ta te : DTE} {pos p apos : Pos} {f : Str} {C : Addr}
/-- o.f of an instance of the class at C -/
@[simp] def dFld (C : Addr) (f : Str) (ta : DTE) : DTE := fun ρ Q W => ta ρ (fun r ρ1 => ∃ ns vs d, r.d = .ins C ns vs ∧ lookF f ns vs = some d ∧ Q (.sh d) ρ1) W
theorem de_fld (hC : Cls X.K C) (hn : NoAttr X.K C f) (he : DE X n e ta) (hb : attributeBase e f X.env (eval e X.env) = eval e X.env := by rfl) : DE X n (.Attribute e f pos) (dFld C f ta) := fun G W tk =>
  PE.weak (pe_fld (he G W tk) hb) fun σ H Q ⟨Z, ρ, c, Qd, F, hc, t, kk⟩ => by
    refine ⟨Z, ρ, c, _, F, hc, t, fun r ρ1 Z1 H1 v c1 z1 l1 q F1 o1 => ?_⟩
    obtain ⟨Z2, z2, F2, rp⟩ := F1.share o1
    obtain ⟨ns, vs, d, e1, e2, q⟩ := q
    rw [e1, Rep] at rp
    obtain ⟨a, dx, fs, rfl, hz, hz2, rfl, rs⟩ := rp
    obtain ⟨w, hw, rw'⟩ := lookF_ok rs e2
    exact ⟨a, C, dx, fs, w, rfl, F2.zh _ _ hz, hC, hn, hw, kk _ ρ1 Z2 H1 w c1 (z1.trans z2) l1 q F2 rw'⟩
/-- self.f in an __init__ -/
@[simp] def dFldO (i : Nat) (C : Addr) (f : Str) : DTE := fun ρ Q _ => ∃ x ns vs d, ρ[i]? = some (.ob x C ns vs) ∧ lookF f ns vs = some d ∧ Q (.sh d) ρ
theorem de_fldO {i : Nat} (hC : Cls X.K C) (hn : NoAttr X.K C f) (he : PE X e (tVar i)) (hb : attributeBase e f X.env (eval e X.env) = eval e X.env := by rfl) : DE X 0 (.Attribute e f pos) (dFldO i C f) := fun G W tk =>
  PE.weak (pe_fld he hb) fun σ H Q ⟨Z, ρ, c, Qd, F, hc, t, kk⟩ => by
    obtain ⟨x, ns, vs, d, e1, e2, q⟩ := t
    obtain ⟨a, ea, dx, fs, h1, h2, h3, h4, h5, h6, ⟨_, rfl⟩, h8⟩ := F.sl i _ e1
    obtain ⟨w, hw, rw'⟩ := lookF_ok h8 e2
    exact ⟨_, ea, a, C, dx, fs, w, rfl, h1, hC, hn, hw, kk _ ρ Z H w c (fun _ _ e => e) (Nat.le_refl _) q F rw'⟩
theorem putD_ok {S : Option Stm} {Z : Hp} {d : D} {v : V} (r : Rep S Z d v) : ∀ {fs : List (Str × V)} {ds : List D}, Reps S Z ds (fs.map (·.2)) → (putD f d (fs.map (·.1)) ds).1 = (putF f v fs).map (·.1) ∧ Reps S Z (putD f d (fs.map (·.1)) ds).2 ((putF f v fs).map (·.2))
  | [], ds, h => by
    rw [List.map_nil] at h
    have := h.length
    cases ds with
    | nil => exact ⟨by simp [putD, putF], by simp only [putD, putF, List.map_cons, List.map_nil]; exact Reps.cons r Reps.nil⟩
    | cons _ _ => simp at this
  | (n, u) :: fs, [], h => by simp [Reps] at h
  | (n, u) :: fs, e :: ds, h => by
    rw [List.map_cons, Reps] at h
    obtain ⟨i1, i2⟩ := putD_ok r h.2
    simp only [List.map_cons, putD, putF]
    by_cases hn : n = f
    · rw [if_pos hn, if_pos hn]
      exact ⟨by simp, Reps.cons r h.2⟩
    · rw [if_neg hn, if_neg hn]
      exact ⟨by simp [i1], Reps.cons h.1 i2⟩
theorem Fr.writeI {G : Gh} {Z H : Hp} {ρ : Rho} {σ : L2.St} {c i : Nat} {x C dx : Addr} {ns ns' : List Str} {ds es : List D} {fs fs' : List (Str × V)} (F : Fr G Z H ρ σ c) (e : ρ[i]? = some (.ob x C ns ds)) (ea : σ[i]? = some (some (.ref x))) (hx : H x = some (.ins C dx fs))
    (hns : ns' = fs'.map (·.1)) (r : Reps G.S Z es (fs'.map (·.2))) : Fr G Z (upd H x (.ins C dx fs')) (ρ.set i (.ob x C ns' es)) σ c := by
  obtain ⟨b, e1, dy, gs, h1, h2, h3, h4, h5, h6, ⟨hb, _⟩, h8⟩ := F.sl i _ e
  have hb' := hb.symm
  subst hb'
  rw [hx] at h1; cases h1
  have nz : ∀ b o, Z b = some o → b ≠ x := fun b o q z => by rw [z, h3] at q; cases q
  have nd : dx ≠ x := fun z => by rw [z, hx] at h2; cases h2
  have oth : ∀ (j : Nat) (t : Slot), i ≠ j → ρ[j]? = some t → t.owns = true → ∀ y, σ[j]? = some (some (.ref y)) → y ≠ x := fun j t ne f w y q z => by
    subst z
    exact F.ap i j _ _ ne e f rfl w (by rw [ea, q])
  refine ⟨fun b o q => by rw [upd_ne (nz b o q)]; exact F.zh b o q, F.gs, F.st.keep (fun s q => ?_) F.st.noZ (.upd hx fun vs z => by cases z), by simp [F.len], fun j t f => ?_, fun j k t u ne f1 f2 w1 w2 => ?_, fun b o q n => ?_, F.fr, F.z0, tabs_upd F.tb hx (fun ps z => by cases z) (fun _ _ => code_ins)⟩
  · have n := F.notSt h5 s q
    exact ⟨upd_ne (Ne.symm n.1), upd_ne (Ne.symm n.2)⟩
  · rcases set_get f with ⟨rfl, rfl⟩ | ⟨ne, f⟩
    · exact ⟨x, ea, dx, fs', upd_same, by rw [upd_ne nd]; exact h2, h3, h4, h5, h6, ⟨rfl, hns⟩, r⟩
    · have q := F.sl j t f
      cases t with
      | no => trivial
      | sh d => exact q
      | ow ds' =>
        obtain ⟨y, q1, vs', q2, q3⟩ := q
        exact ⟨y, q1, vs', by rw [upd_ne (oth j _ ne f rfl y q1)]; exact q2, q3⟩
      | ob y C' ns'' ds' =>
        obtain ⟨y', q1, dx', fs'', q2, q3, q4⟩ := q
        refine ⟨y', q1, dx', fs'', by rw [upd_ne (oth j _ ne f rfl y' q1)]; exact q2, ?_, q4⟩
        rw [upd_ne]
        · exact q3
        · intro z; rw [z, hx] at q3; cases q3
  · rcases set_get f1 with ⟨rfl, rfl⟩ | ⟨n1, g1⟩
    · rcases set_get f2 with ⟨q, _⟩ | ⟨n2, g2⟩
      · exact absurd q ne
      · exact F.ap i k _ _ ne e g2 rfl w2
    · rcases set_get f2 with ⟨rfl, rfl⟩ | ⟨n2, g2⟩
      · exact F.ap j i _ _ ne g1 e w1 rfl
      · exact F.ap j k t u ne g1 g2 w1 w2
  · have nb : b ≠ x := by
      rintro rfl
      rw [h5] at q; cases q
    rw [upd_ne nb]
    exact F.sm b o q n
/-- self.f = e in an __init__ -/
@[simp] def dSetF (i : Nat) (C : Addr) (f : Str) (te : DTE) : DTS := fun D W ρ => te ρ (fun r ρ1 => ∃ x ns vs, ρ1[i]? = some (.ob x C ns vs) ∧ vs.length < 1000 ∧ D.nx (ρ1.set i (.ob x C (putD f r.d ns vs).1 (putD f r.d ns vs).2))) W
theorem ds_setF {i : Nat} {pos' : Pos} (hC : Cls X.K C) (hn : NoAttr X.K C f) (ho : PE X o (tVar i)) (he : DE X n e te) (hs : swapsWith e (some (.Attribute o f pos')) pos.line X.env = pure false := by rfl) : DS X n (.Assign [.Attribute o f pos'] e pos) (dSetF i C f te) := fun G W tk =>
  PS.weak (ps_fld ho (he G W tk) hs) fun D σ H ⟨Z, ρ, c, Dd, F, hc, t, kk⟩ => by
    refine ⟨Z, ρ, c, _, F, hc, t, fun r ρ1 Z1 H1 v c1 z1 l1 q F1 o1 => ?_⟩
    obtain ⟨Z2, z2, F2, rp⟩ := F1.share o1
    obtain ⟨x, ns, vs, e1, hl, q⟩ := q
    obtain ⟨a, ea, dx, fs, h1, h2, h3, h4, h5, h6, ⟨rfl, rfl⟩, h8⟩ := F2.sl i _ e1
    obtain ⟨p1, p2⟩ := putD_ok (f := f) rp h8
    refine ⟨_, ea, a, C, dx, fs, rfl, h1, hC, hn, ?_, kk.nx _ _ Z2 _ c1 (z1.trans z2) l1 q (F2.writeI e1 ea h1 p1 p2)⟩
    have := h8.length
    rw [List.length_map] at this
    omega
/-! ### C(..), o.m(..) with what is raised wished for at the slots -/
variable {CX : CXT} {fI : Addr} {fd : FuncData} {ps : List Str} {sp : Sp} {dvs : List V} {ds : List Value} {E : L2.St → XK} {x mn : Str} {t : TA} {tO : TE}
def tMakeS (C : Addr) (sp : Sp) (dvs : List V) (E : L2.St → XK) (t : TA) : TE := fun σ H Q => t σ H fun vs H1 => ∀ x dx, H1 x = none → H1 dx = none → dx ≠ x →
  sp (.ref x :: (vs ++ dvs)) (upd (upd H1 dx (.own x)) x (.ins C dx [])) (fun v H2 => v = .non ∧ Q (.ref x) H2) (E σ)
/-- what a call left is brought home to the caller -/
theorem land {pins : List (Addr × Obj)} {σ : L2.St} {H : Hp} {s s' : Shared} {Q : VK} {Ex : XK} {r : Result} (inv : L2.Inv X pins σ H s) (hx : PassesAt CX X σ Ex) (h : CR CX X.stack X.prog X.w H s Q Ex r s') :
    (∃ u, r = .ok (.ret u) ∧ EP X pins σ Q u s') ∨ ∃ er, r = .error er ∧ X.xe er s' := by
  match r, h with
  | .error er, h => exact .inr ⟨er, rfl, hx pins H s er s' inv h⟩
  | .ok (.ret u), h => exact .inl ⟨u, rfl, inv.after h⟩
  | .ok .next, h => exact h.elim
  | .ok .brk, h => exact h.elim
  | .ok .cont, h => exact h.elim
theorem pe_makeS (M : Mk X.K C fI) (F : FnOk X.prog X.w X.K X.mg X.base CX k fI fd ps sp) (hr : Room (k + 1) X.A) (hg : Gl X x) (hm : X.mg x = some (.ref C)) (hb : L2.Binds X.K fd ps ds) (hd : Vals dvs ds) (hx : ∀ σ, PassesAt CX X σ (E σ))
    (ha : PA X (e :: es) t) (hdb : (x == ("__debug__" : Str)) = false := by decide) (he : starEach (e :: es) X.env = (false, eval e X.env) :: starEach es X.env := by rfl) (hpl : (backTo pos (starEach es X.env)).any (·.1) = false := by rfl) :
    PE X (.Call (.Name x p) (e :: es) [] pos) (tMakeS C sp dvs E t) := ⟨by
  intro pins s σ H Q inv h
  have args := ha.run pos pins s σ H _ inv h
  refine wpAny_Call_Name_kw (ld_glob inv hg hm (PySem.W.callWith_K (h₀ := X.base) inv.ok.mod.kin M.kp (thn args ?_) he hpl) hdb)
  rintro us s1 ⟨vs, H1, inv1, rv, wish⟩
  refine ⟨inv1.kIn, ?_⟩
  let n := s1.heap.objs.size
  have goal := wish (n + 1) n (inv1.hok.fresh (Nat.le_succ n)) (inv1.hok.fresh (Nat.le_refl n)) (Nat.ne_of_lt (Nat.lt_succ_self n))
  have made := Inv.made (C := C) inv1
  have rel : Vals (V.ref (n + 1) :: (vs ++ dvs)) (Value.ref (n + 1) :: (us ++ ds)) := .cons rfl (rv.append hd)
  have cnt : (Value.ref (n + 1) :: (us ++ ds)).length = ps.length := rel.length.symm.trans (F.len _ _ _ _ goal)
  have run := F.run _ X.stack _ _ ⟨Value.ref (n + 1) :: us, []⟩ _ _ _ (E σ) (hr.make C us []) (made.env0.make C us []) (hb _ (Value.ref (n + 1) :: us) made.kIn cnt) rel goal
  refine wpAny_call (make_map (f := fI) inv1.kIn M.makes M.init (beq_iff_eq.mp M.fn) (codeAny_mono run ?_))
  intro r s' left
  rcases land made (hx σ) left with ⟨u, rfl, v, H', inv2, ru, rfl, q⟩ | ⟨er, rfl, z⟩
  · exact ⟨ru, .ref (n + 1), H', inv2, rfl, q⟩
  · exact z⟩
def tMethS (C : Addr) (m : Str) (sp : Sp) (dvs : List V) (E : L2.St → XK) (ta : TE) (t : TA) : TE := fun σ H Q => ta σ H fun x H1 => ∃ a dx fs, x = .ref a ∧ H1 a = some (.ins C dx fs) ∧ fs.lookup m = none ∧
  t σ H1 fun vs H2 => sp (x :: (vs ++ dvs)) H2 Q (E σ)
/-- the method is found at the object, then called with what comes behind it -/
theorem meth_run {pins : List (Addr × Obj)} {σ : L2.St} {H : Hp} {s : Shared} {Q : VK} {us : List Value} {vs : List V} {a : Addr} (F : FnOk X.prog X.w X.K X.mg X.base CX k fI fd ps sp) (hr : Room k X.A) (hb : L2.Binds X.K fd ps ds) (hd : Vals dvs ds) (hx : PassesAt CX X σ (E σ))
    (inv : L2.Inv X pins σ H s) (rv : Vals vs us) (h : sp (.ref a :: (vs ++ dvs)) H Q (E σ)) : wpAny (model X.prog X.w) X.A (call (.ref fI) (.ref a :: us)) (EP X pins σ Q) X.xe s :=
  run_fnSD (E := E) (us := .ref a :: us) (vs := .ref a :: vs) F hr hb hd hx inv (.cons rfl rv) h
section
variable {pl : Sem Bool} (he : PE X o tO) (c : Cls X.K C) (hm : Meth X.K C mn fI) (F : FnOk X.prog X.w X.K X.mg X.base CX k fI fd ps sp) (hr : Room k X.A) (hb : L2.Binds X.K fd ps ds) (hd : Vals dvs ds) (hx : ∀ σ, PassesAt CX X σ (E σ))
include he c hm F hr hb hd hx
theorem pe_methS (ha : PA X (e :: es) t) (hst : starEach (e :: es) X.env = (false, eval e X.env) :: starEach es X.env) (hpl : (backTo pos (starEach es X.env)).any (·.1) = false)
    (ht : eval (.Call (.Attribute o mn apos) (e :: es) [] pos) X.env = (eval o X.env >>= fun ov => standAt apos.atName >>= fun _ => holding [ov] (getMethod ov mn pl) >>= fun q => callWith pos q.1 q.2 (backTo pos (starEach (e :: es) X.env)) (backToKw pos (keywordEach [] X.env)))) :
    PE X (.Call (.Attribute o mn apos) (e :: es) [] pos) (tMethS C mn sp dvs E tO t) := ⟨by
  intro pins s σ H Q inv h
  refine PySem.W.methodCall_KW (pl := pl) (thn (he.run pins s σ H _ inv h) ?_) ht
  rintro u s1 ⟨_, H1, inv1, ru, a, dx, fs, rfl, ea, l, wish⟩
  cases ru
  refine getmeth_ok inv1 ea c hm l (PySem.W.callWith_K (first := [.ref a]) (h₀ := X.base) inv.ok.mod.kin hm.kp (thn (ha.run pos pins s1 σ H1 _ inv1 wish) ?_) hst hpl)
  rintro us s2 ⟨vs, H2, inv2, rv, q⟩
  exact ⟨inv2.kIn, meth_run F hr hb hd (hx σ) inv2 rv q⟩⟩
theorem pe_methS0 (ht : eval (.Call (.Attribute o mn apos) [] [] pos) X.env = (eval o X.env >>= fun ov => standAt apos.atName >>= fun _ => holding [ov] (getMethod ov mn pl) >>= fun q => callWith pos q.1 q.2 (backTo pos (starEach [] X.env)) (backToKw pos (keywordEach [] X.env)))) :
    PE X (.Call (.Attribute o mn apos) [] [] pos) (tMethS C mn sp dvs E tO tNil) := ⟨by
  intro pins s σ H Q inv h
  refine PySem.W.methodCall_KW (pl := pl) (thn (he.run pins s σ H _ inv h) ?_) ht
  rintro u s1 ⟨_, H1, inv1, ru, a, dx, fs, rfl, ea, l, wish⟩
  cases ru
  exact getmeth_ok inv1 ea c hm l (PySem.W.callWith_K0 (first := [.ref a]) inv1.kIn hm.kp (meth_run F hr hb hd (hx σ) inv1 .nil wish))⟩
end
end
end DL
set_option Elab.async false
set_option linter.all false
set_option maxRecDepth 100000
set_option maxHeartbeats 4000000
namespace DL
open PySem L2 PyProof.Rows
/-! ### __init__ -/
abbrev DSpI := List D → (List Str → List D → Prop) → (XD → Prop) → Prop
@[simp] def startI (C x : Addr) (N : List Str) (ds : List D) : Rho := Slot.ob x C [] [] :: (ds.map Slot.sh ++ List.replicate (N.length - (ds.length + 1)) Slot.no)
theorem start_frI {S : Option Stm} {Z H1 : Hp} {C x dx : Addr} {c cm : Nat} {cml : cm ≤ LIM} {N : List Str} {ds : List D} {us : List V} {T : List (Addr × Str)} (hzt : ∀ b ps, Z b ≠ some (.tbl ps)) (h1 : H1 x = none) (h2 : H1 dx = none) (ne : dx ≠ x) (hz : Sub Z H1) (hst : StOk S Z H1 c) (rs : Reps S Z ds us) (ht : LamX.Tabs T H1) :
    Fr ⟨S, vis H1, Z, cm, cml, vis_nt, T, hzt⟩ Z (upd (upd H1 dx (.own x)) x (.ins C dx [])) (startI C x N ds) (L2.start N (.ref x :: us)) c := by
  have hdx : upd H1 dx (.own x) x = none := by rw [upd_ne (Ne.symm ne)]; exact h1
  have s0 : Sub H1 (upd (upd H1 dx (.own x)) x (.ins C dx [])) := (sub_upd h2).trans (sub_upd hdx)
  have zx : Z x = none := freeZ hz h1
  have zdx : Z dx = none := freeZ hz h2
  refine ⟨hz.trans s0, fun s e => ?_, hst.keep (fun s e => ?_) hst.noZ (.sub s0), ?_, fun i s e => ?_, fun i j s t nij e1 e2 w1 w2 => ?_, .ofv s0, fun b o e => .inl e, fun _ _ e => e, ht.ext s0⟩
  · obtain ⟨⟨_, g1, _, t1⟩, _, g2, _, t2⟩ := hst.at_ e
    exact ⟨by show vis H1 s.st ≠ none; rw [vis_of g1 t1]; simp, by show vis H1 s.cl ≠ none; rw [vis_of g2 t2]; simp⟩
  · obtain ⟨⟨_, g1, _, t1⟩, _, g2, _, t2⟩ := hst.at_ e
    exact ⟨(s0 _ _ g1).trans g1.symm, (s0 _ _ g2).trans g2.symm⟩
  · simp [startI, L2.start, rs.length]
  · unfold startI at e
    cases i with
    | zero =>
      rw [List.getElem?_cons_zero] at e
      cases e
      exact ⟨x, by simp [L2.start], dx, [], upd_same, by rw [upd_ne ne, upd_same], zx, zdx, vis_none h1, vis_none h2, ⟨rfl, rfl⟩, Reps.nil⟩
    | succ i =>
      rw [List.getElem?_cons_succ] at e
      by_cases hi : i < ds.length
      · rw [List.getElem?_append_left (by simpa using hi), List.getElem?_map] at e
        cases q : ds[i]? with
        | none => rw [q] at e; cases e
        | some d =>
          rw [q] at e
          cases e
          obtain ⟨v, hv, r⟩ := rs.get q
          refine ⟨v, ?_, r⟩
          unfold L2.start
          rw [List.map_cons, List.cons_append, List.getElem?_cons_succ, List.getElem?_append_left (by simpa [← rs.length] using hi), List.getElem?_map, hv]
          rfl
      · rw [List.getElem?_append_right (by simpa using hi)] at e
        have := List.eq_of_mem_replicate (List.mem_of_getElem? e)
        subst this
        trivial
  · exfalso
    have one : ∀ (i : Nat) (s : Slot), (startI C x N ds)[i]? = some s → s.owns = true → i = 0 := fun i s e w => by
      cases i with
      | zero => rfl
      | succ i =>
        unfold startI at e
        rw [List.getElem?_cons_succ] at e
        rcases List.mem_append.mp (List.mem_of_getElem? e) with h | h
        · obtain ⟨d, _, rfl⟩ := List.mem_map.mp h
          cases w
        · rw [List.eq_of_mem_replicate h] at w
          cases w
    rw [one i s e1 w1, one j t e2 w2] at nij
    exact nij rfl
section
variable {X : Cx} {n m k : Nat} {e o : Expr} {es : List Expr} {ts : DTA} {ta : DTE} {pos p apos : Pos} {F : DSp} {FI : DSpI} {f C : Addr} {fd : FuncData} {ps : List Str} {x mn : Str} {dvs : List V} {ds : List Value} {dd : List D}
/-- C(e, ..) -/
@[simp] def dMake (C : Addr) (FI : DSpI) (dd : List D) (ts : DTA) : DTE := fun ρ Q W => ts ρ (fun ds ρ1 => FI (ds ++ dd) (fun ns es => Q (.sh (.ins C ns es)) ρ1) (fun x => W x ρ1)) W
/-- o.m(e, ..) -/
@[simp] def dMeth (C : Addr) (mn : Str) (F : DSp) (dd : List D) (ta : DTE) (ts : DTA) : DTE := fun ρ Q W => ta ρ (fun r ρ1 => ∃ ns vs, r.d = .ins C ns vs ∧ mn ∉ ns ∧ ts ρ1 (fun ds ρ2 => F (r.d :: (ds ++ dd)) (fun z => Q z ρ2) (fun x => W x ρ2)) W) W
theorem lookup_none {fs : List (Str × V)} {f : Str} (h : f ∉ fs.map (·.1)) : fs.lookup f = none := by
  induction fs with
  | nil => rfl
  | cons q fs ih =>
    rw [List.map_cons, List.mem_cons, not_or] at h
    rw [List.lookup_cons, beq_eq_false_iff_ne.mpr h.1]
    exact ih h.2
theorem de_meth {pl : Sem Bool} (c : Cls X.K C) (hmt : Meth X.K C mn f) (Fn : FnOk X.prog X.w X.K X.mg X.base (L2.CX X.prog X.w) k f fd ps (spD X.K m F)) (hr : Room k X.A) (hb : L2.Binds X.K fd ps ds) (hd : Vals dvs ds) (hdd : ∀ S Z, Reps S Z dd dvs)
    {n2 : Nat} (ho : DE X n o ta) (ha : DA X n2 (e :: es) ts) (hst : starEach (e :: es) X.env = (false, eval e X.env) :: starEach es X.env := by rfl) (hpl : (backTo pos (starEach es X.env)).any (·.1) = false := by rfl)
    (ht : eval (.Call (.Attribute o mn apos) (e :: es) [] pos) X.env = (eval o X.env >>= fun ov => standAt apos.atName >>= fun _ => holding [ov] (getMethod ov mn pl) >>= fun q => callWith pos q.1 q.2 (backTo pos (starEach (e :: es) X.env)) (backToKw pos (keywordEach [] X.env))) := by rfl) :
    DE X (n + n2 + m) (.Call (.Attribute o mn apos) (e :: es) [] pos) (dMeth C mn F dd ta ts) := fun G W tk =>
  PE.weak (pe_methS (pl := pl) (ho G W tk) c hmt Fn hr hb hd (fun σ => passAt tk.tk σ) (ha G W tk) hst hpl ht) fun σ H Q ⟨Z, ρ, c, Qd, F0, hc, t, kk⟩ => by
    refine ⟨Z, ρ, c, _, F0, by omega, t, fun r ρ1 Z1 H1 v c1 z1 l1 q F1 o1 => ?_⟩
    obtain ⟨Z2, z2, F2, rp⟩ := F1.share o1
    obtain ⟨ns, vs, e1, hn, q⟩ := q
    have rp0 := rp
    rw [e1, Rep] at rp
    obtain ⟨a, dx, fs, rfl, hz, hz2, rfl, rs⟩ := rp
    refine ⟨a, dx, fs, rfl, F2.zh _ _ hz, lookup_none hn, Z2, ρ1, c1, _, F2, by omega, q, fun xs ρ3 Z3 H3 us c3 z3 l3 q3 F3 rs3 => ?_⟩
    exact call_spD tk.ok F3 (by omega) (Reps.cons (rp0.mono z3) (rs3.append (hdd _ _))) q3 fun r Z' H' v c' z4 l4 q4 F4 o4 => kk r ρ3 Z' H' v c' (z1.trans (z2.trans (z3.trans z4))) (by omega) q4 F4 o4
theorem de_meth0 {pl : Sem Bool} (c : Cls X.K C) (hmt : Meth X.K C mn f) (Fn : FnOk X.prog X.w X.K X.mg X.base (L2.CX X.prog X.w) k f fd ps (spD X.K m F)) (hr : Room k X.A) (hb : L2.Binds X.K fd ps ds) (hd : Vals dvs ds) (hdd : ∀ S Z, Reps S Z dd dvs)
    (ho : DE X n o ta)
    (ht : eval (.Call (.Attribute o mn apos) [] [] pos) X.env = (eval o X.env >>= fun ov => standAt apos.atName >>= fun _ => holding [ov] (getMethod ov mn pl) >>= fun q => callWith pos q.1 q.2 (backTo pos (starEach [] X.env)) (backToKw pos (keywordEach [] X.env))) := by rfl) :
    DE X (n + m) (.Call (.Attribute o mn apos) [] [] pos) (dMeth C mn F dd ta dNil) := fun G W tk =>
  PE.weak (pe_methS0 (pl := pl) (ho G W tk) c hmt Fn hr hb hd (fun σ => passAt tk.tk σ) ht) fun σ H Q ⟨Z, ρ, c, Qd, F0, hc, t, kk⟩ => by
    refine ⟨Z, ρ, c, _, F0, by omega, t, fun r ρ1 Z1 H1 v c1 z1 l1 q F1 o1 => ?_⟩
    obtain ⟨Z2, z2, F2, rp⟩ := F1.share o1
    obtain ⟨ns, vs, e1, hn, q⟩ := q
    have rp0 := rp
    rw [e1, Rep] at rp
    obtain ⟨a, dx, fs, rfl, hz, hz2, rfl, rs⟩ := rp
    refine ⟨a, dx, fs, rfl, F2.zh _ _ hz, lookup_none hn, ?_⟩
    exact call_spD tk.ok F2 (by omega) (Reps.cons rp0 (hdd _ _)) q fun r Z' H' v c' z4 l4 q4 F4 o4 => kk r ρ1 Z' H' v c' (z1.trans (z2.trans z4)) (by omega) q4 F4 o4
end
end DL
set_option Elab.async false
set_option linter.all false
set_option maxRecDepth 100000
set_option maxHeartbeats 4000000
namespace DL
open PySem L2 PyProof.Rows
/-! ### a list of one's own is lent -/
mutual
def D.imm : D → Bool
  | .tup ds => D.imms ds
  | .non | .bl _ | .int _ | .str _ | .ty _ | .stm | .fn _ _ | .mem _ => true
  | _ => false
def D.imms : List D → Bool
  | [] => true
  | d :: ds => D.imm d && D.imms ds
end
/-- what of Z2 beyond Z is a tuple -/
noncomputable def tupPart (Z Z2 : Hp) : Hp := fun b => match Z b with
  | some o => some o
  | none => match Z2 b with
    | some (.tup vs) => some (.tup vs)
    | _ => none
theorem tupPart_sub {Z Z2 : Hp} : Sub Z (tupPart Z Z2) := fun b o e => by unfold tupPart; rw [e]
theorem tupPart_tup {Z Z2 : Hp} (h : Sub Z Z2) {b : Addr} {vs : List V} (e : Z2 b = some (.tup vs)) : tupPart Z Z2 b = some (.tup vs) := by
  unfold tupPart
  cases q : Z b with
  | none => simp only [e]
  | some o => rw [h b o q] at e; exact e
theorem tupPart_of {Z Z2 : Hp} (h : Sub Z Z2) {b : Addr} {o : HO} (e : tupPart Z Z2 b = some o) : Z2 b = some o ∧ (Z b = some o ∨ ∃ vs, o = .tup vs) := by
  unfold tupPart at e
  cases q : Z b with
  | some u =>
    rw [q] at e
    have e' : u = o := Option.some.inj e
    subst e'
    exact ⟨h b u q, .inl rfl⟩
  | none =>
    rw [q] at e
    simp only at e
    split at e
    · rename_i vs e2
      cases e
      exact ⟨e2, .inr ⟨vs, rfl⟩⟩
    · cases e
mutual
theorem Rep.imm {S : Option Stm} {Z Z2 : Hp} (h : Sub Z Z2) : ∀ {d : D} {v : V}, D.imm d = true → Rep S Z2 d v → Rep S (tupPart Z Z2) d v
  | .non, _, _, r => by simpa [Rep] using r
  | .bl _, _, _, r => by simpa [Rep] using r
  | .int _, _, _, r => by simpa [Rep] using r
  | .str _, _, _, r => by simpa [Rep] using r
  | .ty _, _, _, r => by simpa [Rep] using r
  | .stm, _, _, r => by simpa [Rep] using r
  | .fn _ _, _, _, r => by simpa [Rep] using r
  | .mem _, _, _, r => by simpa [Rep] using r
  | .tup ds, _, hi, r => by
    rw [D.imm] at hi
    rw [Rep] at r ⊢
    obtain ⟨a, vs, e, z, l, q⟩ := r
    exact ⟨a, vs, e, tupPart_tup h z, l, Reps.imm h hi q⟩
  | .lst _, _, hi, _ => by simp [D.imm] at hi
  | .dct _ _ _, _, hi, _ => by simp [D.imm] at hi
  | .ins _ _ _, _, hi, _ => by simp [D.imm] at hi
theorem Reps.imm {S : Option Stm} {Z Z2 : Hp} (h : Sub Z Z2) : ∀ {ds : List D} {vs : List V}, D.imms ds = true → Reps S Z2 ds vs → Reps S (tupPart Z Z2) ds vs
  | [], [], _, _ => by simp [Reps]
  | [], _ :: _, _, r => by simp [Reps] at r
  | _ :: _, [], _, r => by simp [Reps] at r
  | d :: ds, v :: vs, hi, r => by
    rw [D.imms, Bool.and_eq_true] at hi
    rw [Reps] at r ⊢
    exact ⟨Rep.imm h hi.1 r.1, Reps.imm h hi.2 r.2⟩
end
def D.imm1 : D → Bool
  | .lst ds => D.imms ds
  | .dct _ _ ds => D.imms ds
  | _ => false
theorem Img.imm {S : Option Stm} {Z Z2 : Hp} (h : Sub Z Z2) {d : D} {o : HO} (hi : d.imm1 = true) (m : Img S Z2 d o) : Img S (tupPart Z Z2) d o := by
  cases d with
  | lst ds =>
    obtain ⟨vs, e, l, r⟩ := m
    exact ⟨vs, e, l, r.imm h hi⟩
  | dct t ks ds =>
    obtain ⟨l1, l2, m⟩ := m
    rcases m with ⟨kvs, e0, e1, e2, e3, r⟩ | ⟨kvs, e0, e1, e2, e3, r⟩
    · exact ⟨l1, l2, .inl ⟨kvs, e0, e1, e2, e3, r.imm h hi⟩⟩
    · exact ⟨l1, l2, .inr ⟨kvs, e0, e1, e2, e3, r.imm h hi⟩⟩
  | _ => exact m.elim
def Vd.imm : Vd → Bool
  | .sh d => d.imm
  | .nw d => d.imm1
def lend (is : List Nat) (i : Nat) : Slot → Slot
  | .sh d => .sh d
  | .ow d => if i ∈ is then .sh d else .no
  | _ => .no
def lendR (is : List Nat) : Nat → Rho → Rho
  | _, [] => []
  | i, s :: ρ => lend is i s :: lendR is (i + 1) ρ
theorem lendR_len (is : List Nat) : ∀ (i : Nat) (ρ : Rho), (lendR is i ρ).length = ρ.length
  | _, [] => rfl
  | i, _ :: ρ => by simp [lendR, lendR_len is (i + 1) ρ]
theorem lendR_get (is : List Nat) : ∀ (k : Nat) (ρ : Rho) (i : Nat), (lendR is k ρ)[i]? = (ρ[i]?).map (lend is (k + i))
  | _, [], _ => by simp [lendR]
  | k, s :: ρ, 0 => by simp [lendR]
  | k, s :: ρ, i + 1 => by
    rw [lendR, List.getElem?_cons_succ, lendR_get is (k + 1) ρ i, List.getElem?_cons_succ]
    have : k + 1 + i = k + (i + 1) := by omega
    rw [this]
/-- the lists that are lent, frozen -/
noncomputable def lendZ (is : List Nat) (ρ : Rho) (σ : L2.St) (Z H : Hp) : Hp := by
  classical
  exact fun b => if ∃ i ∈ is, ∃ ds, ρ[i]? = some (Slot.ow ds) ∧ σ[i]? = some (some (.ref b)) then H b else Z b
theorem lendZ_in {is : List Nat} {ρ : Rho} {σ : L2.St} {Z H : Hp} {b : Addr} (h : ∃ i ∈ is, ∃ ds, ρ[i]? = some (Slot.ow ds) ∧ σ[i]? = some (some (.ref b))) : lendZ is ρ σ Z H b = H b := by
  unfold lendZ; rw [if_pos h]
theorem lendZ_out {is : List Nat} {ρ : Rho} {σ : L2.St} {Z H : Hp} {b : Addr} (h : ¬ ∃ i ∈ is, ∃ ds, ρ[i]? = some (Slot.ow ds) ∧ σ[i]? = some (some (.ref b))) : lendZ is ρ σ Z H b = Z b := by
  unfold lendZ; rw [if_neg h]
section
variable {G : Gh} {Z H : Hp} {ρ : Rho} {σ : L2.St} {c : Nat} {is : List Nat}
theorem lend_none (F : Fr G Z H ρ σ c) {b : Addr} (h : ∃ i ∈ is, ∃ ds, ρ[i]? = some (Slot.ow ds) ∧ σ[i]? = some (some (.ref b))) : Z b = none ∧ ∃ o, H b = some o ∧ (∀ ps, o ≠ .tbl ps) ∧ ∀ vs, o ≠ .tup vs := by
  obtain ⟨i, _, ds, e1, e2⟩ := h
  obtain ⟨a, ea, o, h1, h2, _, m⟩ := F.sl i _ e1
  rw [e2] at ea; cases ea
  exact ⟨h2, o, h1, m.ntbl, m.ntup⟩
theorem lendZ_sub (F : Fr G Z H ρ σ c) : Sub Z (lendZ is ρ σ Z H) := fun b o e => by
  by_cases h : ∃ i ∈ is, ∃ ds, ρ[i]? = some (Slot.ow ds) ∧ σ[i]? = some (some (.ref b))
  · rw [(lend_none F h).1] at e; cases e
  · rw [lendZ_out h]; exact e
theorem lendZ_H (F : Fr G Z H ρ σ c) : Sub (lendZ is ρ σ Z H) H := fun b o e => by
  by_cases h : ∃ i ∈ is, ∃ ds, ρ[i]? = some (Slot.ow ds) ∧ σ[i]? = some (some (.ref b))
  · rw [lendZ_in h] at e; exact e
  · rw [lendZ_out h] at e; exact F.zh b o e
theorem lendZ_zn (F : Fr G Z H ρ σ c) : ∀ b ps, lendZ is ρ σ Z H b ≠ some (.tbl ps) := fun b ps e => by
  by_cases h : ∃ i ∈ is, ∃ ds, ρ[i]? = some (Slot.ow ds) ∧ σ[i]? = some (some (.ref b))
  · obtain ⟨_, o, hv, hn, _⟩ := lend_none F h
    rw [lendZ_in h, hv] at e; exact hn ps (Option.some.inj e)
  · rw [lendZ_out h] at e; exact F.zn b ps e
/-- the part that is lent stands as an activation of its own -/
theorem Fr.lend (F : Fr G Z H ρ σ c) : Fr ⟨G.S, vis H, lendZ is ρ σ Z H, G.cm, G.cml, vis_nt, G.T, lendZ_zn F⟩ (lendZ is ρ σ Z H) H (lendR is 0 ρ) σ c where
  zh := lendZ_H F
  gs := fun s e => by
    obtain ⟨⟨_, h1, _, t1⟩, _, h2, _, t2⟩ := F.st.at_ e
    exact ⟨by show vis H s.st ≠ none; rw [vis_of h1 t1]; simp, by show vis H s.cl ≠ none; rw [vis_of h2 t2]; simp⟩
  st := F.st.keep (fun s e => ⟨rfl, rfl⟩) (ht := .refl _) fun s e => by
    have n := F.st.noZ s e
    have out : ∀ b, (b = s.st ∨ b = s.cl) → ¬ ∃ i ∈ is, ∃ ds, ρ[i]? = some (Slot.ow ds) ∧ σ[i]? = some (some (.ref b)) := fun b hb h => by
      obtain ⟨i, _, ds, e1, e2⟩ := h
      obtain ⟨a, ea, vs, h1, h2, h3, _⟩ := F.sl i _ e1
      rw [e2] at ea; cases ea
      have ns := F.notSt h3 s e
      rcases hb with rfl | rfl
      · exact ns.1 rfl
      · exact ns.2 rfl
    rw [lendZ_out (out _ (.inl rfl)), lendZ_out (out _ (.inr rfl))]
    exact n
  len := by rw [lendR_len]; exact F.len
  sl := fun i s e => by
    rw [lendR_get, Nat.zero_add] at e
    cases q : ρ[i]? with
    | none => rw [q] at e; cases e
    | some t =>
      rw [q] at e
      simp only [Option.map_some, Option.some.injEq] at e
      subst e
      have z := F.sl i t q
      cases t with
      | no => trivial
      | ob _ _ _ _ => trivial
      | sh d =>
        obtain ⟨v, e1, r⟩ := z
        exact ⟨v, e1, r.mono (lendZ_sub F)⟩
      | ow ds =>
        obtain ⟨a, e1, o, h1, h2, h3, h4⟩ := z
        show SlotOk _ _ _ (if i ∈ is then Slot.sh ds else .no) _
        by_cases hi : i ∈ is
        · rw [if_pos hi]
          refine ⟨_, e1, ?_⟩
          exact (h4.mono (lendZ_sub F)).rep (by rw [lendZ_in ⟨i, hi, ds, q, e1⟩]; exact h1)
        · rw [if_neg hi]; trivial
  ap := fun i j s t _ e1 e2 w1 w2 => by
    exfalso
    rw [lendR_get, Nat.zero_add] at e1
    cases q : ρ[i]? with
    | none => rw [q] at e1; cases e1
    | some u =>
      rw [q] at e1
      simp only [Option.map_some, Option.some.injEq] at e1
      subst e1
      cases u with
      | no => cases w1
      | sh d => cases w1
      | ob _ _ _ _ => cases w1
      | ow ds =>
        have w1' : (if i ∈ is then Slot.sh ds else .no : Slot).owns = true := w1
        by_cases hi : i ∈ is
        · rw [if_pos hi] at w1'; cases w1'
        · rw [if_neg hi] at w1'; cases w1'
  sm := .ofv fun _ _ e => e
  fr := fun b o e => .inl e
  z0 := fun _ _ e => e
  tb := F.tb
end
def dBor (is : List Nat) (t : DTE) : DTE := fun ρ Q _ => t (lendR is 0 ρ) (fun r _ => r.imm = true ∧ Q r ρ) noW
section
variable {X : Cx} {n : Nat} {e : Expr} {t : DTE} {tt : DTT}
theorem bor_back {G : Gh} {Z H Z2 H2 : Hp} {ρ ρ' : Rho} {σ : L2.St} {c c2 : Nat} {is : List Nat} (F : Fr G Z H ρ σ c) (F2 : Fr ⟨G.S, vis H, lendZ is ρ σ Z H, G.cm, G.cml, vis_nt, G.T, lendZ_zn F⟩ Z2 H2 ρ' σ c2) (hz : Sub (lendZ is ρ σ Z H) Z2) : Fr G (tupPart Z Z2) H2 ρ σ c2 := by
  have z12 : Sub Z Z2 := (lendZ_sub F).trans hz
  have sm : SameM G.S (vis H) H2 := F2.sm
  refine F.step tupPart_sub (fun b o e => F2.zh b o (tupPart_of z12 e).1) (F2.st.keep (fun s e => ⟨rfl, rfl⟩) (fun s e => ?_) (.refl _)) sm F2.tb (fun b o e => ?_) (fun b e1 e2 e3 e4 => ?_)
  · have n := F2.st.noZ s e
    constructor
    · cases q : tupPart Z Z2 s.st with
      | none => rfl
      | some o => rw [(tupPart_of z12 q).1] at n; cases n.1
    · cases q : tupPart Z Z2 s.cl with
      | none => rfl
      | some o => rw [(tupPart_of z12 q).1] at n; cases n.2
  · obtain ⟨q1, q2⟩ := tupPart_of z12 e
    rcases q2 with q2 | ⟨vs, rfl⟩
    · exact .inl q2
    · rcases F2.fr b _ q1 with w | w
      · have w : lendZ is ρ σ Z H b = some (.tup vs) := w
        by_cases h : ∃ i ∈ is, ∃ ds, ρ[i]? = some (Slot.ow ds) ∧ σ[i]? = some (some (.ref b))
        · rw [lendZ_in h] at w
          obtain ⟨_, us, hu, _, hn⟩ := lend_none F h
          rw [hu] at w; exact (hn vs (Option.some.inj w)).elim
        · rw [lendZ_out h] at w; exact .inl w
      · exact .inr ⟨w.at_.imp F.free0v id, w.nt⟩
  · cases q : tupPart Z Z2 b with
    | none => rfl
    | some o =>
      exfalso
      obtain ⟨q1, q2⟩ := tupPart_of z12 q
      rcases q2 with q2 | ⟨vs, rfl⟩
      · rw [e1] at q2; cases q2
      · have hb := F2.zh b _ q1
        have old : ∃ u, vis H b = some u ∧ (∀ vs, u ≠ .tup vs) := by
          obtain ⟨i, s, f1, f2, f3⟩ := e4
          · have z := F.sl i s f1
            rcases f3 with f3 | ⟨y, f3, _⟩
            · cases s with
              | no => cases f2
              | sh d => cases f2
              | ow ds =>
                obtain ⟨a, ea, us, h1, _, _, m⟩ := z
                rw [f3] at ea; cases ea
                exact ⟨_, vis_of h1 m.ntbl, m.ntup⟩
              | ob x C ns ds =>
                obtain ⟨a, ea, dx, fs, h1, _⟩ := z
                rw [f3] at ea; cases ea
                exact ⟨_, vis_of h1, fun vs w => by cases w⟩
            · exact ⟨_, vis_of f3, fun vs w => by cases w⟩
        obtain ⟨u, hu, hn⟩ := old
        have := sm b u hu (F.notSt e3)
        rw [hb] at this
        cases this
        exact hn vs rfl
/-- names of `is` are lent to the expression: nothing of them is kept by it -/
theorem de_bor (is : List Nat) (h : DE X n e t) : DE X n e (dBor is t) := fun G W tk => by
  have h' : PE X e (eEx (tabsOf X.K) n t) := ⟨fun pins s σ H Q I ⟨G', hG, hw⟩ => (h G' noW (tkN hG)).run pins s σ H Q I hw⟩
  refine PE.weak h' fun σ H Q ⟨Z, ρ, c, Qd, F, hc, t, k⟩ => ?_
  refine ⟨⟨G.S, vis H, lendZ is ρ σ Z H, G.cm, G.cml, vis_nt, G.T, lendZ_zn F⟩, tk.ok, lendZ is ρ σ Z H, lendR is 0 ρ, c, _, F.lend, hc, t, fun r ρ' Z2 H2 v c2 z2 l2 q F2 o => ?_⟩
  obtain ⟨hi, q⟩ := q
  have z12 : Sub Z Z2 := (lendZ_sub F).trans z2
  refine k r ρ (tupPart Z Z2) H2 v c2 tupPart_sub l2 q (bor_back F F2 z2) ?_
  cases r with
  | sh d => exact Rep.imm z12 hi o
  | nw ds =>
    obtain ⟨a, rfl, ⟨vs, h1, h2, h3, h4⟩, _⟩ := o
    have h3 : vis H a = none := h3
    refine ⟨a, rfl, ⟨vs, h1, ?_, F.free0v h3, h4.imm z12 hi⟩, NotOwned.of_vis F h3⟩
    cases q : tupPart Z Z2 a with
    | none => rfl
    | some o => rw [(tupPart_of z12 q).1] at h2; cases h2
end
/-! ### texts walked sign by sign -/
def signsD (x : Str) : List D := x.cps.toList.map fun c => D.str ⟨#[c]⟩
theorem it_str {S : Option Stm} {Z : Hp} {x : Str} (so : SOk x) : ItOk S (Its x) Z (signsD x) where
  len := by
    have : x.cps.size ≤ sizeLine := so.len
    simpa [signsD] using this
  go := fun i H _ hi => by show i < x.cps.size; simpa [signsD] using hi
  stop := fun H _ => by show x.cps.size ≤ _; simp [signsD]
  yld := fun i H Zc v H' d zc zh hd y => by
    obtain ⟨rfl, c, hc, rfl⟩ := y
    refine ⟨fun _ _ e => e, Zc, fun _ _ e => e, zh, fun _ _ e => .inl e, ?_⟩
    unfold signsD at hd
    rw [List.getElem?_map] at hd
    have hc' : x.cps.toList[i]? = some c := by simpa using hc
    rw [hc'] at hd
    cases hd
    exact Rep.str (so.one (List.mem_of_getElem? hc'))
section
variable {X : Cx} {n : Nat} {e tg : Expr} {ta : DTE} {pos : Pos} {x : Str}
@[simp] def dSigns (ta : DTE) : DTI := fun ρ Q W => ta ρ (fun r ρ1 => ∃ x, r.d = .str x ∧ Q (signsD x) ρ1) W
theorem di_str (h : DE X n e ta) : DI X n tg e (dSigns ta) := fun G W tk => PI.weak (pi_str (h G W tk)) fun σ H R ⟨Z, ρ, c, Qd, F, hc, t, k⟩ => by
  refine ⟨Z, ρ, c, _, F, hc, t, fun r ρ1 Z1 H1 v c1 z1 l1 q F1 o => ?_⟩
  obtain ⟨Z2, z2, F2, rp⟩ := F1.share o
  obtain ⟨y, e, q⟩ := q
  rw [e, Rep.str_iff] at rp
  obtain ⟨rfl, so⟩ := rp
  exact ⟨y, rfl, k _ ρ1 Z2 H1 _ c1 (z1.trans z2) l1 q F2 (it_str so)⟩
/-- a module's text -/
theorem de_gstr {z : Str} (hg : Gl X x) (hm : ∃ t, X.mg x = some (.str z t)) (so : SOk z := by decide +kernel) (hd : (x == ("__debug__" : Str)) = false := by decide) : DE X 0 (.Name x pos) (dC (.str z)) := by
  obtain ⟨t, hm⟩ := hm
  exact de_c (v := .str z) (pe_glob (v := .str z) hg hm ⟨t, rfl⟩ hd) fun _ _ => Rep.str so
/-- a built-in class as a value -/
theorem de_ty {T : String} (hg : Gl X x) (hm : X.mg x = none) (hv : bootBuiltins x = some (.type T)) (hn : x ≠ "__name__" := by decide) (hd : (x == ("__debug__" : Str)) = false := by decide) : DE X 0 (.Name x pos) (dC (.ty T)) :=
  de_c (v := .ty T) (pe_bltn (v := .ty T) hg hm hv rfl hn hd) fun _ _ => by rw [Rep]
end
end DL
set_option Elab.async false
set_option linter.all false
set_option maxRecDepth 100000
set_option maxHeartbeats 4000000
namespace DL
open PySem L2 PyProof.Rows
/-! ### the stream of draws -/
def CPowW (i j : Int) : Prop := 0 ≤ j ∧ (Builtin.Int.intBits i : Int) * j ≤ 2 ^ 27
theorem ifT {c : Prop} [Decidable c] {a b : Prop} (h : c) (x : a) : if c then a else b := by rw [if_pos h]; exact x
theorem ifF {c : Prop} [Decidable c] {a b : Prop} (h : ¬ c) (x : b) : if c then a else b := by rw [if_neg h]; exact x
theorem op_powW {X : Cx} : OpR X (binaryOp .Pow) (rI CPowW fun i j => .int (i ^ j.toNat)) := opI fun _ _ _ _ _ _ _ hc q => pow_int hc.1 hc.2 q
theorem powW_ok {i : Int} {j k : Nat} (h : i.natAbs < 2 ^ k) (hk : k * j ≤ 2 ^ 27) : CPowW i (j : Int) := by
  refine ⟨Int.natCast_nonneg _, ?_⟩
  have := intBits_le h
  have h2 : Builtin.Int.intBits i * j ≤ k * j := Nat.mul_le_mul_right j this
  have h3 : ((Builtin.Int.intBits i * j : Nat) : Int) ≤ ((2 ^ 27 : Nat) : Int) := Int.ofNat_le.mpr (Nat.le_trans h2 hk)
  simpa using h3
theorem lim_lt : LIM < 2 ^ 1000001 := Nat.pow_lt_pow_right (by decide) (by decide)
theorem draw_pow1 {m : Int} {k : Nat} (h0 : 0 ≤ m) (h1 : m < 2147483647) (hk : k ≤ LIM) : CPowW (m + 7919 * (k : Int) + 104729) 5 := by
  refine powW_ok (j := 5) (k := 1000040) ?_ (by decide)
  have h := lim_lt
  have e : (2 : Nat) ^ 1000040 = 2 ^ 1000001 * 2 ^ 39 := by rw [← Nat.pow_add]
  rw [e]
  generalize (2 : Nat) ^ 1000001 = B at h ⊢
  omega
theorem draw_pow2 {m : Int} {k : Nat} (h0 : 0 ≤ m) (h1 : m < 2147483629) (hk : k ≤ LIM) : CPowW (m * 48271 + 30011 * (k : Int) + 29) 3 := by
  refine powW_ok (j := 3) (k := 1000060) ?_ (by decide)
  have h := lim_lt
  have e : (2 : Nat) ^ 1000060 = 2 ^ 1000001 * 2 ^ 59 := by rw [← Nat.pow_add]
  rw [e]
  generalize (2 : Nat) ^ 1000001 = B at h ⊢
  omega
/-- what the stream holds -/
structure StH (s : Stm) (H : Hp) (cells : List Int) (r : Int) (k : Nat) (m : Int) : Prop where
  st : H s.st = some (.lst [.ref s.cl, .int r, .int k, .int m])
  cl : H s.cl = some (.lst (cells.map V.int))
  r0 : 0 ≤ r
  m0 : 0 ≤ m
  m1 : m < 2147483647
def Off (s : Stm) (H H' : Hp) : Prop := ∀ b o, H b = some o → b ≠ s.st → b ≠ s.cl → H' b = some o
theorem Off.trans {s : Stm} {H H1 H2 : Hp} (a : Off s H H1) (b : Off s H1 H2) : Off s H H2 := fun c o h n m => b c o (a c o h n m) n m
theorem Off.st {s : Stm} {H H' : Hp} (o : HO) (a : Off s H H') : Off s H (upd H' s.st o) := fun c u h n m => by rw [upd_ne n]; exact a c u h n m
theorem Off.cl {s : Stm} {H H' : Hp} (o : HO) (a : Off s H H') : Off s H (upd H' s.cl o) := fun c u h n m => by rw [upd_ne m]; exact a c u h n m
theorem Off.new {s : Stm} {H H' : Hp} (o : HO) {p : Addr} (hp : H' p = none) (a : Off s H H') : Off s H (upd H' p o) := fun c u h n m => by
  have := a c u h n m
  rw [upd_ne (ne_of_none this hp)]; exact this
theorem StH.new {s : Stm} {H : Hp} {cells : List Int} {r : Int} {k : Nat} {m : Int} (h : StH s H cells r k m) {p : Addr} (o : HO) (hp : H p = none) : StH s (upd H p o) cells r k m :=
  ⟨by rw [upd_ne (ne_of_none h.st hp)]; exact h.st, by rw [upd_ne (ne_of_none h.cl hp)]; exact h.cl, h.r0, h.m0, h.m1⟩
theorem StH.ne {s : Stm} {H : Hp} {cells : List Int} {r : Int} {k : Nat} {m : Int} (h : StH s H cells r k m) : s.st ≠ s.cl := fun e => by
  have h1 := h.st
  rw [e, h.cl] at h1
  have h2 := congrArg (fun o : Option HO => match o with | some (.lst (.int _ :: _)) => true | some (.lst []) => true | _ => false) h1
  cases cells with
  | nil => simp at h2
  | cons a l => simp at h2
theorem StH.put {s : Stm} {H : Hp} {cells : List Int} {r r' : Int} {k k' : Nat} {m m' : Int} (h : StH s H cells r k m) (h1 : 0 ≤ r') (h2 : 0 ≤ m') (h3 : m' < 2147483647) : StH s (upd H s.st (.lst [.ref s.cl, .int r', .int k', .int m'])) cells r' k' m' :=
  ⟨upd_same, by rw [upd_ne (Ne.symm h.ne)]; exact h.cl, h1, h2, h3⟩
theorem StH.pop {s : Stm} {H : Hp} {cells : List Int} {r : Int} {k : Nat} {m : Int} (h : StH s H cells r k m) (cs : List Int) : StH s (upd H s.cl (.lst (cs.map V.int))) cs r k m :=
  ⟨by rw [upd_ne h.ne]; exact h.st, upd_same, h.r0, h.m0, h.m1⟩
def FDraw : DSp := fun ds Q _ => ∃ n : Int, ds = [.stm, .int n] ∧ 0 < n ∧ n < 1073741824 ∧ ∀ k : Int, 0 ≤ k → k < n → Q (.sh (.int k))
theorem tabs_off {T : List (Addr × Str)} {s : Stm} {H H' : Hp} {cells : List Int} {r : Int} {k : Nat} {m : Int} (sh : StH s H cells r k m) (of : Off s H H') (t : LamX.Tabs T H) : LamX.Tabs T H' := fun p hp => by
  obtain ⟨ps, h1, h2, h3⟩ := t p hp
  refine ⟨ps, of _ _ h1 (fun z => ?_) (fun z => ?_), h2, fun pos cv e => ?_⟩
  · rw [z, sh.st] at h1; cases h1
  · rw [z, sh.cl] at h1; cases h1
  · obtain ⟨c, e1, e2⟩ := h3 pos cv e
    refine ⟨c, e1, of _ _ e2 (fun z => ?_) (fun z => ?_)⟩
    · rw [z, sh.st] at e2; exact code_lst (Option.some.inj e2)
    · rw [z, sh.cl] at e2; exact code_lst (Option.some.inj e2)
/-- the promise of a draw, by the stream's lists -/
theorem draw_of {vs : List V} {H : Hp} {Q : VK} {E : XK} {K : PySem.W.Frag} (h : spD K 1 FDraw vs H Q E) : ∃ (s : Stm) (cells : List Int) (r m : Int) (k : Nat) (n : Int), vs = [.ref s.st, .int n] ∧ StH s H cells r k m ∧ 0 < n ∧ n < 1073741824 ∧ k + 1 ≤ LIM ∧
    ∀ (cells' : List Int) (r' m' : Int) (j : Int) (H' : Hp), StH s H' cells' r' (k + 1) m' → Off s H H' → 0 ≤ j → j < n → Q (.int j) H' := by
  obtain ⟨S, Z, c, ds, Qd, Wd, hzt, zh, st, hl, rs, ⟨n, rfl, hn, hn2, hq⟩, tb, k1, k2⟩ := h
  obtain ⟨v, u, rfl, r1, r2⟩ := rs.two
  rw [Rep] at r1
  obtain ⟨s, rfl, mm, rfl⟩ := r1
  rw [Rep.int_iff] at r2
  subst r2
  obtain ⟨cells, r, m, k, h1, h2, h3, h4, h5, h6, h7, h8, h9⟩ : StrAt s Z H c := by
    rcases st s rfl with ⟨_, q⟩ | ⟨d, q, _⟩
    · exact q
    · rw [mm] at q; cases q
  refine ⟨s, cells, r, m, k, n, rfl, ⟨h1, h2, h4, h5, h6⟩, hn, hn2, by omega, fun cells' r' m' j H' sh off hj1 hj2 => ?_⟩
  refine k1 (.sh (.int j)) Z H' _ (c + 1) (fun _ _ e => e) (fun b o e => ?_) (Nat.le_refl _) (fun b o e n => off b o (vis_some e) (n s rfl).1 (n s rfl).2) (fun b o e => .inl e) (fun s' e => ?_) (tabs_off ⟨h1, h2, h4, h5, h6⟩ off tb) (Rep.int (S := some s) (Z := Z)) (hq j hj1 hj2)
  · refine off b o (zh b o e) (fun z => ?_) fun z => ?_
    · rw [z, h7] at e; cases e
    · rw [z, h8] at e; cases e
  · cases e
    exact .inl ⟨mm, cells', r', m', k + 1, sh.st, sh.cl, by omega, sh.r0, sh.m0, sh.m1, h7, h8, h9⟩
theorem dpInts (K : PySem.W.Frag) (H : Hp) : ∀ ns : List Int, DpAll K H (ns.map V.int) (ns.map PyData.int)
  | [] => .nil
  | n :: ns => .cons (.int n) (dpInts K H ns)
theorem shapedInts (ns : List Int) : SeqAt.shaped (.list (ns.map PyData.int)) = true := by
  have h : PyData.canLayAll0 (ns.map PyData.int) = true ∧ PyData.depthAll (ns.map PyData.int) = 0 := by
    induction ns with
    | nil => exact ⟨by simp [PyData.canLayAll0], by simp [PyData.depthAll]⟩
    | cons n ns ih => exact ⟨by simp [PyData.canLayAll0, PyData.canLay0, ih.1], by simp [PyData.depthAll, PyData.depth, ih.2]⟩
  unfold SeqAt.shaped
  simp [PyData.canLay0, PyData.depth, h.1, h.2]
def FDrawLen : ∀ ds Q W, FDraw ds Q W → ds.length = 2 := fun ds Q W ⟨n, e, _⟩ => by rw [e]; rfl
end DL
set_option Elab.async false
set_option linter.all false
set_option maxRecDepth 100000
set_option maxHeartbeats 4000000
namespace DL
open PySem L2 PyProof.Rows
section
variable {X : Cx} {n m k : Nat} {a e o : Expr} {ta ti : DTE} {p p2 q pos : Pos}
/-! ### a list of one's own is read -/
@[simp] def dIxO (i : Nat) (ti : DTE) : DTE := fun ρ Q W => (∃ xs, ρ[i]? = some (.ow (.lst xs))) ∧ ti ρ (fun j ρ1 => ∃ xs q d, ρ1[i]? = some (.ow (.lst xs)) ∧ j.d = .int q ∧ atI xs q = some d ∧ Q (.sh d) ρ1) W
theorem de_ixO {i : Nat} {b : Expr} (ho : PE X o (tVar i)) (hb : DE X m b ti) (hs : PlainIx b) : DE X m (.Subscript o b pos) (dIxO i ti) := fun G W tk =>
  PE.weak (pe_ix ix_seq ho (hb G W tk) hs) fun σ H Q ⟨Z, ρ, c, Qd, F, hc, ⟨⟨xs0, h0⟩, t⟩, k⟩ => by
    obtain ⟨a, ea, _⟩ := F.sl i _ h0
    refine ⟨_, ea, Z, ρ, c, _, F, hc, t, fun j ρ1 Z1 H1 v c1 z1 l1 q F1 o1 => ?_⟩
    obtain ⟨Z2, z2, F2, rp⟩ := F1.share o1
    obtain ⟨xs, q0, d, e1, e2, e3, q⟩ := q
    obtain ⟨a', vs, ea', b1, b2, b3, b4, b5⟩ := F2.atL e1
    rw [ea] at ea'; cases ea'
    rw [e2, Rep.int_iff] at rp; subst rp
    obtain ⟨w, e4, rw'⟩ := atI_rep b5 e3
    exact .inl ⟨a, vs, _, w, rfl, rfl, SqL.of b1, e4, k _ ρ1 Z2 H1 w c1 (z1.trans z2) l1 q F2 rw'⟩
/-! ### {} -/
@[simp] def dDictE : DTE := fun ρ Q _ => Q (.nw (.dct false [] [])) ρ
end
end DL
set_option Elab.async false
set_option linter.all false
set_option maxRecDepth 100000
set_option maxHeartbeats 4000000
namespace DL
open PySem L2 PyProof.Rows
/-! ### seq * int -/
/-- t * 1 is the very tuple -/
theorem tuple_once {l : Addr} {its : Array Value} {n : Nat} {dd : Option Addr} {sl : Array (Option Value)} {u : Tok} : Meets (Builtin.«tuple.__mul__» ⟨[.ref l, .int 1 u], []⟩) (fun _ R s => s.heap.get? l = some ⟨.type "tuple", dd, .seq its n, sl⟩ ∧ R (.ok (.ret (.ref l))) s) := by
  rintro prog w A R ⟨hp, g, d, tk, os⟩ ⟨there, q⟩
  have ix := AutoSeq1.idx_int
  have small : (decide ((1 : Int) < -(2 ^ 63)) || decide ((1 : Int) ≥ 2 ^ 63)) = false := by decide
  have one : (its.isEmpty || (1 : Int) == 1) = true := by simp
  wp_walk using wpAny_loadPart' there
  exact q
def rRep1 (K : PySem.W.Frag) : R2 := fun x y H Q => ∃ l xs, x = .ref l ∧ y = .int 1 ∧ SqT K H l xs ∧ Q (.ref l) H
section
variable {X : Cx}
theorem op_rep1 : OpR X (binaryOp .Mult) (rRep1 X.K) := by
  intro pins s σ H x y v u Q I rx ry h
  obtain ⟨l, xs, rfl, rfl, hT, q⟩ := h
  cases rx
  obtain ⟨t, rfl⟩ := ry
  obtain ⟨its, r, ⟨⟨cls, dd, data, sl⟩, ho, hc, n, hd⟩, hs⟩ := I.tuple hT
  simp only at hc hd
  subst hc hd
  exact wpAny_binaryOp_repeat_ref (T := "tuple") (U := "int") (by decide) ⟨_, ho, rfl⟩ (fun s' => typeIs_int s' 1 t) noFill_tuple_mul F.fills_int_mul F.slot_int_rmul repeat_tuple F.slot_int_index.lookup
    (call_meets F.slot_int_rmul (typeIs_int s 1 t) F.entry_int_rmul (F.args_int_rmul_2 _ _) (int_rmul_tuple 1 t l its.toArray n dd sl)
      ⟨ho, rfl, ⟨_, ho, rfl⟩, call_meets F.slot_tuple_mul ⟨_, ho, rfl⟩ F.entry_tuple_mul (F.args_tuple_mul_2 _ _) tuple_once ⟨ho, ⟨.ref l, H, I, rfl, q⟩⟩⟩)
@[simp] def fMul : List D → Option Vd
  | [.int a, .int b] => if -(2 ^ 64) < b ∧ b < 2 ^ 64 then some (.sh (.int (a * b))) else none
  | [.lst xs, .int k] => if k < 2 ^ 63 ∧ -(2 ^ 63) ≤ k ∧ xs.length * k.toNat ≤ sizeLine then some (.nw (.lst (List.replicate k.toNat xs).flatten)) else none
  | [.tup xs, .int k] => if xs ≠ [] ∧ 1 ≤ k ∧ k ≤ 1000 ∧ xs.length ≤ 1000 then some (.sh (.tup (List.replicate k.toNat xs).flatten)) else none
  | _ => none
theorem Reps.rep {S : Option Stm} {Z : Hp} {ds : List D} {vs : List V} (r : Reps S Z ds vs) : ∀ n, Reps S Z (List.replicate n ds).flatten (List.replicate n vs).flatten
  | 0 => by simp [Reps.nil]
  | n + 1 => by
    rw [List.replicate_succ, List.replicate_succ, List.flatten_cons, List.flatten_cons]
    exact r.append (r.rep n)
theorem rep_len {α : Type} (xs : List α) : ∀ n, (List.replicate n xs).flatten.length = n * xs.length
  | 0 => by simp
  | n + 1 => by rw [List.replicate_succ, List.flatten_cons, List.length_append, rep_len xs n, Nat.add_mul, Nat.one_mul, Nat.add_comm]
theorem od_mul : OpD X (binaryOp .Mult) fMul := by
  refine ⟨_, (op_mul.or (op_rep.or (op_repT.or op_rep1))), fun S vs H Z ds res Q zh rs e k => ?_⟩
  unfold fMul at e
  split at e
  · split at e
    · rename_i hb
      cases e
      obtain ⟨v, u, rfl, r1, r2⟩ := rs.two
      rw [Rep.int_iff] at r1 r2; subst r1 r2
      exact ⟨_, _, rfl, .inl ⟨_, _, rfl, rfl, .inr hb, Kont.val k zh Rep.int⟩⟩
    · cases e
  · split at e
    · rename_i xs q hl
      cases e
      obtain ⟨v, u, rfl, r1, r2⟩ := rs.two
      rw [Rep.int_iff] at r2; subst r2
      obtain ⟨p, us, rfl, z1, l1, q1⟩ := Rep.lst_iff.mp r1
      exact ⟨_, _, rfl, .inr (.inl ⟨_, _, _, rfl, rfl, zh _ _ z1, hl.2.1, hl.1, by rw [← q1.length]; exact hl.2.2, fun p hp => Kont.lst k zh hp (by rw [rep_len, Nat.mul_comm]; exact hl.2.2) (q1.rep _)⟩)⟩
    · cases e
  · split at e
    · rename_i xs q hl
      cases e
      obtain ⟨v, u, rfl, r1, r2⟩ := rs.two
      rw [Rep.int_iff] at r2; subst r2
      obtain ⟨p, us, rfl, z1, l1, q1⟩ := Rep.tup_iff.mp r1
      have hne : us ≠ [] := fun z => hl.1 (List.eq_nil_of_length_eq_zero (by rw [q1.length, z]; rfl))
      have hlen : (List.replicate q.toNat xs).flatten.length ≤ sizeLine := by
        rw [rep_len, sizeLine_eq]
        have a1 : q.toNat * xs.length ≤ 1000 * 1000 := Nat.mul_le_mul (by omega) hl.2.2.2
        omega
      by_cases hq : q = 1
      · subst hq
        refine ⟨_, _, rfl, .inr (.inr (.inr ⟨_, _, rfl, rfl, SqT.of (zh _ _ z1), Kont.val k zh ?_⟩))⟩
        have e : (List.replicate (1 : Int).toNat xs).flatten = xs := by simp
        rw [e]
        exact r1
      · exact ⟨_, _, rfl, .inr (.inr (.inl ⟨_, _, _, rfl, rfl, SqT.of (zh _ _ z1), hne, by omega, hl.2.2.1, by rw [← q1.length]; exact hl.2.2.2, fun p hp => Kont.tup k zh hp hlen (q1.rep _)⟩))⟩
    · cases e
  · cases e
end
/-! ### f(e, .., k = v) -/
section
variable {X : Cx} {n m k n1 n2 np : Nat} {e : Expr} {es : List Expr} {kws : List Keyword} {ta : DTE} {ts tk : DTA} {pos p kpos : Pos} {nm : Option Str} {F : DSp} {f : Addr} {fd : FuncData} {ps ks : List Str} {x : Str} {g : List Value → List Value → List Value}
@[simp] def dCallN (np nk : Nat) (F : DSp) (ts tk : DTA) : DTE := fun ρ Q W => ts ρ (fun ds ρ1 => tk ρ1 (fun es ρ2 => ds.length = np ∧ es.length = nk ∧ F (ds ++ es) (fun r => Q r ρ2) (fun x => W x ρ2)) W) W
end
end DL
set_option Elab.async false
set_option linter.all false
set_option maxRecDepth 100000
set_option maxHeartbeats 4000000
set_option Elab.async false
set_option linter.all false
set_option maxRecDepth 100000
set_option maxHeartbeats 4000000
namespace DL
open PySem L2 PyProof.Rows
/-! ### facts for readings -/
theorem atI_nat {α : Type} (xs : List α) (n : Nat) : atI xs (n : Int) = xs[n]? := by
  unfold atI ixN
  rw [if_pos (Int.natCast_nonneg _)]
  by_cases h : n < xs.length
  · rw [if_pos (by exact_mod_cast h)]; simp
  · rw [if_neg (by exact_mod_cast h), List.getElem?_eq_none (by omega)]; rfl
@[simp] theorem atI_zero {α : Type} (x : α) (xs : List α) : atI (x :: xs) 0 = some x := atI_nat (x :: xs) 0
@[simp] theorem atI_one {α : Type} (x y : α) (xs : List α) : atI (x :: y :: xs) 1 = some y := atI_nat (x :: y :: xs) 1
@[simp] theorem dep_str (x : Str) : (D.str x).dep = 0 := by simp [D.dep]
@[simp] theorem dep_int (x : Int) : (D.int x).dep = 0 := by simp [D.dep]
@[simp] theorem dep_bl (x : Bool) : (D.bl x).dep = 0 := by simp [D.dep]
@[simp] theorem dep_non : D.non.dep = 0 := by simp [D.dep]
@[simp] theorem eqv_str (x y : Str) : D.eqv (.str x) (.str y) = (x == y) := by simp [D.eqv]
@[simp] theorem eqv_int (x y : Int) : D.eqv (.int x) (.int y) = (x == y) := by simp [D.eqv]
@[simp] theorem eqv_bl (x y : Bool) : D.eqv (.bl x) (.bl y) = (x == y) := by simp [D.eqv]
@[simp] theorem eqv_non : D.eqv .non .non = true := by simp [D.eqv]
theorem cut_to {α : Type} (xs : List α) (n : Nat) : cutD xs none (some (n : Int)) = xs.take n := by
  unfold cutD
  rw [HT.sIx_none, HT.sIx_nat, List.drop_zero, Nat.sub_zero]
  by_cases h : n ≤ xs.length
  · rw [Nat.min_eq_left h]
  · rw [Nat.min_eq_right (by omega), List.take_length, List.take_of_length_le (by omega)]
end DL
set_option Elab.async false
set_option linter.all false
set_option maxRecDepth 100000
set_option maxHeartbeats 4000000
namespace DL
open PySem L2 PyProof.Rows
/-! ### readings as functions: a computation returns, raises, draws, or is not told -/
inductive Cm (α : Type) where
  | ret (a : α)
  | exc (x : XD) (ρ : Rho)
  | draw (n : Int) (k : Int → Cm α)
  | bad
@[simp] def Cm.bind {α β : Type} : Cm α → (α → Cm β) → Cm β
  | .ret a, f => f a
  | .exc x ρ, _ => .exc x ρ
  | .draw n k, f => .draw n fun i => (k i).bind f
  | .bad, _ => .bad
@[simp] def Cm.sat {α : Type} : Cm α → (α → Prop) → DX → Prop
  | .ret a, Q, _ => Q a
  | .exc x ρ, _, W => W x ρ
  | .draw n k, Q, W => ∀ i, 0 ≤ i → i < n → (k i).sat Q W
  | .bad, _, _ => False
@[simp] def Cm.noex {α : Type} : Cm α → Cm α
  | .ret a => .ret a
  | .exc _ _ => .bad
  | .draw n k => .draw n fun i => (k i).noex
  | .bad => .bad
section
variable {α β γ : Type}
theorem sat_bind {m : Cm α} {f : α → Cm β} {Q : β → Prop} {W : DX} : (m.bind f).sat Q W ↔ m.sat (fun a => (f a).sat Q W) W := by
  induction m with
  | ret a => rfl
  | exc x ρ => rfl
  | draw n k ih => exact ⟨fun h i h0 h1 => (ih i).mp (h i h0 h1), fun h i h0 h1 => (ih i).mpr (h i h0 h1)⟩
  | bad => rfl
theorem Cm.sat.mono {m : Cm α} {Q Q' : α → Prop} {W W' : DX} (h : m.sat Q W) (hq : ∀ a, Q a → Q' a) (hw : ∀ x ρ, W x ρ → W' x ρ) : m.sat Q' W' := by
  induction m with
  | ret a => exact hq a h
  | exc x ρ => exact hw x ρ h
  | draw n k ih => exact fun i h0 h1 => ih i (h i h0 h1)
  | bad => exact h.elim
theorem Cm.sat.imp {m : Cm α} {Q Q' : α → Prop} {W : DX} (h : m.sat Q W) (hq : ∀ a, Q a → Q' a) : m.sat Q' W := h.mono hq fun _ _ z => z
theorem noex_sat {m : Cm α} {Q : α → Prop} {W W' : DX} (h : m.noex.sat Q W) : m.sat Q W' := by
  induction m with
  | ret a => exact h
  | exc x ρ => exact h.elim
  | draw n k ih => exact fun i h0 h1 => ih i (h i h0 h1)
  | bad => exact h
end
theorem ite_sat {α : Type} {c : Prop} [Decidable c] {a b : Cm α} {Q : α → Prop} {W : DX} : (if c then a else b).sat Q W ↔ if c then a.sat Q W else b.sat Q W := by split <;> rfl
abbrev EE := Rho → Cm (Vd × Rho)
abbrev ET := Rho → Cm (Bool × Rho)
abbrev EA := Rho → Cm (List D × Rho)
abbrev EV := Rho → Cm (List Vd × Rho)
abbrev EO := Rho → Cm (Option Int × Rho)
inductive Out where
  | nx (ρ : Rho) | rt (v : Vd) | bk (ρ : Rho) | ct (ρ : Rho)
abbrev ES := Rho → Cm Out
abbrev EG := D → Rho → Option Rho
abbrev EGs := List D → Rho → Option Rho
@[simp] def Out.sat (D : DEnds) : Out → Prop
  | .nx ρ => D.nx ρ
  | .rt v => D.rt v
  | .bk ρ => D.bk ρ
  | .ct ρ => D.ct ρ
def tE (f : EE) : DTE := fun ρ Q W => (f ρ).sat (fun p => Q p.1 p.2) W
def tT (f : ET) : DTT := fun ρ Q W => (f ρ).sat (fun p => Q p.1 p.2) W
def tA (f : EA) : DTA := fun ρ Q W => (f ρ).sat (fun p => Q p.1 p.2) W
def tV (f : EV) : DTV := fun ρ Q W => (f ρ).sat (fun p => Q p.1 p.2) W
def tO (f : EO) : DTO := fun ρ Q W => (f ρ).sat (fun p => Q p.1 p.2) W
def tI (f : EA) : DTI := fun ρ Q W => (f ρ).sat (fun p => Q p.1 p.2) W
def tS (f : ES) : DTS := fun D W ρ => (f ρ).sat (Out.sat D) W
def tG (g : EG) : DTG := fun d ρ Q => ∃ ρ', g d ρ = some ρ' ∧ Q ρ'
def tGs (g : EGs) : DTGs := fun d ρ Q => ∃ ρ', g d ρ = some ρ' ∧ Q ρ'
abbrev FN := List D → Cm Vd
abbrev FI := List D → Cm (List Str × List D)
def tF (f : FN) : DSp := fun ds Q W => (f ds).sat Q fun x _ => W x
def tFI (f : FI) : DSpI := fun ds Q W => (f ds).sat (fun p => Q p.1 p.2) fun x _ => W x
section
variable {X : Cx} {n m k : Nat} {e : Expr} {es : List Expr} {st : Stmt} {sts : List Stmt} {tg : Expr}
theorem DT.imp {ta tb : DTT} (h : DT X n e ta) (k : ∀ ρ Q W, tb ρ Q W → ta ρ Q W) : DT X n e tb := fun G W tk => PT.weak (h G W tk) fun σ H Q ⟨Z, ρ, c, Qd, F, hc, t, q⟩ => ⟨Z, ρ, c, Qd, F, hc, k _ _ _ t, q⟩
theorem DWt.imp {ta tb : DTT} (h : DWt X n e ta) (k : ∀ ρ Q W, tb ρ Q W → ta ρ Q W) : DWt X n e tb := fun G W tk => PW.weak (h G W tk) fun σ H Q ⟨Z, ρ, c, Qd, F, hc, t, q⟩ => ⟨Z, ρ, c, Qd, F, hc, k _ _ _ t, q⟩
theorem DA.imp {ta tb : DTA} (h : DA X n es ta) (k : ∀ ρ Q W, tb ρ Q W → ta ρ Q W) : DA X n es tb := fun G W tk => PA.weak (h G W tk) fun σ H Q ⟨Z, ρ, c, Qd, F, hc, t, q⟩ => ⟨Z, ρ, c, Qd, F, hc, k _ _ _ t, q⟩
theorem DV.imp {ta tb : DTV} (h : DV X n es ta) (k : ∀ ρ Q W, tb ρ Q W → ta ρ Q W) : DV X n es tb := fun G W tk => PA.weak (h G W tk) fun σ H Q ⟨Z, ρ, c, Qd, F, hc, t, q⟩ => ⟨Z, ρ, c, Qd, F, hc, k _ _ _ t, q⟩
theorem DO.imp {ta tb : DTO} {e : Option Expr} (h : DO X n e ta) (k : ∀ ρ Q W, tb ρ Q W → ta ρ Q W) : DO X n e tb := fun G W tk => PO.weak (h G W tk) fun σ H Q ⟨Z, ρ, c, Qd, F, hc, t, q⟩ => ⟨Z, ρ, c, Qd, F, hc, k _ _ _ t, q⟩
theorem DI.imp {ta tb : DTI} (h : DI X n tg e ta) (k : ∀ ρ Q W, tb ρ Q W → ta ρ Q W) : DI X n tg e tb := fun G W tk => PI.weak (h G W tk) fun σ H Q ⟨Z, ρ, c, Qd, F, hc, t, q⟩ => ⟨Z, ρ, c, Qd, F, hc, k _ _ _ t, q⟩
theorem DS.imp {ta tb : DTS} (h : DS X n st ta) (k : ∀ D W ρ, tb D W ρ → ta D W ρ) : DS X n st tb := fun G W tk => PS.weak (h G W tk) fun D σ H ⟨Z, ρ, c, Dd, F, hc, t, q⟩ => ⟨Z, ρ, c, Dd, F, hc, k _ _ _ t, q⟩
theorem DSs.imp {ta tb : DTS} (h : DSs X n sts ta) (k : ∀ D W ρ, tb D W ρ → ta D W ρ) : DSs X n sts tb := fun G W tk => PSs.weak (h G W tk) fun D σ H ⟨Z, ρ, c, Dd, F, hc, t, q⟩ => ⟨Z, ρ, c, Dd, F, hc, k _ _ _ t, q⟩
theorem DTs.imp {ta tb : DTT} (h : DTs X n es ta) (k : ∀ ρ Q W, tb ρ Q W → ta ρ Q W) : DTs X n es tb := fun G W tk => ⟨fun pins s σ H Q I ⟨Z, ρ, c, Qd, F, hc, t, q⟩ => (h G W tk).run pins s σ H Q I ⟨Z, ρ, c, Qd, F, hc, k _ _ _ t, q⟩⟩
theorem DG.imp {ga gb : DTG} {vs : List Nat} (h : DG X tg ga vs) (k : ∀ d ρ Q, gb d ρ Q → ga d ρ Q) : DG X tg gb vs := fun G => PG.weak (h G) fun v σ H Q ⟨Z, ρ, c, d, Qd, F, r, g, q⟩ => ⟨Z, ρ, c, d, Qd, F, r, k _ _ _ g, q⟩
theorem DGs.imp {ga gb : DTGs} {vs : List Nat} (h : DGs X es ga vs) (k : ∀ d ρ Q, gb d ρ Q → ga d ρ Q) : DGs X es gb vs := fun G => PGs.weak (h G) fun v σ H Q ⟨Z, ρ, c, d, Qd, F, r, g, q⟩ => ⟨Z, ρ, c, d, Qd, F, r, k _ _ _ g, q⟩
end
/-! ### expressions -/
@[simp] def eVar (i : Nat) : EE := fun ρ => match ρ[i]? with
  | some (.sh d) => .ret (.sh d, ρ)
  | some (.ow d) => .ret (.sh d, ρ.set i (.sh d))
  | _ => .bad
@[simp] def eMove (i : Nat) : EE := fun ρ => match ρ[i]? with
  | some (.sh d) => .ret (.sh d, ρ)
  | some (.ow d) => .ret (.nw d, ρ.set i .no)
  | _ => .bad
@[simp] def eC (d : D) : EE := fun ρ => .ret (.sh d, ρ)
@[simp] def aNil : EA := fun ρ => .ret ([], ρ)
@[simp] def aCons (a : EE) (r : EA) : EA := fun ρ => (a ρ).bind fun p => (r p.2).bind fun q => .ret (p.1.d :: q.1, q.2)
@[simp] def vNil : EV := fun ρ => .ret ([], ρ)
@[simp] def vCons (a : EE) (r : EV) : EV := fun ρ => (a ρ).bind fun p => (r p.2).bind fun q => .ret (p.1 :: q.1, q.2)
@[simp] def opt {α β : Type} (o : Option α) (k : α → Cm β) : Cm β := match o with
  | some a => k a
  | none => .bad
@[simp] def req {β : Type} (c : Prop) [Decidable c] (k : Cm β) : Cm β := if c then k else .bad
@[simp] def eTup (a : EA) : EE := fun ρ => (a ρ).bind fun p => req (p.1.length ≤ sizeLine) (.ret (.sh (.tup p.1), p.2))
@[simp] def eLst (a : EA) : EE := fun ρ => (a ρ).bind fun p => req (p.1.length ≤ sizeLine) (.ret (.nw (.lst p.1), p.2))
@[simp] def eOp1 (f : List D → Option Vd) (a : EE) : EE := fun ρ => (a ρ).bind fun p => opt (f [p.1.d]) fun z => .ret (z, p.2)
@[simp] def eOp2 (f : List D → Option Vd) (a b : EE) : EE := fun ρ => (a ρ).bind fun p => (b p.2).bind fun q => opt (f [p.1.d, q.1.d]) fun z => .ret (z, q.2)
@[simp] def eOpN (f : List D → Option Vd) (a : EA) : EE := fun ρ => (a ρ).bind fun p => opt (f p.1) fun z => .ret (z, p.2)
@[simp] def asBl : D → Option Bool
  | .bl b => some b
  | _ => none
@[simp] def asBlV : Vd → Option Bool
  | .sh (.bl b) => some b
  | _ => none
theorem asBlV_some {z : Vd} {b : Bool} (h : asBlV z = some b) : z = .sh (.bl b) := by
  unfold asBlV at h
  split at h
  · cases h; rfl
  · cases h
theorem asBl_some {d : D} {b : Bool} (h : asBl d = some b) : d = .bl b := by cases d <;> simp [asBl] at h; rw [h]
@[simp] def eTest (a : EE) : ET := fun ρ => (a ρ).bind fun p => opt (asBl p.1.d) fun b => .ret (b, p.2)
@[simp] def eAnd (a b : ET) : ET := fun ρ => (a ρ).bind fun p => if p.1 = true then b p.2 else .ret (false, p.2)
@[simp] def eOr (a b : ET) : ET := fun ρ => (a ρ).bind fun p => if p.1 = true then .ret (true, p.2) else b p.2
@[simp] def eNot (a : ET) : ET := fun ρ => (a ρ).bind fun p => .ret (!p.1, p.2)
@[simp] def eAndV (a b : EE) : EE := fun ρ => (a ρ).bind fun p => opt (asBl p.1.d) fun c => if c = true then b p.2 else .ret (.sh (.bl false), p.2)
@[simp] def eOrV (a b : EE) : EE := fun ρ => (a ρ).bind fun p => opt (asBl p.1.d) fun c => if c = true then .ret (.sh (.bl true), p.2) else b p.2
@[simp] def eNotV (a : EE) : EE := fun ρ => (a ρ).bind fun p => opt (asBl p.1.d) fun c => .ret (.sh (.bl (!c)), p.2)
@[simp] def eIfE (c : ET) (a b : EE) : EE := fun ρ => (c ρ).bind fun p => if p.1 = true then a p.2 else b p.2
@[simp] def eChain (f g : List D → Option Vd) (a b c : EE) : EE := fun ρ => (a ρ).bind fun p => (b p.2).bind fun q => opt (f [p.1.d, q.1.d]) fun z => opt (asBlV z) fun t =>
  if t = true then (c q.2).bind fun r => opt (g [q.1.d, r.1.d]) fun w => .ret (w, r.2) else .ret (.sh (.bl false), q.2)
theorem opt_sat {α β : Type} {o : Option α} {k : α → Cm β} {Q : β → Prop} {W : DX} (h : (opt o k).sat Q W) : ∃ a, o = some a ∧ (k a).sat Q W := by
  cases o with
  | none => exact h.elim
  | some a => exact ⟨a, rfl, h⟩
theorem req_sat {β : Type} {c : Prop} [Decidable c] {k : Cm β} {Q : β → Prop} {W : DX} (h : (req c k).sat Q W) : c ∧ k.sat Q W := by
  unfold req at h
  split at h
  · exact ⟨‹c›, h⟩
  · exact h.elim
section
variable {X : Cx} {n m k : Nat} {a b c e : Expr} {es : List Expr} {pos : Pos} {fa fb fc : EE} {ga gb : ET} {ra : EA}
theorem fe_var {i : Nat} (h : PE X e (tVar i)) : DE X 0 e (tE (eVar i)) := (de_var h).imp fun ρ Q W t => by
  unfold tE eVar at t; unfold dVar
  cases h : ρ[i]? with
  | none => simp only [h] at t ⊢; exact t
  | some s => cases s <;> simp only [h] at t ⊢ <;> exact t
theorem fe_move {i : Nat} (h : PE X e (tVar i)) : DE X 0 e (tE (eMove i)) := (de_move h).imp fun ρ Q W t => by
  unfold tE eMove at t; unfold dMove
  cases h : ρ[i]? with
  | none => simp only [h] at t ⊢; exact t
  | some s => cases s <;> simp only [h] at t ⊢ <;> exact t
theorem fe_int {i : Int} {j : Nat} : DE X 0 (.Constant (.int i) j pos) (tE (eC (.int i))) := de_int
theorem fe_str {x : Str} {j : Nat} (h : SOk x := by decide +kernel) : DE X 0 (.Constant (.str x) j pos) (tE (eC (.str x))) := de_str h
theorem fe_bl {x : Bool} {j : Nat} : DE X 0 (.Constant (.bool x) j pos) (tE (eC (.bl x))) := de_bl
theorem fe_non {j : Nat} : DE X 0 (.Constant .none j pos) (tE (eC .non)) := de_non
theorem fa_nil : DA X 0 [] (tA aNil) := da_nil
theorem fa_cons (ha : DE X n e (tE fa)) (hr : DA X m es (tA ra)) (hs : starEach (e :: es) X.env = (false, eval e X.env) :: starEach es X.env := by rfl) : DA X (n + m) (e :: es) (tA (aCons fa ra)) :=
  (da_cons ha hr hs).imp fun ρ Q W t => (sat_bind.mp t).imp fun p t => (sat_bind.mp t).imp fun q t => t
theorem fv_nil : DV X 0 [] (tV vNil) := dv_nil
theorem fv_cons {rv : EV} (ha : DE X n e (tE fa)) (hr : DV X m es (tV rv)) (hs : starEach (e :: es) X.env = (false, eval e X.env) :: starEach es X.env := by rfl) : DV X (n + m) (e :: es) (tV (vCons fa rv)) :=
  (dv_cons ha hr hs).imp fun ρ Q W t => (sat_bind.mp t).imp fun p t => (sat_bind.mp t).imp fun q t => t
theorem fe_tup {x1} (h : DA X n es (tA ra)) : DE X n (.Tuple es x1 pos) (tE (eTup ra)) := (de_tup h).imp fun ρ Q W t => (sat_bind.mp t).imp fun p t => req_sat t
theorem fe_lst (h : DA X n es (tA ra)) : DE X n (.List es pos) (tE (eLst ra)) := (de_lst h).imp fun ρ Q W t => (sat_bind.mp t).imp fun p t => req_sat t
theorem fe_op {op : Operator} {f : List D → Option Vd} (ho : OpD X (binaryOp op) f) (ha : DE X n a (tE fa)) (hb : DE X m b (tE fb)) : DE X (n + m) (.BinOp a op b pos) (tE (eOp2 f fa fb)) :=
  (de_op ho ha hb).imp fun ρ Q W t => (sat_bind.mp t).imp fun p t => (sat_bind.mp t).imp fun q t => opt_sat t
theorem fe_un {op : UnaryOp} {f : List D → Option Vd} (ho : UnD X (unaryOp op) f) (ha : DE X n a (tE fa)) : DE X n (.UnaryOp op a pos) (tE (eOp1 f fa)) :=
  (de_un ho ha).imp fun ρ Q W t => (sat_bind.mp t).imp fun p t => opt_sat t
theorem fe_cmp {op : CmpOp} {f : List D → Option Vd} (ho : OpD X (compareOp op) f) (ha : DE X n a (tE fa)) (hb : DE X m b (tE fb)) (hm : behindInMarks op b = false) : DE X (n + m) (.Compare a [op] [b] pos) (tE (eOp2 f fa fb)) :=
  (de_cmp ho ha hb hm).imp fun ρ Q W t => (sat_bind.mp t).imp fun p t => (sat_bind.mp t).imp fun q t => opt_sat t
theorem fe_callB {id : String} {x : Str} {p : Pos} {f : List D → Option Vd} (ho : CallD X (.builtin id) f) (hg : Gl X x) (hm : X.mg x = none) (hv : bootBuiltins x = some (.builtin id)) (ha : DA X n (e :: es) (tA ra))
    (hn : x ≠ "__name__" := by decide) (hdb : (x == ("__debug__" : Str)) = false := by decide) (he : starEach (e :: es) X.env = (false, eval e X.env) :: starEach es X.env := by rfl) (hpl : (backTo pos (starEach es X.env)).any (·.1) = false := by rfl) :
    DE X n (.Call (.Name x p) (e :: es) [] pos) (tE (eOpN f ra)) := (de_callB ho hg hm hv ha hn hdb he hpl).imp fun ρ Q W t => (sat_bind.mp t).imp fun p t => opt_sat t
theorem fe_callTy {id : String} {x : Str} {p : Pos} {f : List D → Option Vd} (ho : CallD X (.type id) f) (hg : Gl X x) (hm : X.mg x = none) (hv : bootBuiltins x = some (.type id)) (ha : DA X n (e :: es) (tA ra))
    (hn : x ≠ "__name__" := by decide) (hdb : (x == ("__debug__" : Str)) = false := by decide) (he : starEach (e :: es) X.env = (false, eval e X.env) :: starEach es X.env := by rfl) (hpl : (backTo pos (starEach es X.env)).any (·.1) = false := by rfl) :
    DE X n (.Call (.Name x p) (e :: es) [] pos) (tE (eOpN f ra)) := (de_callTy ho hg hm hv ha hn hdb he hpl).imp fun ρ Q W t => (sat_bind.mp t).imp fun p t => opt_sat t
theorem test_sat {p : Vd × Rho} {Q : Bool → Rho → Prop} {W : DX} (t : (opt (asBl p.1.d) fun b => .ret (b, p.2)).sat (fun q : Bool × Rho => Q q.1 q.2) W) : ∃ b, p.1.d = .bl b ∧ Q b p.2 := by
  obtain ⟨b, e, t⟩ := opt_sat t
  exact ⟨b, asBl_some e, t⟩
theorem ft_cmp {op : CmpOp} {f : List D → Option Vd} (ho : OpD X (compareOp op) f) (ha : DE X n a (tE fa)) (hb : DE X m b (tE fb)) (hm : behindInMarks op b = false) : DT X (n + m) (.Compare a [op] [b] pos) (tT (eTest (eOp2 f fa fb))) :=
  (dt_cmp ho ha hb hm).imp fun ρ Q W t => (sat_bind.mp (sat_bind.mp t)).imp fun p t => (sat_bind.mp t).imp fun q t => by
    obtain ⟨z, e, t⟩ := opt_sat t
    exact ⟨z, e, test_sat t⟩
theorem ft_val (ha : DE X n e (tE fa)) (he : ∀ whole, isTrue e X.env whole = (do let v ← whole; standAt e.pos; holding [v] (truthy v)) := by intro _; rfl) : DT X n e (tT (eTest fa)) :=
  (dt_val ha he).imp fun ρ Q W t => (sat_bind.mp t).imp fun p t => test_sat t
theorem fw_and1 (ha : DT X n a (tT ga)) : DWt X n (.BoolOp .And [a] pos) (tT ga) := dw_and1 ha
theorem fw_or1 (ha : DT X n a (tT ga)) : DWt X n (.BoolOp .Or [a] pos) (tT ga) := dw_or1 ha
theorem fw_and (ha : DT X n a (tT ga)) (hb : DWt X m (.BoolOp .And (b :: es) pos) (tT gb)) : DWt X (n + m) (.BoolOp .And (a :: b :: es) pos) (tT (eAnd ga gb)) :=
  (dw_and ha hb).imp fun ρ Q W t => (sat_bind.mp t).imp fun p t => ite_sat.mp t
theorem fw_or (ha : DT X n a (tT ga)) (hb : DWt X m (.BoolOp .Or (b :: es) pos) (tT gb)) : DWt X (n + m) (.BoolOp .Or (a :: b :: es) pos) (tT (eOr ga gb)) :=
  (dw_or ha hb).imp fun ρ Q W t => (sat_bind.mp t).imp fun p t => ite_sat.mp t
theorem ft_not (ha : DT X n a (tT ga)) : DT X n (.UnaryOp .Not a pos) (tT (eNot ga)) := (dt_not ha).imp fun ρ Q W t => (sat_bind.mp t).imp fun p t => t
theorem fe_one {op} (h : DE X n a (tE fa)) : DE X n (.BoolOp op [a] pos) (tE fa) := de_one h
theorem fe_and (ha : DE X n a (tE fa)) (hb : DE X m (.BoolOp .And (b :: es) pos) (tE fb)) : DE X (n + m) (.BoolOp .And (a :: b :: es) pos) (tE (eAndV fa fb)) :=
  (de_and ha hb).imp fun ρ Q W t => (sat_bind.mp t).imp fun p t => by
    obtain ⟨c, e, t⟩ := opt_sat t
    exact ⟨c, asBl_some e, ite_sat.mp t⟩
theorem fe_or (ha : DE X n a (tE fa)) (hb : DE X m (.BoolOp .Or (b :: es) pos) (tE fb)) : DE X (n + m) (.BoolOp .Or (a :: b :: es) pos) (tE (eOrV fa fb)) :=
  (de_or ha hb).imp fun ρ Q W t => (sat_bind.mp t).imp fun p t => by
    obtain ⟨c, e, t⟩ := opt_sat t
    exact ⟨c, asBl_some e, ite_sat.mp t⟩
theorem fe_not (ha : DE X n a (tE fa)) : DE X n (.UnaryOp .Not a pos) (tE (eNotV fa)) := (de_not ha).imp fun ρ Q W t => (sat_bind.mp t).imp fun p t => by
  obtain ⟨c, e, t⟩ := opt_sat t
  exact ⟨c, asBl_some e, t⟩
theorem fe_ifE (hc : DT X k e (tT ga)) (ha : DE X n a (tE fa)) (hb : DE X m b (tE fb)) : DE X (k + max n m) (.IfExp e a b pos) (tE (eIfE ga fa fb)) :=
  (de_ifE hc ha hb).imp fun ρ Q W t => (sat_bind.mp t).imp fun p t => ite_sat.mp t
theorem chain_sat {f g : List D → Option Vd} {ρ : Rho} {Q : Vd → Rho → Prop} {W : DX} (t : (eChain f g fa fb fc ρ).sat (fun p => Q p.1 p.2) W) : dChain f g (tE fa) (tE fb) (tE fc) ρ Q W :=
  (sat_bind.mp t).imp fun p t => (sat_bind.mp t).imp fun q t => by
    obtain ⟨z, e, t⟩ := opt_sat t
    obtain ⟨b, e2, t⟩ := opt_sat t
    refine ⟨b, ?_, ?_⟩
    · rw [e, asBlV_some e2]
    · have t := ite_sat.mp t
      split at t
      · rename_i h
        rw [if_pos h]
        exact (sat_bind.mp t).imp fun r t => opt_sat t
      · rename_i h
        rw [if_neg h]
        exact t
theorem ft_chain {op op' : CmpOp} {f g : List D → Option Vd} (ho : OpD X (compareOp op) f) (ho' : OpD X (compareOp op') g) (ha : DE X n a (tE fa)) (hb : DE X m b (tE fb)) (hc : DE X k c (tE fc))
    (hm : lastMarks [op, op'] [b, c] = false := by with_unfolding_all rfl) : DT X (n + m + k) (.Compare a [op, op'] [b, c] pos) (tT (eTest (eChain f g fa fb fc))) := (dt_chain ho ho' ha hb hc hm).imp fun ρ Q W t =>
  chain_sat (Q := fun x ρ1 => ∃ b, x.d = .bl b ∧ Q b ρ1) ((sat_bind.mp t).imp fun p t => test_sat t)
end
end DL
set_option Elab.async false
set_option linter.all false
set_option maxRecDepth 100000
set_option maxHeartbeats 4000000
namespace DL
open PySem L2 PyProof.Rows
section
variable {fa fb fc : EE} {ga gb : ET} {ra rb : EA} {ρ : Rho} {W : DX} {Q : Vd → Rho → Prop} {f : List D → Option Vd}
theorem im_op1 (t : tE (eOp1 f fa) ρ Q W) : dOp1 f (tE fa) ρ Q W := (sat_bind.mp t).imp fun p t => opt_sat t
theorem im_op2 (t : tE (eOp2 f fa fb) ρ Q W) : dOp2 f (tE fa) (tE fb) ρ Q W := (sat_bind.mp t).imp fun p t => (sat_bind.mp t).imp fun q t => opt_sat t
/-! slices -/
@[simp] def oNone : EO := fun ρ => .ret (none, ρ)
@[simp] def asInt : D → Option Int
  | .int i => some i
  | _ => none
theorem asInt_some {d : D} {b : Int} (h : asInt d = some b) : d = .int b := by cases d <;> simp [asInt] at h; rw [h]
@[simp] def oSome (a : EE) : EO := fun ρ => (a ρ).bind fun p => opt (asInt p.1.d) fun i => .ret (some i, p.2)
theorem im_oSome {Q : Option Int → Rho → Prop} (t : tO (oSome fa) ρ Q W) : dPart (tE fa) ρ Q W := (sat_bind.mp t).imp fun p t => by
  obtain ⟨i, e, t⟩ := opt_sat t
  exact ⟨i, asInt_some e, t⟩
@[simp] def eSl (a : EE) (lo hi : EO) : EE := fun ρ => (a ρ).bind fun p => (lo p.2).bind fun q => (hi q.2).bind fun r => opt (fSl p.1.d q.1 r.1) fun z => .ret (z, r.2)
theorem im_sl {lo hi : EO} (t : tE (eSl fa lo hi) ρ Q W) : dSl (tE fa) (tO lo) (tO hi) ρ Q W := (sat_bind.mp t).imp fun p t => (sat_bind.mp t).imp fun q t => (sat_bind.mp t).imp fun r t => opt_sat t
/-! a list of one's own -/
@[simp] def asOw : Option Slot → Option (List D)
  | some (.ow (.lst xs)) => some xs
  | _ => none
theorem asOw_some {s : Option Slot} {xs : List D} (h : asOw s = some xs) : s = some (.ow (.lst xs)) := by
  unfold asOw at h
  split at h
  · cases h; rfl
  · cases h
@[simp] def eMut (i : Nat) (f : List D → List D → Option (D × List D)) (a : EA) : EE := fun ρ => opt (asOw ρ[i]?) fun _ => (a ρ).bind fun p => opt (asOw p.2[i]?) fun xs => opt (f p.1 xs) fun r => .ret (.sh r.1, p.2.set i (.ow (.lst r.2)))
theorem im_mut {i : Nat} {f : List D → List D → Option (D × List D)} (t : tE (eMut i f ra) ρ Q W) : dMut i f (tA ra) ρ Q W := by
  obtain ⟨xs, e, t⟩ := opt_sat t
  refine ⟨⟨xs, asOw_some e⟩, (sat_bind.mp t).imp fun p t => ?_⟩
  obtain ⟨xs, e, t⟩ := opt_sat t
  obtain ⟨r, e2, t⟩ := opt_sat t
  exact ⟨xs, r.1, r.2, asOw_some e, e2, t⟩
@[simp] def eIxO (i : Nat) (a : EE) : EE := fun ρ => opt (asOw ρ[i]?) fun _ => (a ρ).bind fun p => opt (asOw p.2[i]?) fun xs => opt (asInt p.1.d) fun q => opt (atI xs q) fun d => .ret (.sh d, p.2)
theorem im_ixO {i : Nat} (t : tE (eIxO i fa) ρ Q W) : dIxO i (tE fa) ρ Q W := by
  obtain ⟨xs, e, t⟩ := opt_sat t
  refine ⟨⟨xs, asOw_some e⟩, (sat_bind.mp t).imp fun p t => ?_⟩
  obtain ⟨xs, e, t⟩ := opt_sat t
  obtain ⟨q, e2, t⟩ := opt_sat t
  obtain ⟨d, e3, t⟩ := opt_sat t
  exact ⟨xs, q, d, asOw_some e, asInt_some e2, e3, t⟩
/-! lending -/
@[simp] def eBor (is : List Nat) (a : EE) : EE := fun ρ => (a (lendR is 0 ρ)).noex.bind fun p => req (p.1.imm = true) (.ret (p.1, ρ))
theorem im_bor {is : List Nat} (t : tE (eBor is fa) ρ Q W) : dBor is (tE fa) ρ Q W := noex_sat ((sat_bind.mp t).imp fun p t => req_sat t)
@[simp] def eBorT (is : List Nat) (a : ET) : ET := fun ρ => (a (lendR is 0 ρ)).noex.bind fun p => .ret (p.1, ρ)
@[simp] def aBor (is : List Nat) (a : EA) : EA := fun ρ => (a (lendR is 0 ρ)).noex.bind fun p => req (D.imms p.1 = true) (.ret (p.1, ρ))
/-! calls -/
def Cm.at {α : Type} (ρ : Rho) : Cm α → Cm (α × Rho)
  | .ret a => .ret (a, ρ)
  | .exc x _ => .exc x ρ
  | .draw n k => .draw n fun i => (k i).at ρ
  | .bad => .bad
@[simp] theorem at_ret {α : Type} {ρ : Rho} {a : α} : (Cm.ret a).at ρ = .ret (a, ρ) := rfl
@[simp] theorem at_exc {α : Type} {ρ ρ' : Rho} {x : XD} : (Cm.exc x ρ' : Cm α).at ρ = .exc x ρ := rfl
theorem at_sat {α : Type} {m : Cm α} {Q : α × Rho → Prop} : (m.at ρ).sat Q W ↔ m.sat (fun a => Q (a, ρ)) (fun x _ => W x ρ) := by
  induction m with
  | ret a => rfl
  | exc x ρ => rfl
  | draw n k ih => exact ⟨fun h i h0 h1 => (ih i).mp (h i h0 h1), fun h i h0 h1 => (ih i).mpr (h i h0 h1)⟩
  | bad => rfl
@[simp] def eCall (f : FN) (dd : List D) (a : EA) : EE := fun ρ => (a ρ).bind fun p => (f (p.1 ++ dd)).at p.2
theorem im_call {f : FN} {dd : List D} (t : tE (eCall f dd ra) ρ Q W) : dCall (tF f) dd (tA ra) ρ Q W := (sat_bind.mp t).imp fun p t => at_sat.mp t
@[simp] def eCallN (np nk : Nat) (f : FN) (a b : EA) : EE := fun ρ => (a ρ).bind fun p => (b p.2).bind fun q => req (p.1.length = np ∧ q.1.length = nk) ((f (p.1 ++ q.1)).at q.2)
@[simp] def eMake (C : Addr) (f : FI) (dd : List D) (a : EA) : EE := fun ρ => (a ρ).bind fun p => ((f (p.1 ++ dd)).at p.2).bind fun q => .ret (.sh (.ins C q.1.1 q.1.2), q.2)
@[simp] def asIns (C : Addr) : D → Option (List Str × List D)
  | .ins C' ns vs => if C' = C then some (ns, vs) else none
  | _ => none
theorem asIns_some {C : Addr} {d : D} {p : List Str × List D} (h : asIns C d = some p) : d = .ins C p.1 p.2 := by
  cases d with
  | ins C' ns vs =>
    simp only [asIns] at h
    split at h
    · rename_i e; subst e; cases h; rfl
    · cases h
  | _ => cases h
@[simp] def eMeth (C : Addr) (mn : Str) (f : FN) (dd : List D) (o : EE) (a : EA) : EE := fun ρ => (o ρ).bind fun p => opt (asIns C p.1.d) fun i => req (mn ∉ i.1) ((a p.2).bind fun q => (f (p.1.d :: (q.1 ++ dd))).at q.2)
theorem im_meth {C : Addr} {mn : Str} {f : FN} {dd : List D} (t : tE (eMeth C mn f dd fa ra) ρ Q W) : dMeth C mn (tF f) dd (tE fa) (tA ra) ρ Q W := (sat_bind.mp t).imp fun p t => by
  obtain ⟨i, e, t⟩ := opt_sat t
  obtain ⟨h, t⟩ := req_sat t
  exact ⟨i.1, i.2, asIns_some e, h, (sat_bind.mp t).imp fun q t => at_sat.mp t⟩
@[simp] def eFld (C : Addr) (f : Str) (a : EE) : EE := fun ρ => (a ρ).bind fun p => opt (asIns C p.1.d) fun i => opt (lookF f i.1 i.2) fun d => .ret (.sh d, p.2)
theorem im_fld {C : Addr} {f : Str} (t : tE (eFld C f fa) ρ Q W) : dFld C f (tE fa) ρ Q W := (sat_bind.mp t).imp fun p t => by
  obtain ⟨i, e, t⟩ := opt_sat t
  obtain ⟨d, e2, t⟩ := opt_sat t
  exact ⟨i.1, i.2, d, asIns_some e, e2, t⟩
@[simp] def asOb (C : Addr) : Option Slot → Option (Addr × List Str × List D)
  | some (.ob x C' ns vs) => if C' = C then some (x, ns, vs) else none
  | _ => none
theorem asOb_some {C : Addr} {s : Option Slot} {p : Addr × List Str × List D} (h : asOb C s = some p) : s = some (.ob p.1 C p.2.1 p.2.2) := by
  unfold asOb at h
  split at h
  · split at h
    · rename_i e; subst e; cases h; rfl
    · cases h
  · cases h
@[simp] def eFldO (i : Nat) (C : Addr) (f : Str) : EE := fun ρ => opt (asOb C ρ[i]?) fun p => opt (lookF f p.2.1 p.2.2) fun d => .ret (.sh d, ρ)
theorem im_fldO {i : Nat} {C : Addr} {f : Str} (t : tE (eFldO i C f) ρ Q W) : dFldO i C f ρ Q W := by
  obtain ⟨p, e, t⟩ := opt_sat t
  obtain ⟨d, e2, t⟩ := opt_sat t
  exact ⟨p.1, p.2.1, p.2.2, d, asOb_some e, e2, t⟩
@[simp] def eDictE : EE := fun ρ => .ret (.nw (.dct false [] []), ρ)
/-! what is walked -/
@[simp] def iItems (a : EE) : EA := fun ρ => (a ρ).bind fun p => opt (itemsOf p.1.d) fun ds => .ret (ds, p.2)
theorem im_items {Q : List D → Rho → Prop} (t : tI (iItems fa) ρ Q W) : dItems (tE fa) ρ Q W := (sat_bind.mp t).imp fun p t => opt_sat t
@[simp] def asStr : D → Option Str
  | .str i => some i
  | _ => none
theorem asStr_some {d : D} {b : Str} (h : asStr d = some b) : d = .str b := by cases d <;> simp [asStr] at h; rw [h]
@[simp] def iSigns (a : EE) : EA := fun ρ => (a ρ).bind fun p => opt (asStr p.1.d) fun x => .ret (signsD x, p.2)
theorem im_signs {Q : List D → Rho → Prop} (t : tI (iSigns fa) ρ Q W) : dSigns (tE fa) ρ Q W := (sat_bind.mp t).imp fun p t => by
  obtain ⟨x, e, t⟩ := opt_sat t
  exact ⟨x, asStr_some e, t⟩
@[simp] def one1 : List D → Option D
  | [x] => some x
  | _ => none
@[simp] def two2 : List D → Option (D × D)
  | [x, y] => some (x, y)
  | _ => none
theorem one1_some {ds : List D} {x : D} (h : one1 ds = some x) : ds = [x] := by
  match ds, h with
  | [y], h => cases h; rfl
theorem two2_some {ds : List D} {x : D × D} (h : two2 ds = some x) : ds = [x.1, x.2] := by
  match ds, h with
  | [y, z], h => cases h; rfl
@[simp] def iRng1 (a : EA) : EA := fun ρ => (a ρ).bind fun p => opt (one1 p.1) fun x => opt (asInt x) fun j => req (j.toNat ≤ sizeLine ∧ -(2 ^ 62) ≤ j) (.ret (rangeD 0 j.toNat, p.2))
theorem im_rng1 {Q : List D → Rho → Prop} (t : tI (iRng1 ra) ρ Q W) : dRng1 (tA ra) ρ Q W := (sat_bind.mp t).imp fun p t => by
  obtain ⟨x, e, t⟩ := opt_sat t
  obtain ⟨j, e2, t⟩ := opt_sat t
  obtain ⟨h, t⟩ := req_sat t
  exact ⟨j, by rw [one1_some e, asInt_some e2], h.1, h.2, t⟩
@[simp] def iRng2 (a : EA) : EA := fun ρ => (a ρ).bind fun p => opt (two2 p.1) fun x => opt (asInt x.1) fun i => opt (asInt x.2) fun j => req ((j - i).toNat ≤ sizeLine ∧ (-(2 ^ 62) ≤ i ∧ i < 2 ^ 62 ∧ -(2 ^ 62) ≤ j ∧ j < 2 ^ 62)) (.ret (rangeD i (j - i).toNat, p.2))
theorem im_rng2 {Q : List D → Rho → Prop} (t : tI (iRng2 ra) ρ Q W) : dRng2 (tA ra) ρ Q W := (sat_bind.mp t).imp fun p t => by
  obtain ⟨x, e, t⟩ := opt_sat t
  obtain ⟨i, e2, t⟩ := opt_sat t
  obtain ⟨j, e3, t⟩ := opt_sat t
  obtain ⟨h, t⟩ := req_sat t
  exact ⟨i, j, by rw [two2_some e, asInt_some e2, asInt_some e3], h.1, h.2, t⟩
@[simp] def iEnum (a : EA) : EA := fun ρ => (a ρ).bind fun p => opt (one1 p.1) fun x => opt (itemsOf x) fun xs => .ret (enumD 0 xs, p.2)
theorem im_enum {Q : List D → Rho → Prop} (t : tI (iEnum ra) ρ Q W) : dEnum (tA ra) ρ Q W := (sat_bind.mp t).imp fun p t => by
  obtain ⟨x, e, t⟩ := opt_sat t
  obtain ⟨xs, e2, t⟩ := opt_sat t
  exact ⟨x, xs, one1_some e, e2, t⟩
@[simp] def iZip (a : EA) : EA := fun ρ => (a ρ).bind fun p => opt (two2 p.1) fun x => opt (itemsOf x.1) fun xs => opt (itemsOf x.2) fun ys => .ret (zipD xs ys, p.2)
theorem im_zip {Q : List D → Rho → Prop} (t : tI (iZip ra) ρ Q W) : dZip (tA ra) ρ Q W := (sat_bind.mp t).imp fun p t => by
  obtain ⟨x, e, t⟩ := opt_sat t
  obtain ⟨xs, e2, t⟩ := opt_sat t
  obtain ⟨ys, e3, t⟩ := opt_sat t
  exact ⟨x.1, x.2, xs, ys, two2_some e, e2, e3, t⟩
end
/-! ### targets -/
@[simp] def gN (i : Nat) : EG := fun d ρ => some (ρ.set i (.sh d))
@[simp] def gsN : EGs := fun ds ρ => match ds with
  | [] => some ρ
  | _ => none
@[simp] def gsC (g : EG) (gs : EGs) : EGs := fun ds ρ => match ds with
  | d :: r => (g d ρ).bind fun ρ1 => gs r ρ1
  | [] => none
@[simp] def gT (gs : EGs) : EG := fun d ρ => match d with
  | .tup ds => gs ds ρ
  | _ => none
section
variable {ρ : Rho} {Q : Rho → Prop} {d : D} {ds : List D} {g : EG} {gs : EGs} {i : Nat}
theorem im_gN (t : tG (gN i) d ρ Q) : gNm i d ρ Q := by
  obtain ⟨ρ', e, q⟩ := t
  cases e
  exact q
theorem im_gsN (t : tGs gsN ds ρ Q) : gsNil ds ρ Q := by
  obtain ⟨ρ', e, q⟩ := t
  cases ds with
  | nil => cases e; exact ⟨rfl, q⟩
  | cons d r => cases e
theorem im_gsC (t : tGs (gsC g gs) ds ρ Q) : gsCons (tG g) (tGs gs) ds ρ Q := by
  obtain ⟨ρ', e, q⟩ := t
  cases ds with
  | nil => cases e
  | cons d r =>
    simp only [gsC, Option.bind_eq_some_iff] at e
    obtain ⟨ρ1, e1, e2⟩ := e
    exact ⟨d, r, rfl, ρ1, e1, ρ', e2, q⟩
theorem im_gT (t : tG (gT gs) d ρ Q) : gTp (tGs gs) d ρ Q := by
  obtain ⟨ρ', e, q⟩ := t
  cases d with
  | tup ds => exact ⟨ds, rfl, ρ', e, q⟩
  | _ => cases e
end
/-! ### statements -/
@[simp] def eSkip : ES := fun ρ => .ret (.nx ρ)
@[simp] def eSeq (f g : ES) : ES := fun ρ => (f ρ).bind fun o => match o with
  | .nx ρ1 => g ρ1
  | .rt v => .ret (.rt v)
  | .bk ρ1 => .ret (.bk ρ1)
  | .ct ρ1 => .ret (.ct ρ1)
@[simp] def eBrk : ES := fun ρ => .ret (.bk ρ)
@[simp] def eCnt : ES := fun ρ => .ret (.ct ρ)
@[simp] def eNever : ES := fun _ => .bad
@[simp] def eRet (a : EE) : ES := fun ρ => (a ρ).bind fun p => .ret (.rt p.1)
@[simp] def eRetN : ES := fun _ => .ret (.rt (.sh .non))
@[simp] def eDrop (a : EE) : ES := fun ρ => (a ρ).bind fun p => .ret (.nx p.2)
@[simp] def eIf (c : ET) (f g : ES) : ES := fun ρ => (c ρ).bind fun p => if p.1 = true then f p.2 else g p.2
@[simp] def eSet (i : Nat) (a : EE) : ES := fun ρ => (a ρ).bind fun p => .ret (.nx (p.2.set i p.1.slot))
@[simp] def eAsg (g : EG) (a : EE) : ES := fun ρ => (a ρ).bind fun p => opt (g p.1.d p.2) fun ρ1 => .ret (.nx ρ1)
@[simp] def two2V : List Vd → Option (Vd × Vd)
  | [x, y] => some (x, y)
  | _ => none
@[simp] def three3V : List Vd → Option (Vd × Vd × Vd)
  | [x, y, z] => some (x, y, z)
  | _ => none
@[simp] def ePar2 (i j : Nat) (v : EV) : ES := fun ρ => (v ρ).bind fun p => opt (two2V p.1) fun r => .ret (.nx ((p.2.set i r.1.slot).set j r.2.slot))
@[simp] def ePar3 (i j l : Nat) (v : EV) : ES := fun ρ => (v ρ).bind fun p => opt (three3V p.1) fun r => .ret (.nx (((p.2.set i r.1.slot).set j r.2.1.slot).set l r.2.2.slot))
@[simp] def eStoreIx (i : Nat) (a b : EE) : ES := fun ρ => (a ρ).bind fun p => opt (asOw p.2[i]?) fun _ => (b p.2).bind fun q => opt (asOw q.2[i]?) fun xs => opt (asInt q.1.d) fun j => opt (ixN xs.length j) fun k => .ret (.nx (q.2.set i (.ow (.lst (xs.set k p.1.d)))))
@[simp] def eSetF (i : Nat) (C : Addr) (f : Str) (a : EE) : ES := fun ρ => (a ρ).bind fun p => opt (asOb C p.2[i]?) fun o => req (o.2.2.length < 1000) (.ret (.nx (p.2.set i (.ob o.1 C (putD f p.1.d o.2.1 o.2.2).1 (putD f p.1.d o.2.1 o.2.2).2))))
section
variable {f g : ES} {a b : EE} {c : ET} {v : EV} {D : DEnds} {W : DX} {ρ : Rho} {i j l : Nat}
theorem im_seq (t : tS (eSeq f g) D W ρ) : dSeq (tS f) (tS g) D W ρ := (sat_bind.mp t).imp fun o t => by cases o <;> exact t
theorem im_ret (t : tS (eRet a) D W ρ) : dRet (tE a) D W ρ := (sat_bind.mp t).imp fun p t => t
theorem im_drop (t : tS (eDrop a) D W ρ) : dDrop (tE a) D W ρ := (sat_bind.mp t).imp fun p t => t
theorem im_if (t : tS (eIf c f g) D W ρ) : dIf (tT c) (tS f) (tS g) D W ρ := (sat_bind.mp t).imp fun p t => ite_sat.mp t
theorem im_set (t : tS (eSet i a) D W ρ) : dSet i (tE a) D W ρ := (sat_bind.mp t).imp fun p t => t
theorem im_asg {g : EG} (t : tS (eAsg g a) D W ρ) : dAsg (tG g) (tE a) D W ρ := (sat_bind.mp t).imp fun p t => opt_sat t
theorem im_par2 (t : tS (ePar2 i j v) D W ρ) : dPar2 i j (tV v) D W ρ := (sat_bind.mp t).imp fun p t => by
  obtain ⟨r, e, t⟩ := opt_sat t
  refine ⟨r.1, r.2, ?_, t⟩
  match p.1, e with
  | [x, y], e => cases e; rfl
theorem im_storeIx (t : tS (eStoreIx i a b) D W ρ) : dStoreIx i (tE a) (tE b) D W ρ := (sat_bind.mp t).imp fun p t => by
  obtain ⟨xs, e, t⟩ := opt_sat t
  refine ⟨⟨xs, asOw_some e⟩, (sat_bind.mp t).imp fun q t => ?_⟩
  obtain ⟨xs, e, t⟩ := opt_sat t
  obtain ⟨j, e2, t⟩ := opt_sat t
  obtain ⟨k, e3, t⟩ := opt_sat t
  exact ⟨xs, j, k, asOw_some e, asInt_some e2, e3, t⟩
theorem im_setF {C : Addr} {f : Str} (t : tS (eSetF i C f a) D W ρ) : dSetF i C f (tE a) D W ρ := (sat_bind.mp t).imp fun p t => by
  obtain ⟨o, e, t⟩ := opt_sat t
  obtain ⟨h, t⟩ := req_sat t
  exact ⟨o.1, o.2.1, o.2.2, asOb_some e, h, t⟩
end
/-! ### what is no more looked at is forgotten -/
theorem Fr.forgets {G : Gh} {Z H : Hp} {ρ : Rho} {σ : L2.St} {c : Nat} (F : Fr G Z H ρ σ c) : ∀ vs : List Nat, Fr G Z H (wipeR ρ vs) σ c
  | [] => F
  | v :: vs => (F.forgets vs).forget v
def dForget (vs : List Nat) (t : DTS) : DTS := fun D W ρ => t { D with nx := fun ρ => D.nx (wipeR ρ vs), bk := fun ρ => D.bk (wipeR ρ vs), ct := fun ρ => D.ct (wipeR ρ vs) } W ρ
def dWipeI (vs : List Nat) (t : DTI) : DTI := fun ρ Q W => t ρ (fun ds ρ1 => Q ds (wipeR ρ1 vs)) W
section
variable {X : Cx} {n m : Nat} {st : Stmt} {sts : List Stmt} {t : DTS} {ti : DTI} {e tg : Expr}
theorem dss_forget (vs : List Nat) (h : DSs X n sts t) : DSs X n sts (dForget vs t) := fun G W tk => PSs.weak (h G W tk) fun D σ H ⟨Z, ρ, c, Dd, F, hc, t, k⟩ =>
  ⟨Z, ρ, c, _, F, hc, t, ⟨fun ρ1 σ1 Z1 H1 c1 z1 l1 q F1 => k.nx _ σ1 Z1 H1 c1 z1 l1 q (F1.forgets vs), fun ρ1 σ1 Z1 H1 c1 z1 l1 q F1 => k.bk _ σ1 Z1 H1 c1 z1 l1 q (F1.forgets vs), fun ρ1 σ1 Z1 H1 c1 z1 l1 q F1 => k.ct _ σ1 Z1 H1 c1 z1 l1 q (F1.forgets vs), k.rt⟩⟩
theorem di_wipe (vs : List Nat) (h : DI X n tg e ti) : DI X n tg e (dWipeI vs ti) := fun G W tk => PI.weak (h G W tk) fun σ H R ⟨Z, ρ, c, Qd, F, hc, t, k⟩ =>
  ⟨Z, ρ, c, _, F, hc, t, fun ds ρ1 Z1 H1 J c1 z1 l1 q F1 J1 => k ds _ Z1 H1 J c1 z1 l1 q (F1.forgets vs) J1⟩
end
/-! ### loops -/
def eForGo (g : EG) (b : ES) (vs : List Nat) : List D → Rho → Cm Out
  | [], ρ => .ret (.nx ρ)
  | d :: ds, ρ => opt (g d ρ) fun ρ1 => (b ρ1).bind fun o => match o with
    | .nx ρ2 => eForGo g b vs ds (wipeR ρ2 vs)
    | .ct ρ2 => eForGo g b vs ds (wipeR ρ2 vs)
    | .bk ρ2 => .ret (.nx (wipeR ρ2 vs))
    | .rt v => .ret (.rt v)
def eFor (it : EA) (g : EG) (b : ES) (vs : List Nat) : ES := fun ρ => (it ρ).bind fun p => eForGo g b vs p.1 (wipeR p.2 vs)
theorem for_sat {g : EG} {b : ES} {vs : List Nat} {De : DEnds} {W : DX} : ∀ {ds : List D} {ρ : Rho}, (eForGo g b vs ds ρ).sat (Out.sat De) W → dForGo (tG g) (dForget vs (tS b)) De W ds ρ
  | [], ρ, t => t
  | d :: ds, ρ, t => by
    unfold eForGo at t
    obtain ⟨ρ1, e, t⟩ := opt_sat t
    refine ⟨ρ1, e, (sat_bind.mp t).imp fun o t => ?_⟩
    cases o with
    | nx ρ2 => exact for_sat t
    | ct ρ2 => exact for_sat t
    | bk ρ2 => exact t
    | rt v => exact t
theorem fs_for {X : Cx} {n m : Nat} {e tg : Expr} {sts : List Stmt} {pos : Pos} {it : EA} {g : EG} {b : ES} {vs' : List Nat} (vs : List Nat) (hp : PassesOwn (model X.prog X.w) X.A X.env X.xe) (hc : X.calm = true) (hi : DI X n tg e (tI it)) (hg : DG X tg (tG g) vs') (hb : DSs X m sts (tS b)) (hs : ∀ x, foldedSetIterable e X.env x = pure x := by intro _; rfl) :
    DS X (n + sizeLine * m) (.For tg e sts [] pos) (tS (eFor it g b vs)) := (ds_for hp hc (di_wipe vs hi) hg (dss_forget vs hb) hs).imp fun D W ρ t => (sat_bind.mp t).imp fun p t => for_sat t
/-! ### comprehensions -/
/-- one turn: what is kept, and the slots behind -/
def eTurn (g : EG) (tt : ET) (te : EE) (vs : List Nat) (d : D) (ρ : Rho) : Cm (Option D × Rho) :=
  opt (g d ρ) fun ρ1 => ((tt ρ1).bind fun p => if p.1 = true then (te p.2).bind fun q => .ret (some q.1.d, wipeR q.2 vs) else .ret (none, wipeR p.2 vs)).noex
def eCompGo (g : EG) (tt : ET) (te : EE) (vs : List Nat) : List D → List D → Rho → Cm (Vd × Rho)
  | [], acc, ρ => .ret (.nw (.lst acc), ρ)
  | d :: ds, acc, ρ => (eTurn g tt te vs d ρ).bind fun p => eCompGo g tt te vs ds (acc ++ p.1.toList) p.2
@[simp] def eYes : ET := fun ρ => .ret (true, ρ)
def eComp (it : EA) (g : EG) (tt : ET) (te : EE) (vs : List Nat) : EE := fun ρ => (it ρ).bind fun p => eCompGo g tt te vs p.1 [] (wipeR p.2 vs)
theorem comp_sat {g : EG} {tt : ET} {te : EE} {vs : List Nat} {Q : Vd → Rho → Prop} {W : DX} : ∀ {ds acc : List D} {ρ : Rho}, (eCompGo g tt te vs ds acc ρ).sat (fun p => Q p.1 p.2) W → dCompGo (tG g) (tT tt) (tE te) vs Q ds acc ρ
  | [], acc, ρ, t => t
  | d :: ds, acc, ρ, t => by
    have t := sat_bind.mp t
    unfold eTurn at t
    obtain ⟨ρ1, e, t⟩ := opt_sat t
    refine ⟨ρ1, e, (sat_bind.mp (noex_sat (W' := noW) t)).imp fun p t => ?_⟩
    have t := ite_sat.mp t
    split at t
    · rename_i h
      show if p.1 = true then _ else _
      rw [if_pos h]
      exact (sat_bind.mp t).imp fun q t => comp_sat t
    · rename_i h
      show if p.1 = true then _ else _
      rw [if_neg h]
      have t' : (eCompGo g tt te vs ds (acc ++ []) (wipeR p.2 vs)).sat (fun p => Q p.1 p.2) W := t
      rw [List.append_nil] at t'
      exact comp_sat t'
theorem im_comp {it : EA} {g : EG} {tt : ET} {te : EE} {vs : List Nat} {ρ : Rho} {Q : Vd → Rho → Prop} {W : DX} (t : tE (eComp it g tt te vs) ρ Q W) : dComp (tI it) (tG g) (tT tt) (tE te) vs ρ Q W := (sat_bind.mp t).imp fun p t => comp_sat t
theorem im_setComp {i : Nat} {it : EA} {g : EG} {tt : ET} {te : EE} {vs : List Nat} {ρ : Rho} {D : DEnds} {W : DX} (t : tS (eSet i (eComp it g tt te vs)) D W ρ) : dSet i (dComp (tI it) (tG g) (tT tt) (tE te) vs) D W ρ := im_comp (im_set t)
/-! ### defs -/
@[simp] def Out.ret : Out → Cm Vd
  | .nx _ => .ret (.sh .non)
  | .rt v => .ret v
  | .bk _ => .bad
  | .ct _ => .bad
def runS (m : Cm Out) : Cm Vd := m.bind Out.ret
def startF (np nn : Nat) (ds : List D) : Rho := ds.map Slot.sh ++ List.replicate (nn - np) Slot.no
def defF (np nn : Nat) (b : ES) : FN := fun ds => req (ds.length = np) (runS (b (startF np nn ds)))
theorem run_sat {m : Cm Out} {Q : Vd → Prop} {W : DX} (t : (runS m).sat Q W) : m.sat (Out.sat { nx := fun _ => Q (.sh .non), rt := Q }) W := (sat_bind.mp t).imp fun o t => by cases o <;> exact t
theorem okF {P : Program} {w : World} {K : PySem.W.Frag} {mg : Str → Option Value} {base : Heap} {x qual : Str} {params : Arguments} {body : List Stmt} {scope : Scope} {dvs : List V} {kws : List (Str × V)} {f : Addr} {fd : FuncData} {N ps : List Str} {k n np nn : Nat} {b : ES}
    (Fn : FunD K x qual params body scope dvs kws f fd) (Sc : FnScope N ps scope) (hp : ps.length = np) (hN : N.length = nn)
    (h : ∀ (cdv : Value) (A : Around) (outer : List Env) (s : Shared) (H : Hp) (E : XK), Room k (A.deeper (envOfC qual scope s.heap.objs.size f cdv)) → DSs (cxOf (L2.CX P w) P w K mg base N qual scope f cdv A outer s H E) n body (tS b)) : FnOk P w K mg base (L2.CX P w) (k + 1) f fd ps (spD K n (tF (defF np nn b))) :=
  okD Fn Sc (fun ds Q W t => by rw [hp]; exact (req_sat t).1) ⟨tS b, h, fun ds Q W t => by
    obtain ⟨hl, t⟩ := req_sat t
    have e : startR N ds = startF np nn ds := by unfold startR startF; rw [hN, hl]
    rw [e]
    exact run_sat t⟩
/-! instances -/
@[simp] def Out.obj (C y : Addr) : Out → Option (List Str × List D)
  | .nx (.ob y' C' ns vs :: _) => if y' = y ∧ C' = C then some (ns, vs) else none
  | _ => none
theorem obj_some {C y : Addr} {o : Out} {p : List Str × List D} (h : Out.obj C y o = some p) : ∃ r, o = .nx (.ob y C p.1 p.2 :: r) := by
  unfold Out.obj at h
  split at h
  · split at h
    · rename_i e
      obtain ⟨rfl, rfl⟩ := e
      cases h
      exact ⟨_, rfl⟩
    · cases h
  · cases h
def startFI (C y : Addr) (np nn : Nat) (ds : List D) : Rho := Slot.ob y C [] [] :: (ds.map Slot.sh ++ List.replicate (nn - np) Slot.no)
def initF (C y : Addr) (np nn : Nat) (b : ES) : FI := fun ds => req (ds.length + 1 = np) ((b (startFI C y np nn ds)).bind fun o => opt (Out.obj C y o) fun p => .ret p)
end DL
set_option Elab.async false
set_option linter.all false
set_option maxRecDepth 100000
set_option maxHeartbeats 4000000
namespace DL
open PySem L2 PyProof.Rows
/-! ### errors of one's own: made and raised -/
def spX1 (C : Addr) (f : Str) : Sp := fun vs H Q _ => ∃ a v, vs = [.ref a, v] ∧ H a = some (exo a C none) ∧ ∀ dx, H dx = none → dx ≠ a → Q .non (upd (upd H dx (exd dx [(f, v)])) a (exo a C (some dx)))
section
variable {P : Program} {w : World} {K : PySem.W.Frag} {mg : Str → Option Value} {base : Heap} {x qual : Str} {params : Arguments} {body : List Stmt} {scope : Scope} {dvs : List V} {kws : List (Str × V)} {fI C : Addr} {fd : FuncData} {s y z f g : Str} {p1 p2 p3 p4 q1 q2 q3 q4 : Pos}
theorem okX1 (Fn : FunD K x qual params body scope dvs kws fI fd) (hb : body = [.Assign [.Attribute (.Name "self" p1) f p2] (.Name y p3) p4]) (Sc : FnScope ["self", y] ["self", y] scope) (T : OexC K C) (hno : PySem.W.findIn K (.ref C) f = some none)
    (h0 : ∀ (cdv : Value) (A : Around) (outer : List Env) (s : Shared) (H : Hp) (E : XK), PE (cxOf (L2.CX P w) P w K mg base ["self", y] qual scope fI cdv A outer s H E) (.Name "self" p1) (tVar 0))
    (h1 : ∀ (cdv : Value) (A : Around) (outer : List Env) (s : Shared) (H : Hp) (E : XK), PE (cxOf (L2.CX P w) P w K mg base ["self", y] qual scope fI cdv A outer s H E) (.Name y p3) (tVar 1)) : FnOk P w K mg base (L2.CX P w) 1 fI fd ["self", y] (spX1 C f) := by
  subst hb
  refine Fn.ok Sc (fun vs H Q E ⟨a, v, e, _⟩ => by rw [e]; rfl) fun cdv A outer s H vs Q E hr ⟨a, v, e, ha, hq⟩ => ?_
  subst e
  refine ⟨_, pss_one (ps_ost (h0 cdv A outer s H E) (h1 cdv A outer s H E)), ?_⟩
  exact ⟨v, rfl, .ref a, rfl, a, C, rfl, T, hno, .inl ⟨ha, fun dx e1 e2 => hq dx e1 e2⟩⟩
end
def dRaise (C : Addr) (ns : List Str) (ts : DTA) : DTS := fun _ W ρ => ts ρ (fun ds ρ1 => ds.length = ns.length ∧ W ⟨C, ns.reverse, ds.reverse⟩ ρ1) W
theorem xd_heap1 {H1 : Hp} {a C dx : Addr} {o1 o2 o3 : HO} (ha : H1 a = none) (ne : dx ≠ a) : upd (del (upd (upd (upd H1 a o1) dx o2) a o3) a) dx = upd H1 dx := by
  funext o b
  by_cases h1 : b = dx
  · subst h1; rw [upd_same, upd_same]
  · rw [upd_ne h1, upd_ne h1]
    by_cases h2 : b = a
    · subst h2; rw [del_same, ha]
    · rw [del_ne h2, upd_ne h2, upd_ne h1, upd_ne h2]
section
variable {X : Cx} {n k : Nat} {e e2 : Expr} {ts : DTA} {x f g : Str} {C fI : Addr} {fd : FuncData} {ps : List Str} {p pos pos' : Pos}
theorem raise_lw {G : Gh} {W : DX} {ρ : Rho} {σ : L2.St} {Z H : Hp} {c : Nat} {dx : Addr} {fs : List (Str × V)} {xd : XD} (F : Fr G Z H ρ σ c) (hc : c ≤ G.cm) (hd : H dx = none) (e1 : xd.ns = fs.map (·.1)) (rs : Reps G.S Z xd.vs (fs.map (·.2))) (w : W xd ρ) : LW G W (.ref xd.C) (some dx) σ (upd H dx (.xd fs)) :=
  ⟨upd Z dx (.xd fs), ρ, c, xd, F.new _ hd (fun y z => by cases z), hc, ⟨rfl, dx, fs, rfl, upd_same, e1, rs.mono (sub_upd (F.freeZ hd))⟩, w⟩
theorem ds_raise1 (T : OexC X.K C) (iC : PySem.W.findIn X.K (.ref C) "__init__" = some (some (.ref fI))) (tI : PySem.W.typeIn X.K (.ref fI) = some (.type "function")) (Fn : FnOk X.prog X.w X.K X.mg X.base (L2.CX X.prog X.w) k fI fd ps (spX1 C f)) (hr : Room (k + 1) X.A) (hb : Binds X.K fd ps []) (hc : X.calm = true)
    (hg : Gl X x) (hm : X.mg x = some (.ref C)) (ha : DA X n [e] ts) (hdb : (x == ("__debug__" : Str)) = false := by decide) (he : starEach [e] X.env = (false, eval e X.env) :: starEach [] X.env := by rfl) (hpl : (backTo pos (starEach [] X.env)).any (·.1) = false := by rfl) :
    DS X n (.Raise (some (.Call (.Name x p) [e] [] pos)) none pos') (dRaise C [f] ts) := fun G W tk =>
  PS.weak (ps_raise hc tk.tk (pmk_oex T iC tI Fn hr hb .nil (passes_call LamX.takes0 fun _ _ _ _ z => z) hg hm (ha G W tk) hdb he hpl)) fun D σ H ⟨Z, ρ, c, Dd, F, hcm, t, kk⟩ => by
    refine ⟨Z, ρ, c, _, F, hcm, t, fun ds ρ1 Z1 H1 vs c1 z1 l1 q F1 rs => ?_⟩
    obtain ⟨hl, q⟩ := q
    match ds, hl with
    | [d], _ =>
      obtain ⟨v, rfl, rv⟩ := rs.one
      refine ⟨by simp, fun a ha => ⟨a, v, rfl, upd_same, fun dx hdx ne => ⟨rfl, dx, [(f, v)], upd_same, by rw [upd_ne ne, upd_same], ?_, ?_⟩⟩⟩
      · rw [upd_ne ne] at hdx; exact hdx
      · rw [upd_ne ne] at hdx
        rw [xd_heap1 (C := C) ha ne]
        exact raise_lw (xd := ⟨C, [f], [d]⟩) F1 (by omega) hdx rfl (Reps.cons rv Reps.nil) q
@[simp] def eRaise (C : Addr) (ns : List Str) (a : EA) : ES := fun ρ => (a ρ).bind fun p => req (p.1.length = ns.length) (.exc ⟨C, ns.reverse, p.1.reverse⟩ p.2)
theorem im_raise {ns : List Str} {a : EA} {D : DEnds} {W : DX} {ρ : Rho} (t : tS (eRaise C ns a) D W ρ) : dRaise C ns (tA a) D W ρ := (sat_bind.mp t).imp fun p t => req_sat t
end
end DL
set_option Elab.async false
set_option linter.all false
set_option maxRecDepth 100000
set_option maxHeartbeats 4000000
namespace DL
open PySem L2 PyProof.Rows
/-! ### try: .., except A as n: .., except B as n: .. (each exception is caught by one of them) -/
/-- the exception at a stands caught in X's frame; sI: the state without it -/
structure Caught (X : Cx) (pins : List (Addr × Obj)) (σ : L2.St) (H : Hp) (a : Addr) (cls : Value) (d : Option Addr) (B : Heap) (sI s : Shared) : Prop where
  own : X.stack = X.env :: X.outer
  fr : X.env.frame = some X.env.locals
  was : L2.Inv X pins σ H sI
  ground : ∀ b o, sI.heap.get? b = some o → b ∉ frs X.stack → B.get? b = some o
  grew : sI.heap.UpToSlots s.heap
  free : H a = none
  os : s.os = sI.os
  bare : AllBare s.gens
  flies : HandSPX.FlyingZ B (X.env :: X.outer) a (Zc cls d) s.heap
section
variable {X : Cx} {pins : List (Addr × Obj)} {σ : L2.St} {H : Hp} {a : Addr} {cls c : Value} {d : Option Addr} {B : Heap} {sI s : Shared} {x n : Str} {i : Nat} {np pos : Pos}
theorem Caught.now (C : Caught X pins σ H a cls d B sI s) : L2.Inv X pins σ H s := C.was.landed C.ground C.flies.1 C.grew C.os C.bare
theorem Caught.moved (C : Caught X pins σ H a cls d B sI s) {h' : Heap} (fl : HandSPX.FlyingZ B (X.env :: X.outer) a (Zc cls d) h') (up : s.heap.UpToSlots h') : Caught X pins σ H a cls d B sI { s with heap := h' } :=
  ⟨C.own, C.fr, C.was, C.ground, C.grew.trans up, C.free, C.os, C.bare, fl⟩
/-- it is no frame -/
theorem Caught.noFrame (C : Caught X pins σ H a cls d B sI s) : a ∉ frs (X.env :: X.outer) := by
  intro m
  obtain ⟨oe, vs, here, _, fields⟩ := C.flies.there
  obtain ⟨_, o, there, not⟩ := C.flies.2.2.1.mem m
  exact not vs (by rw [here] at there; rw [← Option.some.inj there]; exact fields)
theorem Caught.suite (C : Caught X pins σ H a cls d B sI s) : ∃ oe, s.heap.get? a = some oe ∧ Zc cls d oe ∧ (∃ vs, oe.data = .fields vs) ∧ L2.Inv (X.suite a ((a, oe) :: (X.pn ++ pins))) [] σ H s := by
  obtain ⟨oe, vs, here, kind, fields⟩ := C.flies.there
  have notLocals : a ≠ X.env.locals := by
    rintro rfl
    exact C.noFrame (List.mem_filterMap.mpr ⟨X.env, by simp, C.fr⟩)
  have notOuter : a ∉ X.fs := by
    intro m
    obtain ⟨e, me, fe⟩ := List.mem_filterMap.mp m
    exact C.noFrame (List.mem_filterMap.mpr ⟨e, by simp [me], fe⟩)
  exact ⟨oe, here, kind, ⟨vs, fields⟩, C.now.suite here fields C.free notLocals notOuter⟩
/-- a clause's class is looked up and asked -/
theorem Caught.asks {R : Result → Shared → Prop} {b : Bool} (C : Caught X pins σ H a cls d B sI s) (nm : Names X x c) (m : PySem.W.exmOne X.K cls c = some b) (q : R (.ok (if b then .brk else .next)) s) :
    codeAny (model X.prog X.w) (X.A.mark (some (.ref a))) (.handlers (.ref a) [.ExceptHandler (some (.Name x np)) none [] pos] X.env) R s := by
  obtain ⟨oe, here, kind, _, su⟩ := C.suite
  have type : PySem.W.Looks (model X.prog X.w) s.heap (typeOf (.ref a)) cls := fun _ _ _ _ k z => wpAny_typeOf_ref (k a oe here) (by rw [kind.1]; exact z)
  have ans := PySem.W.exm_one (M := model X.prog X.w) C.now.kIn type m
  refine codeAny_handlers_test ?_
  obtain ⟨g, nd, glob | ⟨none, blt, nn⟩⟩ := nm
  · exact ld_glob (X := X.suite a ((a, oe) :: (X.pn ++ pins))) su g glob (ans.here q) nd
  · exact ld_blt (X := X.suite a ((a, oe) :: (X.pn ++ pins))) su g none blt (ans.here q) nn nd
end
/-- the wish of a row of clauses: the first that matches is run -/
def wClauses (K : PySem.W.Frag) (i : Nat) (D : Ends) : List (Value × (Addr → Value → Option Addr → TS)) → WX
  | [], _, _, _, _ => False
  | (c, ts) :: r, cls, d, σ, H => ∃ b, PySem.W.exmOne K cls c = some b ∧ if b = true then ∀ a, H a = none → ts a cls d { D with nx := fun _ _ => False, bk := fun _ _ => False, ct := fun _ _ => False } (σ.set i (some (.ref a))) H else wClauses K i D r cls d σ H
/-- each clause: except x as n, its suite told by ts (it returns) -/
inductive Clauses (X : Cx) (n : Str) : List ExceptHandler → List (Value × (Addr → Value → Option Addr → TS)) → Prop
  | none : Clauses X n [] []
  | more {x : Str} {c : Value} {ts : Addr → Value → Option Addr → TS} {st : Stmt} {sts : List Stmt} {np pos : Pos} {hs : List ExceptHandler} {l : List (Value × (Addr → Value → Option Addr → TS))} : Names X x c →
      (∀ (a : Addr) (oe : Obj) (cls : Value) (d : Option Addr) (pn : List (Addr × Obj)), Zc cls d oe → (∃ vs, oe.data = .fields vs) → PSs (X.suite a ((a, oe) :: pn)) (st :: sts) (ts a cls d)) → Clauses X n hs l →
      Clauses X n (.ExceptHandler (some (.Name x np)) (some n) (st :: sts) pos :: hs) ((c, ts) :: l)
section
variable {X : Cx} {n : Str} {i : Nat}
theorem Clauses.run {pins : List (Addr × Obj)} {σ : L2.St} {H : Hp} {a : Addr} {cls : Value} {d : Option Addr} {B : Heap} {sI s : Shared} {D : Ends} (C : Caught X pins σ H a cls d B sI s) (hN : X.N.Nodup) (hi : X.N[i]? = some n) (hn : X.env.kindOf n = some .local)
    {hs : List ExceptHandler} {l : List (Value × (Addr → Value → Option Addr → TS))} (k : Clauses X n hs l) (w : wClauses X.K i D l cls d σ H) : wpAny (model X.prog X.w) X.A (handleBy (.ref a) X.env hs) (SP X pins D) X.xe s := by
  induction k with
  | none => exact w.elim
  | more nm body rest ih =>
    obtain ⟨b, m, w⟩ := w
    refine wpAny_handleBy_cons (C.asks nm m ?_) (fun z => by cases z)
    cases b with
    | false => exact ih w
    | true =>
      refine codeAny_handlers_suite_as (HandSPX.lands_againZ C.flies fun h' fl up => ?_)
      obtain ⟨oe, _, kind, fields, su⟩ := (C.moved fl up).suite
      refine store_ok (X := X.suite a ((a, oe) :: (X.pn ++ pins))) (v := .ref a) su hN hi (.inl hn) rfl (fun s2 su2 => ?_) (.inr hn)
      have go := (body a oe cls d (X.pn ++ pins) kind fields).run [] s2 _ H _ su2 (w a C.free)
      refine wpAny_mono go (fun f s3 out => ?_) fun _ _ z => z.elim
      match f, out with
      | .next, ⟨_, _, _, z⟩ => exact z.elim
      | .brk, ⟨_, _, _, z⟩ => exact z.elim
      | .cont, ⟨_, _, _, z⟩ => exact z.elim
      | .ret u, ⟨v, σ3, H3, su3, ru, q⟩ => exact gone_ok (su3.unsuite C.was.ok) hN hi hn fun s4 inv => ⟨v, _, H3, inv, ru, q⟩
end
end DL
set_option Elab.async false
set_option linter.all false
set_option maxRecDepth 100000
set_option maxHeartbeats 4000000
namespace DL
open PySem L2 PyProof.Rows
section
variable {G : Gh} {Z Z' H H' H1 : Hp} {ρ : Rho} {σ : L2.St} {c c' : Nat}
theorem XOk.mono {S : Option Stm} {cls : Value} {d : Option Addr} {x : XD} (h : XOk S Z H cls d x) (z : Sub Z Z') : XOk S Z' H' cls d x := by
  obtain ⟨e, dx, fs, h1, h2, h3, h4⟩ := h
  exact ⟨e, dx, fs, h1, z _ _ h2, h3, h4.mono z⟩
end
/-! ### what a clause returns: told of the exception's data, a frame standing by -/
/-! ### the row of clauses over data -/
/-- the classes of errors: none is beneath another one -/
structure Errs (K : PySem.W.Frag) (Cs : List Addr) : Prop where
  ex : ∀ C ∈ Cs, ∀ C' ∈ Cs, PySem.W.exmOne K (.ref C) (.ref C') = some (decide (C = C'))
end DL
set_option Elab.async false
set_option linter.all false
set_option maxRecDepth 100000
set_option maxHeartbeats 4000000
namespace DL
open PySem L2 PyProof.Rows
/-! ### g(lambda: ..), g a def that calls what it got and catches errors -/
/-! ### the call with a lambda -/
/-! ### as functions -/
@[simp] def Cm.catch {α β : Type} : Cm α → (α → Cm β) → (XD → Cm β) → Cm β
  | .ret a, f, _ => f a
  | .exc x _, _, g => g x
  | .draw n k, f, g => .draw n fun i => (k i).catch f g
  | .bad, _, _ => .bad
end DL
set_option Elab.async false
set_option linter.all false
set_option maxRecDepth 100000
set_option maxHeartbeats 4000000
namespace DL
open PySem L2 PyProof.Rows
/-! ### min of a list of ints -/
@[simp] def intsD : List D → Option (List Int)
  | [] => some []
  | .int i :: ds => (intsD ds).map (i :: ·)
  | _ :: _ => none
section
variable {X : Cx} {n m k : Nat} {a b e o : Expr} {es : List Expr} {ta ti : DTE} {p p2 q pos : Pos}
/-! ### xs[::-1] -/
/-! ### a, b, c = a list -/
@[simp] def gLs (gs : DTGs) : DTG := fun d ρ Q => ∃ ds, d = .lst ds ∧ gs ds ρ Q
@[simp] def gL (gs : EGs) : EG := fun d ρ => match d with
  | .lst ds => gs ds ρ
  | _ => none
/-! ### d[k] = v of a dict with plain keys -/
theorem keyD_inj {k l : Key} (h : keyD k = keyD l) : k = l := by
  cases k <;> cases l <;> simp_all [keyD]
def putKs (ks : List D) (k : D) : List D := if k ∈ ks then ks else ks ++ [k]
def putVs (ks vs : List D) (k v : D) : List D := if k ∈ ks then List.zipWith (fun k' v' => if k' = k then v else v') ks vs else vs ++ [v]
theorem any_key {kvs : List (Key × V)} {k : Key} : (kvs.any fun kv => decide (kv.1 = k)) = true ↔ keyD k ∈ kvs.map fun p => keyD p.1 := by
  rw [List.any_eq_true, List.mem_map]
  constructor
  · rintro ⟨x, h1, h2⟩
    exact ⟨x, h1, by rw [of_decide_eq_true h2]⟩
  · rintro ⟨x, h1, h2⟩
    exact ⟨x, h1, decide_eq_true (keyD_inj h2)⟩
theorem put_same {S : Option Stm} {Z : Hp} {k : Key} {d : D} {v : V} (r : Rep S Z d v) : ∀ {kvs : List (Key × V)} {ds : List D}, Reps S Z ds (kvs.map (·.2)) →
    Reps S Z (List.zipWith (fun k' v' => if k' = keyD k then d else v') (kvs.map fun p => keyD p.1) ds) ((kvs.map fun kv => if kv.1 = k then (kv.1, v) else kv).map (·.2))
  | [], ds, rs => by
    rw [List.map_nil] at rs
    cases ds with
    | nil => simpa using rs
    | cons d ds => simp [Reps] at rs
  | kv :: kvs, ds, rs => by
    cases ds with
    | nil => simp [Reps] at rs
    | cons d0 ds =>
      rw [List.map_cons, Reps] at rs
      simp only [List.map_cons, List.zipWith_cons_cons]
      rw [Reps]
      refine ⟨?_, put_same r rs.2⟩
      by_cases h : kv.1 = k
      · rw [if_pos (by rw [h]), if_pos h]; exact r
      · rw [if_neg (fun z => h (keyD_inj z)), if_neg h]; exact rs.1
theorem putK_keys {kvs : List (Key × V)} {k : Key} {v : V} : (putK kvs k v).map (fun p => keyD p.1) = putKs (kvs.map fun p => keyD p.1) (keyD k) := by
  unfold putK putKs
  by_cases h : (kvs.any fun kv => decide (kv.1 = k)) = true
  · rw [if_pos h, if_pos (any_key.mp h), List.map_map]
    refine List.map_congr_left fun x _ => ?_
    show keyD (if x.1 = k then (x.1, v) else x).1 = keyD x.1
    split <;> rfl
  · rw [if_neg h, if_neg (fun z => h (any_key.mpr z)), List.map_append]
    rfl
theorem putK_vals {S : Option Stm} {Z : Hp} {kvs : List (Key × V)} {k : Key} {v : V} {ds : List D} {d : D} (rs : Reps S Z ds (kvs.map (·.2))) (r : Rep S Z d v) : Reps S Z (putVs (kvs.map fun p => keyD p.1) ds (keyD k) d) ((putK kvs k v).map (·.2)) := by
  unfold putK putVs
  by_cases h : (kvs.any fun kv => decide (kv.1 = k)) = true
  · rw [if_pos h, if_pos (any_key.mp h)]
    exact put_same r rs
  · rw [if_neg h, if_neg (fun z => h (any_key.mpr z)), List.map_append]
    exact rs.append (Reps.cons r Reps.nil)
theorem Img.put {S : Option Stm} {Z : Hp} {ks ds : List D} {o : HO} (m : Img S Z (.dct false ks ds) o) {k : Key} {d : D} {v : V} (ko : KOk k) (r : Rep S Z d v) (hl : ds.length < sizeLine) :
    ∃ kvs, o = .dK kvs ∧ kvs.length < sizeLine ∧ Img S Z (.dct false (putKs ks (keyD k)) (putVs ks ds (keyD k) d)) (.dK (putK kvs k v)) := by
  obtain ⟨l1, l2, m⟩ := m
  rcases m with ⟨kvs, _, rfl, rfl, e3, rs⟩ | ⟨_, e, _⟩
  · have hk : kvs.length = ds.length := by simpa using l1
    have hv := putK_vals (k := k) rs r
    have hlen : (putK kvs k v).length ≤ kvs.length + 1 := by
      unfold putK; split <;> simp
    have e4 := hv.length
    rw [List.length_map] at e4
    refine ⟨kvs, rfl, by rw [hk]; exact hl, ?_, by rw [e4]; omega, .inl ⟨_, rfl, rfl, putK_keys.symm, fun p hp => ?_, hv⟩⟩
    · rw [e4, ← putK_keys, List.length_map]
    · unfold putK at hp
      split at hp
      · obtain ⟨x, hx, rfl⟩ := List.mem_map.mp hp
        have : (if x.1 = k then (x.1, v) else x).1 = x.1 := by split <;> rfl
        rw [this]; exact e3 x hx
      · rcases List.mem_append.mp hp with h | h
        · exact e3 p h
        · rw [List.mem_singleton] at h; subst h; exact ko
  · cases e
def isKey : D → Option Key
  | .int i => some (.inl i)
  | .str x => some (.inr x)
  | _ => none
/-- d[k], x = e -/
@[simp] def dPutSet (i ik j : Nat) (ta : DTE) : DTS := fun De W ρ => ta ρ (fun r ρ1 => ∃ a b ks vs k, r.d = .tup [a, b] ∧ ρ1[i]? = some (.ow (.dct false ks vs)) ∧ ρ1[ik]? = some (.sh (keyD k)) ∧ vs.length < sizeLine ∧
  De.nx ((ρ1.set i (.ow (.dct false (putKs ks (keyD k)) (putVs ks vs (keyD k) a)))).set j (.sh b))) W
end
@[simp] def asDK : Option Slot → Option (List D × List D)
  | some (.ow (.dct false ks vs)) => some (ks, vs)
  | _ => none
@[simp] def asSh : Option Slot → Option D
  | some (.sh d) => some d
  | _ => none
@[simp] def asTup2 : D → Option (D × D)
  | .tup [a, b] => some (a, b)
  | _ => none
@[simp] def ePutSet (i ik j : Nat) (a : EE) : ES := fun ρ => (a ρ).bind fun p => opt (asTup2 p.1.d) fun x => opt (asDK p.2[i]?) fun y => opt (asSh p.2[ik]?) fun kd => opt (isKey kd) fun k => req (y.2.length < sizeLine)
  (.ret (.nx ((p.2.set i (.ow (.dct false (putKs y.1 kd) (putVs y.1 y.2 kd x.1)))).set j (.sh x.2))))
end DL
set_option Elab.async false
set_option linter.all false
set_option maxRecDepth 100000
set_option maxHeartbeats 4000000
namespace DL
open PySem L2 PyProof.Rows
/-! ### dicts with plain keys are compared -/
def lookD : List D → List D → D → Option D
  | k' :: ks, v' :: vs, k => if k' = k then some v' else lookD ks vs k
  | _, _, _ => none
end DL
set_option Elab.async false
set_option linter.all false
set_option maxRecDepth 100000
set_option maxHeartbeats 4000000
namespace DL
open PySem L2 PyProof.Rows
/-! ### sorted(xs) of data that can be compared -/
def encD (d : D) : PyData := (D.toPy d).getD .none
def leD : D → D → Bool := PySem.W.dataLe false encD
def sortD (ds : List D) : List D := ds.mergeSort leD
end DL
set_option Elab.async false
set_option linter.all false
set_option maxRecDepth 100000
set_option maxHeartbeats 4000000
namespace DL
open PySem L2 PyProof.Rows
/-! ### list(zip(xs, ys)) of two lists -/
/-- a zip of two lists, i pairs drawn and all kept; S, a list beside it -/
structure ZipAt (z TI TO i1 i2 l1 l2 S : Addr) (xs ys : Array Value) (i : Nat) (h : Heap) : Prop where
  ti : PySem.IsPair h TI (.ref i1) (.ref i2)
  it1 : h.IsListIter i1 l1 i
  it2 : h.IsListIter i2 l2 i
  s1 : h.IsList l1 xs
  s2 : h.IsList l2 ys
  zi : (PySem.IsZip h z TI TO .none ∧ ∃ a b, PySem.IsPair h TO a b) ∨ ∃ T f oT, PySem.IsZipHeld h z TI TO T f ∧ h.get? T = some oT ∧ T ≠ z ∧ T ≠ i1 ∧ T ≠ i2 ∧ T ≠ S
structure OffS (S z TI TO i1 i2 l1 l2 : Addr) : Prop where
  z : S ≠ z
  ti : S ≠ TI
  to : S ≠ TO
  i1 : S ≠ i1
  i2 : S ≠ i2
  l1 : S ≠ l1
  l2 : S ≠ l2
section
variable {z TI TO i1 i2 l1 l2 S : Addr} {xs ys : Array Value} {i : Nat} {h h' : Heap}
theorem ZipAt.off (O : OffS S z TI TO i1 i2 l1 l2) (Z : ZipAt z TI TO i1 i2 l1 l2 S xs ys i h) (k : ∀ b o, b ≠ S → h.get? b = some o → h'.get? b = some o) : ZipAt z TI TO i1 i2 l1 l2 S xs ys i h' where
  ti := k _ _ O.ti.symm Z.ti
  it1 := Z.it1.at fun o e => k _ o O.i1.symm e
  it2 := Z.it2.at fun o e => k _ o O.i2.symm e
  s1 := Z.s1.at fun o e => k _ o O.l1.symm e
  s2 := Z.s2.at fun o e => k _ o O.l2.symm e
  zi := by
    rcases Z.zi with ⟨a, x, y, b⟩ | ⟨T, f, oT, a, b, c1, c2, c3, c4⟩
    · exact .inl ⟨k _ _ O.z.symm a, x, y, k _ _ O.to.symm b⟩
    · exact .inr ⟨T, f, oT, k _ _ O.z.symm a, k _ _ c4 b, c1, c2, c3, c4⟩
theorem ZipAt.next {prog : Program} {w : World} {A : Around} {E : Value → Shared → Prop} {s : Shared} {Q : Option Value → Shared → Prop} (D : ZipApart z TI TO i1 i2 l1 l2) (Z : ZipAt z TI TO i1 i2 l1 l2 S xs ys i s.heap) (hS : S < s.heap.objs.size) {x y : Value} (hx : xs[i]? = some x) (hy : ys[i]? = some y)
    (q : ∀ h', PySem.IsPair h' s.heap.objs.size x y → ZipAt z TI TO i1 i2 l1 l2 S xs ys (i + 1) h' → h'.objs.size = s.heap.objs.size + 1 → (∀ c o, c ∉ [z, TO, i1, i2] → s.heap.get? c = some o → h'.get? c = some o) → Q (some (.ref s.heap.objs.size)) { s with heap := h' }) :
    wpAny (model prog w) A (pyNext (.ref z)) Q E s := by
  have nm : ∀ {c : Addr}, c ∉ [z, TO, i1, i2] → c ≠ z ∧ c ≠ TO ∧ c ≠ i1 ∧ c ≠ i2 := fun {c} hc => by simpa using hc
  have gt : ∀ {c : Addr} {o : Obj}, s.heap.get? c = some o → s.heap.objs.size ≠ c := fun e => Nat.ne_of_gt (Heap.lt_size e)
  obtain ⟨o1, e1, _⟩ := id Z.it1
  obtain ⟨o2, e2, _⟩ := id Z.it2
  rcases Z.zi with ⟨a, p, p', b⟩ | ⟨T, f, oT, a, b, c1, c2, c3, c4⟩
  · refine wpAny_pyNext_zip_item D a Z.ti b Z.it1 Z.it2 Z.s1 Z.s2 hx hy fun h' g1 g2 g3 g4 g5 g6 k => ?_
    refine q h' g5 ⟨k _ _ D.TIz D.TITO D.TIi1 D.TIi2 Z.ti, g3, g4, Z.s1.at fun o => k _ o D.l1z D.l1TO D.l1i1 D.l1i2, Z.s2.at fun o => k _ o D.l2z D.l2TO D.l2i1 D.l2i2, ?_⟩ g6 fun c o hc e => ?_
    · exact .inr ⟨_, false, _, g1, g5, gt a, gt e1, gt e2, Nat.ne_of_gt hS⟩
    · obtain ⟨n1, n2, n3, n4⟩ := nm hc
      exact k c o n1 n2 n3 n4 e
  · refine wpAny_pyNext_zip_item_held D a b Z.ti Z.it1 Z.it2 Z.s1 Z.s2 hx hy fun h' g1 g3 g4 g5 g6 k => ?_
    refine q h' g5 ⟨k _ _ D.TIz D.TIi1 D.TIi2 Z.ti, g3, g4, Z.s1.at fun o => k _ o D.l1z D.l1i1 D.l1i2, Z.s2.at fun o => k _ o D.l2z D.l2i1 D.l2i2, ?_⟩ g6 fun c o hc e => ?_
    · exact .inr ⟨T, true, oT, g1, k _ _ c1 c2 c3 b, c1, c2, c3, c4⟩
    · obtain ⟨n1, _, n3, n4⟩ := nm hc
      exact k c o n1 n3 n4 e
theorem ZipAt.stop {prog : Program} {w : World} {A : Around} {E : Value → Shared → Prop} {s : Shared} {Q : Option Value → Shared → Prop} (hh : A.handled = none) (D : ZipApart z TI TO i1 i2 l1 l2) (Z : ZipAt z TI TO i1 i2 l1 l2 S xs ys i s.heap) (he : xs[i]? = none ∨ ys[i]? = none)
    (q : ∀ h', (∀ c o, c ∉ [z, TO, i1, i2] → s.heap.get? c = some o → h'.get? c = some o) → Q none { s with heap := h' }) : wpAny (model prog w) A (pyNext (.ref z)) Q E s := by
  have nm : ∀ {c : Addr}, c ∉ [z, TO, i1, i2] → c ≠ z ∧ c ≠ TO ∧ c ≠ i1 ∧ c ≠ i2 := fun {c} hc => by simpa using hc
  rcases Z.zi with ⟨a, p, p', b⟩ | ⟨T, f, oT, a, b, c1, c2, c3, c4⟩
  · exact wpAny_pyNext_zip_end hh D a Z.ti b Z.it1 Z.it2 Z.s1 Z.s2 he fun h' k => q h' fun c o hc e => by
      obtain ⟨n1, n2, n3, n4⟩ := nm hc
      exact k c o n1 n2 n3 n4 e
  · exact wpAny_pyNext_zip_end_held hh D a b Z.ti Z.it1 Z.it2 Z.s1 Z.s2 he fun h' k => q h' fun c o hc e => by
      obtain ⟨n1, _, n3, n4⟩ := nm hc
      exact k c o n1 n3 n4 e
end
end DL
set_option Elab.async false
set_option linter.all false
set_option maxRecDepth 100000
set_option maxHeartbeats 4000000
namespace DL
open PySem L2 PyProof.Rows
@[simp] def dListZip (ts : DTA) : DTE := fun ρ Q W => ts ρ (fun ds ρ1 => ∃ xs ys, ds = [.lst xs, .lst ys] ∧ Q (.nw (.lst (zipD xs ys))) ρ1) W
@[simp] def asLst2 : List D → Option (List D × List D)
  | [.lst xs, .lst ys] => some (xs, ys)
  | _ => none
@[simp] def eListZip (a : EA) : EE := fun ρ => (a ρ).bind fun p => opt (asLst2 p.1) fun x => .ret (.nw (.lst (zipD x.1 x.2)), p.2)
end DL
set_option Elab.async false
set_option linter.all false
set_option maxRecDepth 100000
set_option maxHeartbeats 4000000
namespace DL
open PySem L2 PyProof.Rows
/-! ### targets' lengths -/
theorem len_gsN : ∀ ds ρ Q, tGs gsN ds ρ Q → ds.length = 0 := fun ds ρ Q h => by
  obtain ⟨rfl, _⟩ := im_gsN h
  rfl
theorem len_gsC {g : EG} {gs : EGs} {l : Nat} (hl : ∀ ds ρ Q, tGs gs ds ρ Q → ds.length = l) : ∀ ds ρ Q, tGs (gsC g gs) ds ρ Q → ds.length = l + 1 := fun ds ρ Q h => by
  obtain ⟨d, r, rfl, _, _, h2⟩ := im_gsC h
  rw [List.length_cons, hl _ _ _ h2]
theorem unt64 {k : Nat} {A : Around} (r : Room k A) : A.units + 64 < cLine := r.units
theorem unt65 {k : Nat} {A : Around} (r : Room k A) : A.units + 65 < cLine := by have := r.un; omega
section
variable {X : Cx} {x : Str} {pos : Pos}
theorem fe_ty {T : String} (hg : Gl X x) (hm : X.mg x = none) (hv : bootBuiltins x = some (.type T)) (hn : x ≠ "__name__" := by decide) (hd : (x == ("__debug__" : Str)) = false := by decide) : DE X 0 (.Name x pos) (tE (eC (.ty T))) := de_ty hg hm hv hn hd
theorem fe_gstr {z : Str} (hg : Gl X x) (hm : ∃ t, X.mg x = some (.str z t)) (so : SOk z := by decide +kernel) (hd : (x == ("__debug__" : Str)) = false := by decide) : DE X 0 (.Name x pos) (tE (eC (.str z))) := de_gstr hg hm so hd
end
/-! ### draws -/
def f_l_draw : FN
  | [.stm, .int n] => req (0 < n ∧ n < 1073741824) (.draw n fun i => .ret (.sh (.int i)))
  | _ => .bad
theorem draw_imp {ds : List D} {Q : Vd → Prop} {W : XD → Prop} (h : tF f_l_draw ds Q W) : FDraw ds Q W := by
  unfold tF f_l_draw at h
  split at h
  · rename_i n
    obtain ⟨⟨h1, h2⟩, h3⟩ := req_sat h
    exact ⟨n, rfl, h1, h2, fun k a b => h3 k a b⟩
  · exact h.elim
theorem spD_imp {K : PySem.W.Frag} {n : Nat} {F F' : DSp} (h : ∀ ds Q W, F ds Q W → F' ds Q W) {vs : List V} {H : Hp} {Q : VK} {E : XK} (s : spD K n F vs H Q E) : spD K n F' vs H Q E := by
  obtain ⟨S, Z, c, ds, Qd, Wd, h0, h1, h2, h3, h4, h5, h6⟩ := s
  exact ⟨S, Z, c, ds, Qd, Wd, h0, h1, h2, h3, h4, h _ _ _ h5, h6⟩
theorem ok_none {P : Program} {w : World} {K : PySem.W.Frag} {mg : Str → Option Value} {base : Heap} {f : Addr} {fd : FuncData} {ps : List Str} {k n : Nat} : FnOk P w K mg base (L2.CX P w) k f fd ps (spD K n (tF fun _ => .bad)) :=
  ⟨fun vs H Q E ⟨_, _, _, _, _, _, _, _, _, _, _, h, _⟩ => h.elim, fun A st s H as us vs Q E _ _ _ _ ⟨_, _, _, _, _, _, _, _, _, _, _, h, _⟩ => h.elim⟩
/-! ### the tables at the head -/
def exT (tf : List He.Defn) (K : PySem.W.Frag) : Bool := ((tabsOf K).all fun p => tf.any fun d => (He.cT K d).2 == p.1) && (tabsOf K).all fun p => (tabsOf K).all fun q => !(p.1 == q.1) || decide (p.2 = q.2)
theorem tabs_empty {tf : List He.Defn} {K : PySem.W.Frag} {H : Hp} (h : exT tf K = true) (hH : ∀ p ∈ tf.map (He.cT K), H p.2 = some (.tbl #[])) : LamX.Tabs (tabsOf K) H := fun p hp => by
  have h1 := List.all_eq_true.mp (Bool.and_eq_true_iff.mp h).1 p hp
  obtain ⟨d, hd, e⟩ := List.any_eq_true.mp h1
  have e : (He.cT K d).2 = p.1 := beq_iff_eq.mp e
  refine ⟨#[], ?_, ?_, ?_⟩
  · rw [← e]; exact hH _ (List.mem_map_of_mem hd)
  · trivial
  · intro pos cv z; cases z
end DL
set_option Elab.async false
set_option linter.all false
set_option maxRecDepth 100000
set_option maxHeartbeats 4000000
namespace DL
open PySem L2 PyProof.Rows
/-! ### a law's own frame -/
def rho0 (n : Nat) : Rho := .no :: .sh .stm :: List.replicate (n - 2) .no
def strm (H : Hp) (p q : Addr) (ns : List Int) : Hp := upd (upd H q (.lst (ns.map V.int))) p (.lst [.ref q, .int 0, .int 0, .int 11])
theorem rho0_get {n i : Nat} {s : Slot} (h : (rho0 n)[i]? = some s) : s = .no ∨ (i = 1 ∧ s = .sh .stm) := by
  match i, h with
  | 0, h => exact .inl (Option.some.inj h).symm
  | 1, h => exact .inr ⟨rfl, (Option.some.inj h).symm⟩
  | i + 2, h => exact .inl (List.eq_of_mem_replicate (List.mem_of_getElem? (l := List.replicate (n - 2) Slot.no) (i := i) h))
theorem law_fr {K : PySem.W.Frag} {σ : L2.St} {n : Nat} {p q : Addr} {H : Hp} {ns : List Int} (hn : 2 ≤ n) (hl : σ.length = n) (h1 : σ[1]? = some (some (.ref p))) (hp : H p = none) (hq : H q = none) (ne : p ≠ q) (ht : LamX.Tabs (tabsOf K) H) (m : Nat) (hm : m ≤ LIM) :
    Fr ⟨some ⟨p, q, none⟩, vis (strm H p q ns), fun _ => none, m, hm, vis_nt, tabsOf K, fun _ _ e => nomatch e⟩ (fun _ => none) (strm H p q ns) (rho0 n) σ 0 := by
  have hp' : upd H q (.lst (ns.map V.int)) p = none := by rw [upd_ne ne]; exact hp
  have ep : strm H p q ns p = some (.lst [.ref q, .int 0, .int 0, .int 11]) := upd_same
  have eq : strm H p q ns q = some (.lst (ns.map V.int)) := by
    unfold strm
    rw [upd_ne (Ne.symm ne), upd_same]
  refine ⟨fun b o e => (nomatch e), fun s e => ?_, fun s e => ?_, ?_, fun i sl e => ?_, fun i j sl tl nij e1 e2 w1 w2 => ?_, .ofv fun _ _ e => e, fun b o e => (nomatch e), fun b o e => e, ?_⟩
  · cases e
    exact ⟨by show vis _ p ≠ none; rw [vis_of ep]; simp, by show vis _ q ≠ none; rw [vis_of eq]; simp⟩
  · cases e
    exact .inl ⟨rfl, ns, 0, 11, 0, ep, eq, Nat.le_refl _, Int.le_refl _, by decide, by decide, rfl, rfl, ne⟩
  · rw [hl]
    unfold rho0
    simp only [List.length_cons, List.length_replicate]
    omega
  · rcases rho0_get e with rfl | ⟨rfl, rfl⟩
    · trivial
    · exact ⟨_, h1, by show Rep _ _ _ _; rw [Rep]; exact ⟨_, rfl, rfl, rfl⟩⟩
  · rcases rho0_get e1 with rfl | ⟨_, rfl⟩ <;> cases w1
  · exact (ht.ext (sub_upd hq)).ext (sub_upd hp')
/-- what the law's rest must say -/
def LawSays (n : Nat) (b : ES) : Prop := tS b { nx := fun _ => False, rt := fun r => r = .sh (.bl true) } noW (rho0 n)
def spStart (K : PySem.W.Frag) : Sp := fun vs H Q _ => ∃ (a : Addr) (ns : List Int), vs = [.ref a] ∧ SqL K H a (ns.map V.int) ∧ ∀ p q, H p = none → H q = none → p ≠ q → Q (.ref p) (strm H p q ns)
theorem law_run {X : Cx} {K : PySem.W.Frag} (hK : X.K = K) {sts : List Stmt} {n nl : Nat} {b : ES} (hd : DSs X nl sts (tS b)) (hm : nl ≤ LIM) (rd : LawSays n b) {σ : L2.St} {p q : Addr} {H : Hp} {ns : List Int} {De : Ends} (hn : 2 ≤ n) (hl : σ.length = n) (h1 : σ[1]? = some (some (.ref p))) (hp : H p = none) (hq : H q = none) (ne : p ≠ q) (ht : LamX.Tabs (tabsOf K) H) (Q : VK) (hQ : De.rt = Q)
    (fin : ∀ H', Q (.bl true) H') : ∃ G : Gh, G.T = tabsOf K ∧ LS G nl (tS b) noW De σ (strm H p q ns) := by
  subst hK
  refine ⟨⟨some ⟨p, q, none⟩, vis (strm H p q ns), fun _ => none, nl, hm, vis_nt, tabsOf X.K, fun _ _ e => nomatch e⟩, rfl, fun _ => none, rho0 n, 0, _, law_fr hn hl h1 hp hq ne ht nl hm, by simp, rd, ?_⟩
  refine ⟨fun _ _ _ _ _ _ _ z => z.elim, fun _ _ _ _ _ _ _ z => z.elim, fun _ _ _ _ _ _ _ z => z.elim, fun r ρ σ Z' H' v c' _ _ z F' o => ?_⟩
  subst z
  have o' : Rep (some ⟨p, q, none⟩) Z' (.bl true) v := o
  have : v = .bl true := Rep.bl_iff.mp o'
  subst this
  rw [hQ]
  exact fin H'
end DL
set_option Elab.async false
set_option linter.all false
set_option maxRecDepth 100000
set_option maxHeartbeats 4000000
namespace DL
open PySem L2 PyProof.Rows
/-! ### while, with a bound on its turns -/
def dWhile : Nat → DTT → DTS → DTS
  | 0, _, _ => fun _ _ _ => False
  | k + 1, tc, tb => fun De W ρ => tc ρ (fun b ρ1 => if b = true then tb { De with nx := dWhile k tc tb De W, ct := dWhile k tc tb De W, bk := De.nx } W ρ1 else De.nx ρ1) W
section
variable {X : Cx} {n m : Nat} {c : Expr} {body : List Stmt} {pos : Pos} {tc : DTT} {tb : DTS}
theorem ds_while (k : Nat) (hp : PassesOwn (model X.prog X.w) X.A X.env X.xe) (hc : DT X n c tc) (hb : DSs X m body tb) : DS X (k * (n + m)) (.While c body [] pos) (dWhile k tc tb) := fun G W tk =>
  PS.weak (ps_while hp (hc G W tk) (hb G W tk)) fun D σ H ⟨Z, ρ, e, Dd, F, he, t, kk⟩ => by
    refine ⟨fun j σ H => ∃ Z ρ e Dd, Fr G Z H ρ σ e ∧ e + j * (n + m) ≤ G.cm ∧ dWhile j tc tb Dd W ρ ∧ EndsOk G (j * (n + m)) e Z Dd D, ⟨k, Z, ρ, e, Dd, F, he, t, kk⟩, ?_⟩
    rintro j σ1 H1 ⟨Z1, ρ1, e1, De, F1, l1, t1, k1⟩
    cases j with
    | zero => exact t1.elim
    | succ j =>
      have al : (j + 1) * (n + m) = j * (n + m) + (n + m) := Nat.succ_mul _ _
      refine ⟨Z1, ρ1, e1, _, F1, by omega, t1, fun b ρ2 Z2 H2 e2 z2 l2 q F2 => ?_⟩
      cases b with
      | false => exact k1.nx ρ2 σ1 Z2 H2 e2 z2 (by omega) q F2
      | true =>
        refine ⟨fun σ' H' => ∃ Z ρ e Dd, Fr G Z H' ρ σ' e ∧ e + j * (n + m) ≤ G.cm ∧ dWhile j tc tb Dd W ρ ∧ EndsOk G (j * (n + m)) e Z Dd D, fun σ' H' w => ⟨j, Nat.lt_succ_self j, w⟩, ?_⟩
        refine ⟨Z2, ρ2, e2, _, F2, by omega, q, ⟨?_, ?_, ?_, ?_⟩⟩
        · exact fun ρ3 σ3 Z3 H3 e3 z3 l3 q3 F3 => ⟨Z3, ρ3, e3, De, F3, by omega, q3, k1.mono (z2.trans z3) (by omega)⟩
        · exact fun ρ3 σ3 Z3 H3 e3 z3 l3 q3 F3 => k1.nx ρ3 σ3 Z3 H3 e3 (z2.trans z3) (by omega) q3 F3
        · exact fun ρ3 σ3 Z3 H3 e3 z3 l3 q3 F3 => ⟨Z3, ρ3, e3, De, F3, by omega, q3, k1.mono (z2.trans z3) (by omega)⟩
        · exact fun r ρ3 σ3 Z3 H3 v e3 z3 l3 q3 F3 o => k1.rt r ρ3 σ3 Z3 H3 v e3 (z2.trans z3) (by omega) q3 F3 o
end
def eWhile : Nat → ET → ES → ES
  | 0, _, _ => fun _ => .bad
  | k + 1, c, b => fun ρ => (c ρ).bind fun p => if p.1 = true then (b p.2).bind (fun o => match o with
      | .nx ρ2 => eWhile k c b ρ2
      | .ct ρ2 => eWhile k c b ρ2
      | .bk ρ2 => .ret (.nx ρ2)
      | .rt v => .ret (.rt v)) else .ret (.nx p.2)
theorem im_while {c : ET} {b : ES} {De : DEnds} {W : DX} : ∀ {k : Nat} {ρ : Rho}, tS (eWhile k c b) De W ρ → dWhile k (tT c) (tS b) De W ρ
  | 0, ρ, t => t.elim
  | k + 1, ρ, t => (sat_bind.mp t).imp fun p t => by
    have t := ite_sat.mp t
    show if p.1 = true then _ else _
    split at t
    · rename_i h
      rw [if_pos h]
      refine (sat_bind.mp t).imp fun o t => ?_
      cases o with
      | nx ρ2 => exact im_while t
      | ct ρ2 => exact im_while t
      | bk ρ2 => exact t
      | rt v => exact t
    · rename_i h
      rw [if_neg h]
      exact t
theorem fs_while {X : Cx} {n m : Nat} {c : Expr} {body : List Stmt} {pos : Pos} {tc : ET} {tb : ES} (k : Nat) (hp : PassesOwn (model X.prog X.w) X.A X.env X.xe) (hc : DT X n c (tT tc)) (hb : DSs X m body (tS tb)) :
    DS X (k * (n + m)) (.While c body [] pos) (tS (eWhile k tc tb)) := (ds_while k hp hc hb).imp fun D W ρ t => im_while t
end DL
set_option Elab.async false
set_option linter.all false
set_option maxRecDepth 100000
set_option maxHeartbeats 4000000
namespace DL
open PySem L2 PyProof.Rows
/-! ### d[k], k in d -/
/-- the keys of a tuple key -/
def keysD : List D → Option (List Key)
  | [] => some []
  | d :: ds => (isKey d).bind fun k => (keysD ds).map (k :: ·)
/-- what is looked up stands at the heap too -/
def keyFit (t : Bool) (k : D) : Bool := match t, k with
  | true, .tup ds => (keysD ds).isSome
  | true, _ => false
  | false, k => (isKey k).isSome
end DL
set_option Elab.async false
set_option linter.all false
set_option maxRecDepth 100000
set_option maxHeartbeats 4000000
namespace DL
open PySem L2 PyProof.Rows
/-! ### {k: v for ..}, plain keys -/
def dDictGo (g : DTG) (tt : DTT) (tk tv : DTE) (vs : List Nat) (Q : Vd → Rho → Prop) : List D → List D → List D → Rho → Prop
  | [], ks, us, ρ => Q (.nw (.dct false ks us)) ρ
  | d :: ds, ks, us, ρ => g d ρ fun ρ1 => tt ρ1 (fun b ρ2 => if b = true then tk ρ2 (fun y ρ3 => tv ρ3 (fun z ρ4 => ∃ k : Key, y.d = keyD k ∧ dDictGo g tt tk tv vs Q ds (putKs ks (keyD k)) (putVs ks us (keyD k) z.d) (wipeR ρ4 vs)) noW) noW
    else dDictGo g tt tk tv vs Q ds ks us (wipeR ρ2 vs)) noW
@[simp] def dDictC (ti : DTI) (g : DTG) (tt : DTT) (tk tv : DTE) (vs : List Nat) : DTE := fun ρ Q W => ti ρ (fun ds ρ1 => dDictGo g tt tk tv vs Q ds [] [] (wipeR ρ1 vs)) W
end DL
set_option Elab.async false
set_option linter.all false
set_option maxRecDepth 100000
set_option maxHeartbeats 4000000
set_option Elab.async false
set_option linter.all false
set_option maxRecDepth 100000
set_option maxHeartbeats 4000000
namespace DL
open PySem L2 PyProof.Rows
/-! ### keys of any kind: d[k] = e -/
@[simp] def dDPut (i : Nat) (ta tk : DTE) : DTS := fun De W ρ => ta ρ (fun r ρ1 => (∃ d, ρ1[i]? = some (.ow d)) ∧ tk ρ1 (fun kd ρ2 => ∃ t ks vs, ρ2[i]? = some (.ow (.dct t ks vs)) ∧ keyFit t kd.d = true ∧ vs.length < sizeLine ∧
  De.nx (ρ2.set i (.ow (.dct t (putKs ks kd.d) (putVs ks vs kd.d r.d))))) W) W
@[simp] def asDct : Option Slot → Option (Bool × List D × List D)
  | some (.ow (.dct t ks vs)) => some (t, ks, vs)
  | _ => none
@[simp] def eDPut (i : Nat) (a tk : EE) : ES := fun ρ => (a ρ).bind fun p => opt (asDct p.2[i]?) fun _ => (tk p.2).bind fun q => opt (asDct q.2[i]?) fun y => req (keyFit y.1 q.1.d = true ∧ y.2.2.length < sizeLine)
  (.ret (.nx (q.2.set i (.ow (.dct y.1 (putKs y.2.1 q.1.d) (putVs y.2.1 y.2.2 q.1.d p.1.d))))))
/-! ### {(..): e} -/
@[simp] def eDct1 (k v : EE) : EE := fun ρ => ((k ρ).bind fun p => (v p.2).bind fun q => req (keyFit true p.1.d = true) (.ret (.nw (.dct true [p.1.d] [q.1.d]), q.2))).noex
/-! ### d.get(k) -/
@[simp] def asDctD : D → Option (Bool × List D × List D)
  | .dct t ks vs => some (t, ks, vs)
  | _ => none
@[simp] def eGet1 (a b : EE) : EE := fun ρ => (a ρ).bind fun p => opt (asDctD p.1.d) fun y => (b p.2).bind fun q => req (keyFit y.1 q.1.d = true) (.ret (.sh ((lookD y.2.1 y.2.2 q.1.d).getD .non), q.2))
/-! ### xs.index(x), texts -/
@[simp] def strsD : List D → Option (List Str)
  | [] => some []
  | .str x :: ds => (strsD ds).map (x :: ·)
  | _ :: _ => none
def fIndex : List D → List D → Option D
  | ds, [.str x] => (strsD ds).bind fun xs => if x ∈ xs then some (.int (xs.idxOf x : Nat)) else none
  | _, _ => none
@[simp] def asLstD : D → Option (List D)
  | .lst xs => some xs
  | _ => none
@[simp] def eIdx (a : EE) (b : EA) : EE := fun ρ => (a ρ).bind fun p => opt (asLstD p.1.d) fun y => (b p.2).bind fun q => opt (fIndex y q.1) fun d => .ret (.sh d, q.2)
/-! ### a // b, str(i) -/
@[simp] def fFDiv : List D → Option Vd
  | [.int a, .int b] => if 0 < b ∧ b < 1073741824 then some (.sh (.int (a / b))) else none
  | _ => none
end DL
set_option Elab.async false
set_option linter.all false
set_option maxRecDepth 100000
set_option maxHeartbeats 4000000
namespace DL
open PySem L2 PyProof.Rows
theorem fe_sl {X : Cx} {n m k : Nat} {a : Expr} {lo hi : Option Expr} {fa : EE} {fl fh : EO} {p2 pos : Pos} (ha : DE X n a (tE fa)) (hl : DO X m lo (tO fl)) (hh : DO X k hi (tO fh)) : DE X (n + m + k) (.Subscript a (.Slice lo hi none p2) pos) (tE (eSl fa fl fh)) :=
  DE.imp (de_slice ha hl hh) fun _ _ _ t => im_sl t
end DL
set_option Elab.async false
set_option linter.all false
set_option maxRecDepth 100000
set_option maxHeartbeats 4000000
namespace DL
open PySem L2 PyProof.Rows
/-! ### a dict that is held fast while it is walked -/
def DcO (u : HO) : Prop := (∃ kvs, u = .dK kvs) ∨ ∃ kvs, u = .dT kvs
theorem DcO.ntbl {u : HO} (h : DcO u) : ∀ ps, u ≠ .tbl ps := by
  rcases h with ⟨kvs, rfl⟩ | ⟨kvs, rfl⟩ <;> (intro ps z; cases z)
theorem DcO.ncode {u : HO} (h : DcO u) : ∀ c q, u ≠ LamX.CodeO c q := by
  rcases h with ⟨kvs, rfl⟩ | ⟨kvs, rfl⟩ <;> (intro c q z; unfold LamX.CodeO at z; cases z)
theorem rd_inj {Z : Hp} {a : Addr} {u w : HO} (hu : DcO u) (hw : DcO w) (r : L2.Rd Z a u) (q : L2.Rd Z a w) : u = w := by
  rcases r with r | ⟨o, r⟩ <;> rcases q with q | ⟨p, q⟩ <;> rw [r] at q <;> cases q
  · rfl
  · rcases hu with ⟨k, h⟩ | ⟨k, h⟩ <;> cases h
  · rcases hw with ⟨k, h⟩ | ⟨k, h⟩ <;> cases h
  · rfl
/-- the two differ at a alone, in whether the dict there is held fast -/
structure Lk (a : Addr) (u : HO) (Z Z' : Hp) : Prop where
  d : DcO u
  o : ∀ b, b ≠ a → Z' b = Z b
  f : L2.Rd Z a u
  t : L2.Rd Z' a u
theorem Lk.off {a : Addr} {u : HO} {Z Z' : Hp} (L : Lk a u Z Z') {b : Addr} {o : HO} (h : Z b = some o) (n1 : ¬ DcO o) (n2 : ∀ od w, o ≠ .frz od w) : Z' b = some o := by
  by_cases e : b = a
  · subst e
    exfalso
    rcases L.f with r | ⟨p, r⟩ <;> rw [h] at r <;> cases r
    · exact n1 L.d
    · exact n2 _ _ rfl
  · rw [L.o b e]; exact h
theorem Lk.rd {a : Addr} {u : HO} {Z Z' : Hp} (L : Lk a u Z Z') {b : Addr} {o : HO} (h : L2.Rd Z b o) (n1 : DcO o) : L2.Rd Z' b o := by
  by_cases e : b = a
  · subst e
    rw [rd_inj n1 L.d h L.f]
    exact L.t
  · unfold L2.Rd
    rw [L.o b e]
    exact h
theorem nd_tup {vs : List V} : ¬ DcO (.tup vs) := fun h => by rcases h with ⟨k, h⟩ | ⟨k, h⟩ <;> cases h
theorem nd_lst {vs : List V} : ¬ DcO (.lst vs) := fun h => by rcases h with ⟨k, h⟩ | ⟨k, h⟩ <;> cases h
theorem nd_ins {C d : Addr} {vs : List (Str × V)} : ¬ DcO (.ins C d vs) := fun h => by rcases h with ⟨k, h⟩ | ⟨k, h⟩ <;> cases h
theorem nd_own {a : Addr} : ¬ DcO (.own a) := fun h => by rcases h with ⟨k, h⟩ | ⟨k, h⟩ <;> cases h
mutual
theorem Rep.lk {S : Option Stm} {a : Addr} {u : HO} {Z Z' : Hp} (L : Lk a u Z Z') : ∀ {d : D} {v : V}, Rep S Z d v → Rep S Z' d v
  | .non, _, r => by simpa [Rep] using r
  | .bl _, _, r => by simpa [Rep] using r
  | .int _, _, r => by simpa [Rep] using r
  | .str _, _, r => by simpa [Rep] using r
  | .ty _, _, r => by simpa [Rep] using r
  | .stm, _, r => by simpa [Rep] using r
  | .fn _ _, _, r => by simpa [Rep] using r
  | .mem _, _, r => by simpa [Rep] using r
  | .tup ds, _, r => by
    rw [Rep] at r ⊢
    obtain ⟨b, vs, e, z, l, q⟩ := r
    exact ⟨b, vs, e, L.off z nd_tup (fun _ _ z => by cases z), l, Reps.lk L q⟩
  | .lst ds, _, r => by
    rw [Rep] at r ⊢
    obtain ⟨b, vs, e, z, l, q⟩ := r
    exact ⟨b, vs, e, L.off z nd_lst (fun _ _ z => by cases z), l, Reps.lk L q⟩
  | .dct t ks ds, _, r => by
    rw [Rep] at r ⊢
    obtain ⟨b, e, l, m, q⟩ := r
    refine ⟨b, e, l, m, ?_⟩
    rcases q with ⟨kvs, e0, z, e, ko, q⟩ | ⟨kvs, e0, z, e, ko, q⟩
    · exact .inl ⟨kvs, e0, L.rd z (.inl ⟨_, rfl⟩), e, ko, Reps.lk L q⟩
    · exact .inr ⟨kvs, e0, L.rd z (.inr ⟨_, rfl⟩), e, ko, Reps.lk L q⟩
  | .ins C ns ds, _, r => by
    rw [Rep] at r ⊢
    obtain ⟨b, dx, fs, e, z, z', l, q⟩ := r
    exact ⟨b, dx, fs, e, L.off z nd_ins (fun _ _ z => by cases z), L.off z' nd_own (fun _ _ z => by cases z), l, Reps.lk L q⟩
theorem Reps.lk {S : Option Stm} {a : Addr} {u : HO} {Z Z' : Hp} (L : Lk a u Z Z') : ∀ {ds : List D} {vs : List V}, Reps S Z ds vs → Reps S Z' ds vs
  | [], [], _ => by simp [Reps]
  | [], _ :: _, r => by simp [Reps] at r
  | _ :: _, [], r => by simp [Reps] at r
  | d :: ds, v :: vs, r => by
    rw [Reps] at r ⊢
    exact ⟨Rep.lk L r.1, Reps.lk L r.2⟩
end
theorem Img.lk {S : Option Stm} {a : Addr} {u : HO} {Z Z' : Hp} (L : Lk a u Z Z') {d : D} {o : HO} (m : Img S Z d o) : Img S Z' d o := by
  cases d with
  | lst ds =>
    obtain ⟨vs, e, l, r⟩ := m
    exact ⟨vs, e, l, r.lk L⟩
  | dct t ks ds =>
    obtain ⟨l1, l2, m⟩ := m
    rcases m with ⟨kvs, e0, e1, e2, e3, r⟩ | ⟨kvs, e0, e1, e2, e3, r⟩
    · exact ⟨l1, l2, .inl ⟨kvs, e0, e1, e2, e3, r.lk L⟩⟩
    · exact ⟨l1, l2, .inr ⟨kvs, e0, e1, e2, e3, r.lk L⟩⟩
  | _ => exact m.elim
theorem Fr.lk {G G' : Gh} {Z Z' H : Hp} {w : HO} {ρ : Rho} {σ : L2.St} {c : Nat} {a : Addr} {u o0 : HO} (F : Fr G Z H ρ σ c) (eS : G'.S = G.S) (eT : G'.T = G.T) (L : Lk a u Z Z') (ha : H a = some o0) (h1 : ∀ ps, o0 ≠ .tbl ps) (h2 : ∀ c q, o0 ≠ LamX.CodeO c q) (h3 : ∀ y, o0 ≠ .own y) (hw : Z' a = some w)
    (h0 : ∀ b, b ≠ a → G'.H0 b = G.H0 b) (hz0 : ∀ b, b ≠ a → G'.Z0 b = G.Z0 b) (hm : ∀ o, G'.H0 a = some o → o = w) (hf : ∀ o, Z' a = some o → G'.Z0 a = some o ∨ NewIn G'.H0 a o) (hz : ∀ o, G'.Z0 a = some o → o = w) : Fr G' Z' (upd H a w) ρ σ c := by
  obtain ⟨za, hza⟩ : ∃ o, Z a = some o := by
    rcases L.f with r | ⟨p, r⟩ <;> exact ⟨_, r⟩
  have own : ∀ {b : Addr}, Z b = none → b ≠ a := fun e z => by rw [z, hza] at e; cases e
  refine ⟨fun b o e => ?_, fun s e => ?_, fun s e => ?_, F.len, fun i s e => ?_, F.ap, fun b o e n => ?_, fun b o e => ?_, fun b o e => ?_, ?_⟩
  · by_cases hb : b = a
    · subst hb
      rw [hw] at e
      rw [upd_same]
      exact e
    · rw [upd_ne hb]
      rw [L.o b hb] at e
      exact F.zh b o e
  · rw [eS] at e
    obtain ⟨g1, g2⟩ := F.gs s e
    obtain ⟨n1, n2⟩ := F.st.noZ s e
    exact ⟨by rw [h0 _ (own n1)]; exact g1, by rw [h0 _ (own n2)]; exact g2⟩
  · rw [eS] at e
    have nt : ∀ vs, o0 ≠ .tup vs := fun vs z => by
      subst z
      rcases L.f with r | ⟨p, r⟩
      · have := F.zh _ _ r
        rw [ha] at this
        cases this
        exact nd_tup L.d
      · have := F.zh _ _ r
        rw [ha] at this
        cases this
    obtain ⟨g7, g8⟩ := F.st.noZ s e
    exact (F.st.keep (fun s e => ⟨upd_ne (own (F.st.noZ s e).1), upd_ne (own (F.st.noZ s e).2)⟩) (fun s e => ⟨by rw [L.o _ (own (F.st.noZ s e).1)]; exact (F.st.noZ s e).1, by rw [L.o _ (own (F.st.noZ s e).2)]; exact (F.st.noZ s e).2⟩) (.upd ha nt)) s e
  · have q := F.sl i s e
    cases s with
    | no => trivial
    | sh d =>
      obtain ⟨v, e1, r⟩ := q
      refine ⟨v, e1, ?_⟩
      rw [eS]
      exact r.lk L
    | ow d =>
      obtain ⟨b, e1, o, g1, g2, g3, g4⟩ := q
      refine ⟨b, e1, o, by rw [upd_ne (own g2)]; exact g1, by rw [L.o _ (own g2)]; exact g2, by rw [h0 _ (own g2)]; exact g3, ?_⟩
      rw [eS]
      exact g4.lk L
    | ob x C ns ds =>
      obtain ⟨b, e1, dx, fs, g1, g2, g3, g4, g5, g6, g7, g8⟩ := q
      refine ⟨b, e1, dx, fs, by rw [upd_ne (own g3)]; exact g1, by rw [upd_ne (own g4)]; exact g2, by rw [L.o _ (own g3)]; exact g3, by rw [L.o _ (own g4)]; exact g4, by rw [h0 _ (own g3)]; exact g5, by rw [h0 _ (own g4)]; exact g6, g7, ?_⟩
      rw [eS]
      exact g8.lk L
  · by_cases hb : b = a
    · subst hb
      rw [upd_same, hm o e]
    · rw [upd_ne hb]
      rw [h0 b hb] at e
      exact F.sm b o e fun s es => n s (by rw [eS]; exact es)
  · by_cases hb : b = a
    · subst hb
      exact hf o e
    · rw [L.o b hb] at e
      rcases F.fr b o e with q | q
      · exact .inl (by rw [hz0 b hb]; exact q)
      · exact .inr ⟨by rw [h0 b hb]; exact q.at_, q.nt⟩
  · by_cases hb : b = a
    · subst hb
      rw [hz o e]
      exact hw
    · rw [hz0 b hb] at e
      rw [L.o b hb]
      exact F.z0 b o e
  · rw [eT]
    exact tabs_upd F.tb ha h1 h2
section
variable {G : Gh} {Z Z' H H' : Hp} {ρ ρ' : Rho} {σ σ' : L2.St} {c c' n m : Nat} {a : Addr} {u : HO} {od : Obj}
theorem VOk.lk (L : Lk a u Z Z') {G' : Gh} {w : HO} {r : Vd} {v : V} (eS : G'.S = G.S) (hza : Z a ≠ none) (h0 : ∀ b, b ≠ a → G'.H0 b = G.H0 b) (o : VOk G Z H ρ σ r v) : VOk G' Z' (upd H a w) ρ σ r v := by
  cases r with
  | sh d =>
    show Rep G'.S Z' d v
    rw [eS]
    exact Rep.lk L o
  | nw d =>
    obtain ⟨b, e, ⟨o, g1, g2, g3, g4⟩, nn⟩ := o
    have hb : b ≠ a := fun z => by rw [z] at g2; exact hza g2
    refine ⟨b, e, ⟨o, by rw [upd_ne hb]; exact g1, by rw [L.o b hb]; exact g2, by rw [h0 b hb]; exact g3, ?_⟩, nn⟩
    rw [eS]
    exact g4.lk L
end
/-- the keys of the dict in slot i -/
@[simp] def dKeysI (i : Nat) : DTI := fun ρ Q _ => ∃ t ks vs, ρ[i]? = some (.sh (.dct t ks vs)) ∧ Q ks ρ
@[simp] def eKeys (i : Nat) : EA := fun ρ => match ρ[i]? with
  | some (.sh (.dct t ks vs)) => .ret (ks, ρ.set i (.sh (.dct t ks vs)))
  | some (.ow (.dct t ks vs)) => .ret (ks, ρ.set i (.sh (.dct t ks vs)))
  | _ => .bad
/-! ### [e for k in d] -/
end DL
set_option Elab.async false
set_option linter.all false
set_option maxRecDepth 100000
set_option maxHeartbeats 4000000
set_option Elab.async false
set_option linter.all false
set_option maxRecDepth 100000
set_option maxHeartbeats 4000000
namespace DL
open PySem L2 PyProof.Rows PySem.Spec
/-! ### a def called at one place alone -/
section
variable {CX : CXT} {P : Program} {w : World} {K : PySem.W.Frag} {mg : Str → Option Value} {base : Heap} {N ps : List Str} {x qual : Str} {params : Arguments} {bd : List Stmt} {scope : Scope} {dvs : List V} {kws : List (Str × V)} {f : Addr} {fd : FuncData} {k : Nat}
/-- what a frame's end gives -/
def endV : Flow → Value
  | .ret v => v
  | _ => .none
/-- how its frame ends -/
theorem frame_end {A : Around} {outer : List Env} {s s' : Shared} {H : Hp} {Q : VK} {E : XK} {cdv : Value} {fl : Flow} (h : SP (cxOf CX P w K mg base N qual scope f cdv A outer s H E) [] { nx := fun _ H' => Q .non H', rt := Q } fl s') :
    CE outer P w H s Q (endV fl) s' := by
  cases fl
  case brk => exact h.choose_spec.choose_spec.2.elim
  case cont => exact h.choose_spec.choose_spec.2.elim
  case next =>
    obtain ⟨_, H', J, q⟩ := h
    exact ⟨.non, H', J.os, J.bare, J.base, J.hok, rfl, q⟩
  case ret =>
    obtain ⟨v, _, H', J, r, q⟩ := h
    exact ⟨v, H', J.os, J.bare, J.base, J.hok, r, q⟩
theorem fn_at {A : Around} {outer : List Env} {s : Shared} {H : Hp} {args : Args} {us : List Value} {vs : List V} {Q : VK} {E : XK} (F : FunD K x qual params bd scope dvs kws f fd) (S : FnScope N ps scope) (hl : vs.length = ps.length) (hr : Room (k + 1) A) (e0 : Env0 P w K mg base A outer s H) (hb : BindsTo s fd args (ps.zip us)) (rv : Vals vs us)
    (body : ∀ cdv, fd.code = cdv → ∃ t, PSs (cxOf CX P w K mg base N qual scope f cdv A outer s H E) bd t ∧ t { nx := fun _ H' => Q .non H', rt := Q } (start N vs) H) : codeAny (model P w) A (.call (.ref f) args) (CR CX outer P w H s Q E) s := by
  obtain ⟨_, _, _, _, _, _, _, cdv, _, _, rfl, at', code, _, _⟩ := F.ex
  obtain ⟨t, run, says⟩ := body cdv rfl
  have kin : K.In s.heap := e0.mod.kin.keeps fun b o e => (e0.bs b o e).1
  have free : s.heap.NoLimit := e0.mod.nolimit.keeps fun b o e => (e0.bs b o e).1
  refine codeAny_call_function hr.depth (kin _ _ at') rfl S.co S.gen rfl (PySem.W.codeRec_of kin code) (hb _ _ _ _ (wpAny_newFunctionEnv_cells S.kind (fun p hp => ?_) fun env he s1 ic => ?_))
  · exact (S.par p.1 (List.of_mem_zip hp).1).imp id fun c => ⟨c, PySem.W.cellsFrom_some _ _ _ (.inl c)⟩
  · subst he
    exact ⟨free.keeps ic.toInCall.keep, codeAny_func (wpAny_mono (run.run [] s1 _ H _ (inv_start S hr.hd e0 hl rv ic) says) (fun fl s' h => by have := frame_end h; cases fl <;> exact this) fun _ _ h => h)⟩
end
/-! ### the law's own call -/
section
variable {P : Program} {w : World} {K : PySem.W.Frag} {mg mb : Str → Option Value} {s₁ : Shared} {vs : List Value} {ns : List Int} {a : Addr} {cs : List (Addr × Addr)}
def scr (vs : List Value) : Obj := { cls := .type "list", data := .seq vs.toArray }
def tb0 : Obj := { cls := .none, data := .fields #[] }
/-- what is tracked when the law begins: the tables, and the script -/
def topH (K : PySem.W.Frag) (cs : List (Addr × Addr)) (a : Addr) (u : HO) : Hp := fun b => if b ∈ cs.map (·.2) then some (.tbl #[]) else if b = a then (match K.lookup a with | none => some u | some _ => none) else none
structure TopIn (K : PySem.W.Frag) (mg mb : Str → Option Value) (s₁ : Shared) (vs : List Value) (ns : List Int) (a : Addr) (cs : List (Addr × Addr)) : Prop where
  kx : K.In s₁.heap
  g : s₁.heap.Ns mainGlobals mg
  b : s₁.heap.Ns builtinsNs mb
  bb : ∀ x : Str, x ≠ "__name__" → mb x = bootBuiltins x
  lim : s₁.heap.NoLimit
  sm : ∃ mm, s₁.heap.Ns sysModules mm
  gens : s₁.gens = #[]
  t : ∀ p ∈ cs, s₁.heap.get? p.2 = some tb0
  nt : ∀ p ∈ cs, K.lookup p.2 = none
  c : ∀ p ∈ cs, PySem.W.CodeHd s₁.heap p.1 p.2
  bm : ∃ (bm : Addr) (ob : Obj), mg "__builtins__" = some (.ref bm) ∧ bm ≠ builtinsNs ∧ s₁.heap.get? bm = some ob ∧ ob.cls = .type "module" ∧ ob.dict = some builtinsNs ∧ ob.data = .plain
  s : s₁.heap.get? a = some (scr vs)
  i : IntsAre vs ns
  l : ns.length ≤ sizeLine
abbrev topHp (K : PySem.W.Frag) (cs : List (Addr × Addr)) (a : Addr) (vs : List Value) (ns : List Int) : Hp := topH K cs a (.frz (scr vs) (.lst (ns.map V.int)))
theorem TopIn.tab {u : HO} (p : Addr × Addr) (h : p ∈ cs) : topH K cs a u p.2 = some (.tbl #[]) := if_pos (List.mem_map_of_mem h)
/-- what is tracked there is a table or the script -/
theorem TopIn.two (I : TopIn K mg mb s₁ vs ns a cs) {u o : HO} {b : Addr} (h : topH K cs a u b = some o) : (s₁.heap.get? b = some tb0 ∧ o = .tbl #[] ∧ ∃ p ∈ cs, p.2 = b) ∨ (b = a ∧ o = u ∧ K.lookup a = none) := by
  unfold topH at h
  split at h
  · rename_i m
    obtain ⟨p, hp, rfl⟩ := List.mem_map.mp m
    cases h
    exact .inl ⟨I.t p hp, rfl, p, hp, rfl⟩
  · split at h
    · rename_i e
      cases k : K.lookup a <;> rw [k] at h <;> cases h
      exact .inr ⟨e, rfl, rfl⟩
    · cases h
theorem TopIn.off (I : TopIn K mg mb s₁ vs ns a cs) {u : HO} {b : Addr} {o : Obj} (h : s₁.heap.get? b = some o) (n1 : ∀ xs n, o.data ≠ .seq xs n) (n2 : o.data ≠ .fields #[]) : topH K cs a u b = none := by
  cases e : topH K cs a u b with
  | none => rfl
  | some z =>
    rcases I.two e with ⟨t, _⟩ | ⟨rfl, _⟩
    · rw [h] at t; cases t; exact (n2 rfl).elim
    · have := I.s
      rw [h] at this; cases this; exact (n1 _ _ rfl).elim
theorem TopIn.offK (I : TopIn K mg mb s₁ vs ns a cs) {u : HO} {b : Addr} {o : Obj} (h : K.lookup b = some o) : topH K cs a u b = none := by
  cases e : topH K cs a u b with
  | none => rfl
  | some z =>
    rcases I.two e with ⟨_, _, p, hp, rfl⟩ | ⟨rfl, _, k⟩
    · rw [I.nt p hp] at h; cases h
    · rw [k] at h; cases h
theorem TopIn.nsp (I : TopIn K mg mb s₁ vs ns a cs) {u : HO} {b : Addr} {m : Str → Option Value} (h : s₁.heap.Ns b m) : (hidT s₁.heap (topH K cs a u)).Ns b m := by
  obtain ⟨o, es, ep, h1, h2, h3⟩ := h
  exact ⟨o, es, ep, hidT_get h1 (I.off h1 (by rw [h2]; intro _ _ z; cases z) (by rw [h2]; intro z; cases z)), h2, h3⟩
theorem TopIn.mod (I : TopIn K mg mb s₁ vs ns a cs) {u : HO} : L2.Mod K mg (hidT s₁.heap (topH K cs a u)) where
  kin := fun b o e => hidT_get (I.kx b o e) (I.offK e)
  glob := I.nsp I.g
  blt := ⟨mb, I.nsp I.b, I.bb⟩
  nolimit := ⟨I.lim.choose, I.nsp I.lim.choose_spec.1, I.lim.choose_spec.2⟩
theorem TopIn.ok (I : TopIn K mg mb s₁ vs ns a cs) : HOk P w (topHp K cs a vs ns) s₁.heap := fun b o e => by
  rcases I.two e with ⟨t, rfl, _⟩ | ⟨rfl, rfl, _⟩
  · exact t
  · exact ⟨I.s, by rw [List.length_map]; exact I.l, vs, _, vals_ints I.i, I.s⟩
theorem TopIn.scrL (I : TopIn K mg mb s₁ vs ns a cs) : SqL K (topHp K cs a vs ns) a (ns.map V.int) := by
  have na : a ∉ cs.map (·.2) := fun z => by
    obtain ⟨p, hp, e⟩ := List.mem_map.mp z
    have := I.t p hp
    rw [e, I.s] at this
    cases this
  cases k : K.lookup a with
  | some o =>
    have e := I.kx a o k
    rw [I.s] at e
    cases e
    exact .inr ⟨_, vs.toArray, _, k, rfl, rfl, rfl, by rw [List.size_toArray, IntsAre.length I.i]; exact I.l, by simpa using vals_ints I.i⟩
  | none => exact .inl (.inr ⟨scr vs, by show topH K cs a _ a = _; unfold topH; rw [if_neg na, if_pos rfl, k]⟩)
theorem TopIn.env0 (I : TopIn K mg mb s₁ vs ns a cs) : Env0 P w K mg (hidT s₁.heap (topHp K cs a vs ns)) callerA [] s₁ (topHp K cs a vs ns) where
  frames := rfl
  mod := I.mod
  bs := fun _ _ e => of_hidT e
  bsz := Nat.le_of_eq (hidT_size _ _)
  funs := trivial
  frf := fun _ h => nomatch h
  hok := I.ok
  bare := .of_eq I.gens
theorem TopIn.tabB (I : TopIn K mg mb s₁ vs ns a cs) (p : Addr × Addr) (hp : p ∈ cs) : LamX.TabB (hidT s₁.heap (topHp K cs a vs ns)) mg p.1 p.2 := by
  refine ⟨?_, ?_, fun z => ?_⟩
  · obtain ⟨o, us, file, tf, flags, tg, inF, text, tt, e1, e2, e3, e4⟩ := I.c p hp
    refine ⟨o, us, file, tf, flags, tg, inF, text, tt, hidT_get e1 (I.off e1 (by rw [e3]; intro _ _ z; cases z) fun z => ?_), e2, e3, e4⟩
    rw [e3] at z
    cases z
    have := e4.1
    simp at this
  · obtain ⟨bm, ob, h1, h2, h3, h4, h5, h6⟩ := I.bm
    refine ⟨bm, ob, h1, h2, fun z => ?_, fun z => ?_, hidT_get h3 (I.off h3 (by rw [h6]; intro _ _ z; cases z) (by rw [h6]; intro z; cases z)), h4, h5, h6⟩
    · obtain ⟨o, es, ep, g1, g2, _⟩ := I.g
      rw [← z, h3] at g1
      cases g1
      rw [h6] at g2
      cases g2
    · rw [z, I.t p hp] at h3
      cases h3
      cases h6
  · obtain ⟨o, es, ep, g1, g2, _⟩ := I.g
    rw [z, I.t p hp] at g1
    cases g1
    cases g2
/-- what was there is there behind the call, but for the tables, which grew -/
theorem TopIn.old (I : TopIn K mg mb s₁ vs ns a cs) {H' : Hp} {s' : Shared} (un : Un [] [] (topHp K cs a vs ns) H' s₁.heap s'.heap) (ok : HOk P w H' s'.heap) : OldK s₁.heap s'.heap := by
  have each : ∀ b o, s₁.heap.get? b = some o → s'.heap.get? b = some o ∨ ((∃ p ∈ cs, p.2 = b) ∧ o = tb0 ∧ ∃ more : Array Value, s'.heap.get? b = some { cls := .none, data := .fields more }) := fun b o h => by
    cases e : topHp K cs a vs ns b with
    | none => exact .inl (un.keep b o h e (fun z => nomatch z) fun z => nomatch z)
    | some u =>
      rcases I.two e with ⟨t, rfl, p, hp, rfl⟩ | ⟨rfl, rfl, _⟩
      · rw [h] at t
        obtain ⟨more, z⟩ := un.tbls _ _ e
        exact .inr ⟨⟨p, hp, rfl⟩, Option.some.inj t, _, ok _ _ z⟩
      · have z := un.frzs _ _ _ e
        have := I.s
        rw [h] at this
        cases this
        exact .inl (ok _ _ z).1
  refine ⟨fun b o h => ?_, fun b o h => ?_⟩
  · rcases each b o h with q | ⟨⟨p, hp, rfl⟩, rfl, more, q⟩
    · exact .inl q
    · exact .inr (.inl ⟨((I.c p hp).tab (I.t p hp)).isCodeTable, rfl, #[], more, rfl, by rw [Array.empty_append]; exact q⟩)
  · rcases each b o h with q | ⟨_, _, more, q⟩
    · exact ⟨_, q⟩
    · exact ⟨_, q⟩
theorem top_call {CX : CXT} {N : List Str} {y x qual : Str} {params : Arguments} {bd : List Stmt} {scope : Scope} {dvs : List V} {kws : List (Str × V)} {f : Addr} {fd : FuncData} {k : Nat} (I : TopIn K mg mb s₁ vs ns a cs) (F : FunD K x qual params bd scope dvs kws f fd) (S : FnScope N [y] scope) (hr : Room (k + 1) callerA) (hb : ∀ u : Value, BindsTo s₁ fd ⟨[u], []⟩ [(y, u)])
    (no : ∀ H e s', CX [] H s₁ (fun _ _ _ => False) e s' → False)
    (body : ∀ (base : Heap) (H : Hp) (cdv : Value), fd.code = cdv → (∃ o, base.get? sysModules = some o) → (∀ p ∈ cs, LamX.TabB base mg p.1 p.2) → (∀ p ∈ cs, H p.2 = some (.tbl #[])) → SqL K H a (ns.map V.int) →
      ∃ t, PSs (cxOf CX P w K mg base N qual scope f cdv callerA [] s₁ H fun _ _ _ => False) bd t ∧ t { nx := fun _ H' => (fun (v : V) (_ : Hp) => v = .bl true) .non H', rt := fun v _ => v = .bl true } (start N [.ref a]) H) :
    codeAny (model P w) callerA (.call (.ref f) ⟨[.ref a], []⟩) (fun r s' => r = .ok (.ret (.bool true)) ∧ OldK s₁.heap s'.heap ∧ s'.os = s₁.os ∧ AllBare s'.gens) s₁ := by
  refine codeAny_mono (fn_at (us := [.ref a]) (vs := [V.ref a]) (E := fun _ _ _ => False) (Q := fun v _ => v = .bl true) F S rfl hr I.env0 (hb (.ref a)) (.cons (a := V.ref a) rfl .nil) fun cdv hcd => body _ _ cdv hcd (let ⟨mm, h⟩ := I.sm; let ⟨o, _, _, e, _⟩ := I.nsp h; ⟨o, e⟩) I.tabB TopIn.tab I.scrL) fun r s' h => ?_
  match r, h with
  | .error e, h => exact (no _ _ _ h).elim
  | .ok (.ret u), h =>
    obtain ⟨v, H', os, bare, un, ok, rv, q⟩ := h
    have q : v = .bl true := q
    subst q
    obtain rfl : u = Value.bool true := rv
    exact ⟨rfl, I.old un ok, os, bare⟩
/-- the end of a law whose own frame is run at the caller alone -/
theorem walk_top {l : PySem.W.OpenLaw} {n : Nat} {q : Program} {loose : List Str} {XP : (Str → Option Value) → Heap → Prop} {YP : World → Heap → Prop} {d : DefRec} (hn : l.most = some n) (hn2 : n ≤ sizeLine) (hdf : d.params.defaults = []) (imp : importsNone q = true)
    (F : ∀ (w : World) (mg : Str → Option Value) (fa : Addr) (h : Heap), YP w h → h.Ns mainGlobals mg → mg d.name = some (.ref fa) → ∃ K : PySem.W.Frag, K.In h ∧ ∃ cs : List (Addr × Addr), (∀ p ∈ cs, h.get? p.2 = some tb0) ∧ (∀ p ∈ cs, K.lookup p.2 = none) ∧ (∀ p ∈ cs, PySem.W.CodeHd h p.1 p.2) ∧
      ∀ (s₁ : Shared) (mb : Str → Option Value) (a : Addr) (vs : List Value) (ns : List Int), TopIn K mg mb s₁ vs ns a cs → codeAny (model l.prog w) callerA (.call (.ref fa) ⟨[.ref a], []⟩) (fun r s' => r = .ok (.ret (.bool true)) ∧ OldK s₁.heap s'.heap ∧ s'.os = s₁.os ∧ AllBare s'.gens) s₁) :
    PySem.W.WalkO q loose XP YP l.row.toRowW d [] (fun f vs => PySem.call f vs) := by
  refine Att.attach_callB hn hdf fun w s₀ s₁ mg mb fa o pm cd doc a vs ns G Y _ _ _ hmg hobj hints hlen _ hg => ?_
  obtain ⟨K, kx, cs, h1, h2, h3, h4⟩ := F w mg fa _ Y G.T.g hmg
  obtain ⟨mm, e, _⟩ := (G.T.seer imp).mods
  exact h4 s₁ mb a vs ns ⟨kx, G.T.g, G.T.b, G.T.builtins, G.T.nolimit, ⟨mm, e⟩, hg, h1, h2, h3, G.T.bmain, hobj, hints, Nat.le_trans hlen hn2⟩
end
end DL
set_option Elab.async false
set_option linter.all false
set_option maxRecDepth 100000
set_option maxHeartbeats 4000000
set_option Elab.async false
set_option linter.all false
set_option maxRecDepth 100000
set_option maxHeartbeats 4000000
namespace DL
open PySem L2 PyProof.Rows
/-! ### the classes of errors at the head -/
def oexO (C : Addr) : Obj → Bool
  | ⟨.type "type", _, .cls cd, sl⟩ => (match cd.mro, sl.toList with
    | .ref C' :: bm, [_, _, _, _, some (.builtin n), _] => C' == C && n == "ValueError.__new__" && !cd.hasDel && cd.hasDict && PySem.HandSPX.refsVE bm
    | _, _ => false)
  | _ => false
def oexB (K : PySem.W.Frag) (C : Addr) : Bool := (match K.lookup C with
  | some o => oexO C o
  | none => false) && (decide (PySem.W.findIn K (.ref C) "__setattr__" = some (some (.builtin "object.__setattr__"))) && (decide (PySem.W.subIn K (.ref C) (.type "BaseException") = some true) && (decide (PySem.W.typeIn K (.ref C) = some (.type "type")) && PySem.W.keepIn K (.ref C))))
theorem oexB_ok {K : PySem.W.Frag} {C : Addr} (h : oexB K C = true) : OexC K C := by
  obtain ⟨h1, h⟩ := Bool.and_eq_true_iff.mp h
  obtain ⟨h2, h⟩ := Bool.and_eq_true_iff.mp h
  obtain ⟨h3, h⟩ := Bool.and_eq_true_iff.mp h
  obtain ⟨h4, h5⟩ := Bool.and_eq_true_iff.mp h
  refine ⟨?_, of_decide_eq_true h2, of_decide_eq_true h3, of_decide_eq_true h4, h5⟩
  split at h1
  · rename_i o ho
    unfold oexO at h1
    split at h1
    · rename_i dd cd sl
      split at h1
      · rename_i C' bm k0 k1 k2 k3 n k5 hm hs
        simp only [Bool.and_eq_true, beq_iff_eq, Bool.not_eq_true'] at h1
        obtain ⟨⟨⟨⟨rfl, rfl⟩, hdel⟩, hdict⟩, hv⟩ := h1
        obtain ⟨nm, bs, mro, ns, qn, hd, sn, sub, ab, col, del⟩ := cd
        dsimp only at hm hdel hdict
        subst hm hdel hdict
        obtain ⟨l⟩ := sl
        have e : l = [k0, k1, k2, k3, some (.builtin "ValueError.__new__"), k5] := hs
        subst e
        exact ⟨nm, qn, ns, bs, bm, sn, sub, ab, col, dd, k0, k1, k2, k3, k5, ho, hv⟩
      · cases h1
    · cases h1
  · cases h1
end DL
set_option Elab.async false
set_option linter.all false
set_option maxRecDepth 100000
set_option maxHeartbeats 4000000
namespace DL
open PySem L2 PyProof.Rows
/-! ### is True, is not False -/
@[simp] def fIsB (neg : Bool) : List D → Option Vd
  | [.bl a, .bl b] => some (.sh (.bl (neg ^^ (a == b))))
  | _ => none
/-! ### a text so many times -/
instance (x : Str) (n : Int) : Decidable (MulOk x n) := inferInstanceAs (Decidable (_ ∧ _ ∧ _))
/-! ### errors and lambdas at the head -/
def errB (K : PySem.W.Frag) (x : Str) (fs : List Str) : Bool := oexB K (He.ga K x) && (xfB K (He.ga K x) && (decide (PySem.W.findIn K (.ref (He.ga K x)) "__init__" = some (some (.ref (He.fAd K (x, some "__init__"))))) && (decide (PySem.W.typeIn K (.ref (He.fAd K (x, some "__init__"))) = some (.type "function")) && fs.all fun f => decide (PySem.W.findIn K (.ref (He.ga K x)) f = some none))))
structure ErrK (K : PySem.W.Frag) (x : Str) (fs : List Str) : Prop where
  T : OexC K (He.ga K x)
  xf : XfC K (He.ga K x)
  iC : PySem.W.findIn K (.ref (He.ga K x)) "__init__" = some (some (.ref (He.fAd K (x, some "__init__"))))
  tI : PySem.W.typeIn K (.ref (He.fAd K (x, some "__init__"))) = some (.type "function")
  no : ∀ f ∈ fs, PySem.W.findIn K (.ref (He.ga K x)) f = some none
theorem errK_of {K : PySem.W.Frag} {x : Str} {fs : List Str} (h : errB K x fs = true) : ErrK K x fs := by
  obtain ⟨h1, h⟩ := Bool.and_eq_true_iff.mp h
  obtain ⟨h2, h⟩ := Bool.and_eq_true_iff.mp h
  obtain ⟨h3, h⟩ := Bool.and_eq_true_iff.mp h
  obtain ⟨h4, h5⟩ := Bool.and_eq_true_iff.mp h
  exact ⟨oexB_ok h1, xfB_ok h2, of_decide_eq_true h3, of_decide_eq_true h4, fun f hf => of_decide_eq_true (List.all_eq_true.mp h5 f hf)⟩
def lamB (K : PySem.W.Frag) (p : He.Defn) (q : Str) : Bool := (match K.lookup (He.fAd K p) with
  | some ⟨_, _, .func fd, _⟩ => decide (fd.code = .ref (He.codeOf K p))
  | _ => false) && (tabsOf K).contains ((He.cT K p).2, q)
def exE (tf : List He.Defn) (es : List (Str × List Str)) (ls : List (He.Defn × Str)) (K : PySem.W.Frag) : Bool := exT tf K && ((es.all fun e => errB K e.1 e.2) && (decide ((es.map fun e => He.ga K e.1).Nodup) &&
  ((es.all fun e => es.all fun e' => decide (PySem.W.exmOne K (.ref (He.ga K e.1)) (.ref (He.ga K e'.1)) = some (decide (He.ga K e.1 = He.ga K e'.1)))) && ls.all fun l => lamB K l.1 l.2)))
section
variable {tf : List He.Defn} {es : List (Str × List Str)} {ls : List (He.Defn × Str)} {K : PySem.W.Frag}
theorem exE_T (h : exE tf es ls K = true) : exT tf K = true := (Bool.and_eq_true_iff.mp h).1
theorem exE_err (h : exE tf es ls K = true) {e : Str × List Str} (he : e ∈ es) : ErrK K e.1 e.2 := by
  obtain ⟨_, h⟩ := Bool.and_eq_true_iff.mp h
  obtain ⟨h, _⟩ := Bool.and_eq_true_iff.mp h
  exact errK_of (List.all_eq_true.mp h e he)
theorem exE_nd (h : exE tf es ls K = true) : (es.map fun e => He.ga K e.1).Nodup := by
  obtain ⟨_, h⟩ := Bool.and_eq_true_iff.mp h
  obtain ⟨_, h⟩ := Bool.and_eq_true_iff.mp h
  exact of_decide_eq_true (Bool.and_eq_true_iff.mp h).1
theorem exE_errs (h : exE tf es ls K = true) : Errs K (es.map fun e => He.ga K e.1) := ⟨fun C hC C' hC' => by
  obtain ⟨_, h⟩ := Bool.and_eq_true_iff.mp h
  obtain ⟨_, h⟩ := Bool.and_eq_true_iff.mp h
  obtain ⟨_, h⟩ := Bool.and_eq_true_iff.mp h
  obtain ⟨h, _⟩ := Bool.and_eq_true_iff.mp h
  obtain ⟨e, he, rfl⟩ := List.mem_map.mp hC
  obtain ⟨e', he', rfl⟩ := List.mem_map.mp hC'
  exact of_decide_eq_true (List.all_eq_true.mp (List.all_eq_true.mp h e he) e' he')⟩
end
end DL
set_option Elab.async false
set_option linter.all false
set_option maxRecDepth 100000
set_option maxHeartbeats 4000000
set_option Elab.async false
set_option linter.all false
set_option maxRecDepth 100000
set_option maxHeartbeats 1000000
namespace DL
open PySem L2 PyProof.Rows
/-! ### all signs of what repr shows are signs -/
/-! ### repr(x) as a text -/
/-! ### a, b, c = a tuple or a list -/
@[simp] def sqOf : D → Option (List D)
  | .tup ds => some ds
  | .lst ds => some ds
  | _ => none
@[simp] def gQs (gs : DTGs) : DTG := fun d ρ Q => ∃ ds, sqOf d = some ds ∧ gs ds ρ Q
@[simp] def gQ (gs : EGs) : EG := fun d ρ => match sqOf d with
  | some ds => gs ds ρ
  | none => none
/-! ### what a def says behind its try -/
end DL
set_option Elab.async false
set_option linter.all false
set_option maxRecDepth 100000
set_option maxHeartbeats 4000000
set_option Elab.async false
set_option linter.all false
set_option maxRecDepth 100000
set_option maxHeartbeats 4000000
namespace DL
open PySem L2 PyProof.Rows
/-! ### {k: v for ..} over data, the keys tuples -/
def dDictGoT (g : DTG) (tt : DTT) (tk tv : DTE) (vs : List Nat) (Q : Vd → Rho → Prop) : List D → List D → List D → Rho → Prop
  | [], ks, us, ρ => Q (.nw (.dct true ks us)) ρ
  | d :: ds, ks, us, ρ => g d ρ fun ρ1 => tt ρ1 (fun b ρ2 => if b = true then tk ρ2 (fun y ρ3 => tv ρ3 (fun z ρ4 => keyFit true y.d = true ∧ dDictGoT g tt tk tv vs Q ds (putKs ks y.d) (putVs ks us y.d z.d) (wipeR ρ4 vs)) noW) noW
    else dDictGoT g tt tk tv vs Q ds ks us (wipeR ρ2 vs)) noW
@[simp] def dDictCT (ti : DTI) (g : DTG) (tt : DTT) (tk tv : DTE) (vs : List Nat) : DTE := fun ρ Q W => ti ρ (fun ds ρ1 => dDictGoT g tt tk tv vs Q ds [] [] (wipeR ρ1 vs)) W
end DL
set_option Elab.async false
set_option linter.all false
set_option maxRecDepth 100000
set_option maxHeartbeats 4000000
namespace DL
open PySem L2 PyProof.Rows
/-! ### for k, v in d.items(): d new, its keys tuples -/
@[simp] def itemsD (ks vs : List D) : List D := List.zipWith (fun k v => D.tup [k, v]) ks vs
@[simp] def asNwT : Vd → Option (List D × List D)
  | .nw (.dct true ks vs) => some (ks, vs)
  | _ => none
@[simp] def iItemsT (a : EE) : EA := fun ρ => (a ρ).bind fun p => opt (asNwT p.1) fun x => .ret (itemsD x.1 x.2, p.2)
end DL
set_option Elab.async false
set_option linter.all false
set_option maxRecDepth 100000
set_option maxHeartbeats 4000000
namespace DL
open PySem L2 PyProof.Rows
/-! ### slices of lists and of tuples, the whole of a tuple too -/
def wholeS (n : Nat) (lo hi : Option Int) : Prop := HT.sIx n 0 lo = 0 ∧ HT.sIx n n hi = n
instance (n : Nat) (lo hi : Option Int) : Decidable (wholeS n lo hi) := inferInstanceAs (Decidable (_ ∧ _))
def fSlA : D → Option Int → Option Int → Option Vd
  | .lst ds, lo, hi => some (.nw (.lst (cutD ds lo hi)))
  | .tup ds, lo, hi => some (.sh (.tup (if wholeS ds.length lo hi then ds else cutD ds lo hi)))
  | _, _, _ => none
@[simp] def eSlA (a : EE) (lo hi : EO) : EE := fun ρ => (a ρ).bind fun p => (lo p.2).bind fun q => (hi q.2).bind fun r => opt (fSlA p.1.d q.1 r.1) fun z => .ret (z, r.2)
end DL
set_option Elab.async false
set_option linter.all false
set_option maxRecDepth 100000
set_option maxHeartbeats 4000000
namespace DL
open PySem L2 PyProof.Rows
/-! ### min of a list of pairs of ints -/
@[simp] def prsD : List D → Option (List (Int × Int))
  | [] => some []
  | .tup [.int i, .int j] :: ds => (prsD ds).map ((i, j) :: ·)
  | _ :: _ => none
def PairAt (K : PySem.W.Frag) (H : Hp) (v : V) (p : Int × Int) : Prop := ∃ b, v = .ref b ∧ SqT K H b [.int p.1, .int p.2]
inductive PairsAt (K : PySem.W.Frag) (H : Hp) : List V → List (Int × Int) → Prop
  | nil : PairsAt K H [] []
  | cons {v vs p ps} : PairAt K H v p → PairsAt K H vs ps → PairsAt K H (v :: vs) (p :: ps)
theorem PairsAt.get {K : PySem.W.Frag} {H : Hp} : ∀ {vs : List V} {ps : List (Int × Int)} {i : Nat} {v : V}, PairsAt K H vs ps → vs[i]? = some v → ∃ p, ps[i]? = some p ∧ PairAt K H v p
  | _, _, _, _, .nil, e => by simp at e
  | _, _, 0, _, .cons h _, e => by simp at e; subst e; exact ⟨_, rfl, h⟩
  | _, _, i + 1, _, .cons _ t, e => by
    obtain ⟨p, h1, h2⟩ := PairsAt.get (i := i) t (by simpa using e)
    exact ⟨p, by simpa using h1, h2⟩
section
variable {X : Cx} {n m k : Nat} {a b e o : Expr} {es : List Expr} {ta ti : DTE} {p p2 q pos : Pos}
/-! ### sum of a list of ints -/
/-! ### range(a, b, -1) -/
def rangeDn (lo : Int) (n : Nat) : List D := (List.range n).map fun (i : Nat) => D.int (lo - (i : Int))
@[simp] def dRngDn (ts : DTA) : DTI := fun ρ Q W => ts ρ (fun ds ρ1 => ∃ i j : Int, ds = [.int i, .int j, .int (-1)] ∧ (i - j).toNat ≤ sizeLine ∧ (-(2 ^ 62) ≤ i ∧ i < 2 ^ 62 ∧ -(2 ^ 62) ≤ j ∧ j < 2 ^ 62) ∧ Q (rangeDn i (i - j).toNat) ρ1) W
end
@[simp] def three3 : List D → Option (D × D × D)
  | [a, b, c] => some (a, b, c)
  | _ => none
@[simp] def iRngDn (a : EA) : EA := fun ρ => (a ρ).bind fun p => opt (three3 p.1) fun x => opt (asInt x.1) fun i => opt (asInt x.2.1) fun j => opt (asInt x.2.2) fun k => req (k = -1 ∧ (i - j).toNat ≤ sizeLine ∧ (-(2 ^ 62) ≤ i ∧ i < 2 ^ 62 ∧ -(2 ^ 62) ≤ j ∧ j < 2 ^ 62)) (.ret (rangeDn i (i - j).toNat, p.2))
end DL
set_option Elab.async false
set_option linter.all false
set_option maxRecDepth 100000
set_option maxHeartbeats 4000000
namespace DL
open PySem L2 PyProof.Rows
/-! ### a, b, c, d, .. = x, y, z, u, .. by a tuple: the tuple itself is not kept -/
def setsR : List Nat → List Vd → Rho → Rho
  | i :: is, r :: rs, ρ => setsR is rs (ρ.set i r.slot)
  | _, _, ρ => ρ
section
variable {G : Gh} {Z H : Hp}
theorem VOks.len : ∀ {ρ : Rho} {σ : L2.St} {rs : List Vd} {vs : List V}, VOks G Z H ρ σ rs vs → rs.length = vs.length
  | _, _, [], [], _ => rfl
  | _, _, [], _ :: _, h => by simp [VOks] at h
  | _, _, _ :: _, [], h => by simp [VOks] at h
  | ρ, σ, r :: rs, v :: vs, h => by
    rw [VOks] at h
    simp [VOks.len h.2.1]
theorem VOks.put {ρ : Rho} {σ : L2.St} {c i : Nat} {r : Vd} {v : V} (F : Fr G Z H ρ σ c) (o : VOk G Z H ρ σ r v) : ∀ {rs : List Vd} {vs : List V}, VOks G Z H ρ σ rs vs → (r.isNw = true → ∀ p ∈ rs.zip vs, p.1.isNw = true → p.2 ≠ v) → VOks G Z H (ρ.set i r.slot) (σ.set i (some v)) rs vs
  | [], [], _, _ => by simp [VOks]
  | [], _ :: _, h, _ => by simp [VOks] at h
  | _ :: _, [], h, _ => by simp [VOks] at h
  | s :: rs, w :: vs, h, ne => by
    rw [VOks] at h ⊢
    refine ⟨F.put2 (i := i) o h.1 fun h1 h2 => ne h1 (s, w) (by simp) h2, VOks.put F o h.2.1 fun h1 p hp h2 => ne h1 p (by simp [hp]) h2, h.2.2⟩
end
@[simp] def eParN (is : List Nat) (v : EV) : ES := fun ρ => (v ρ).bind fun p => req (p.1.length = is.length ∧ p.1.length ≤ sizeLine) (.ret (.nx (setsR is p.1 p.2)))
/-! ### calls, returns: readings kept closed (else the unifier runs a call whose arguments are all written) -/
theorem fe_dcall {X : Cx} {n : Nat} {e : Expr} {f : FN} {ra : EA} (h : DE X n e (dCall (tF f) [] (tA ra))) : DE X n e (tE (eCall f [] ra)) := DE.imp h fun _ _ _ t => im_call t
theorem fs_ret {X : Cx} {n : Nat} {e : Expr} {fe : EE} {pos : Pos} (h : DE X n e (tE fe)) : DS X n (.Return (some e) pos) (tS (eRet fe)) := DS.imp (ds_ret h) fun _ _ _ t => im_ret t
/-! ### an empty dict whose keys will be tuples -/
@[simp] def dDictT : DTE := fun ρ Q _ => Q (.nw (.dct true [] [])) ρ
@[simp] def eDictTE : EE := fun ρ => .ret (.nw (.dct true [] []), ρ)
end DL
set_option Elab.async false
set_option linter.all false
set_option maxRecDepth 100000
set_option maxHeartbeats 4000000
set_option Elab.async false
set_option linter.all false
set_option maxRecDepth 100000
set_option maxHeartbeats 4000000
set_option Elab.async false
set_option linter.all false
set_option maxRecDepth 100000
set_option maxHeartbeats 4000000
namespace DL
open PySem L2 PyProof.Rows PySem.W NdefX
/-! ### sorted(d, key=lambda x: ..), d with tuple keys -/
def signI (neg : Bool) (i : Int) : Int := match neg with
  | false => i
  | true => -i
section
variable {X : Cx} {x d q : Str} {scope : Scope} {params : Arguments} {neg : Bool} {p1 p2 p3 p4 : Pos}
theorem reps_each {S : Option Stm} {Z : Hp} {α : Type} {f : α → D} {v : α → V} : ∀ {l : List α}, (∀ x ∈ l, Rep S Z (f x) (v x)) → Reps S Z (l.map f) (l.map v)
  | [], _ => Reps.nil
  | a :: l, h => Reps.cons (h a List.mem_cons_self) (reps_each fun x hx => h x (List.mem_cons_of_mem _ hx))
end
/-! ### over data -/
def intAt (ks vs : List D) (k : D) : Option Int := match lookD ks vs k with
  | some (.int j) => some j
  | _ => none
def fSortL (neg : Bool) (o : Option Slot) : D → Option Vd
  | .dct true ks _ => match o with
    | some (.sh (.dct true us ws)) => if ks.all (fun k => (intAt us ws k).isSome) = true then some (.nw (.lst (ks.mergeSort fun a b => decide (signI neg ((intAt us ws a).getD 0) ≤ signI neg ((intAt us ws b).getD 0))))) else none
    | _ => none
  | _ => none
@[simp] def eSortL (neg : Bool) (i : Nat) (a : EE) : EE := fun ρ => (a ρ).bind fun p => opt (fSortL neg p.2[i]? p.1.d) fun z => .ret (z, p.2)
end DL
set_option Elab.async false
set_option linter.all false
set_option maxRecDepth 100000
set_option maxHeartbeats 4000000
namespace DL
open PySem L2 PyProof.Rows
/-! ### a new list that nobody holds is changed: f(..).append("x") -/
@[simp] def newLv : Vd → Option (List D)
  | .nw (.lst xs) => some xs
  | _ => none
@[simp] def eApp (a : EE) : EE := fun ρ => (a ρ).bind fun p => opt (newLv p.1) fun xs => req (xs.length < sizeLine) (.ret (.sh .non, p.2))
section
variable {X : Cx} {n : Nat} {o e : Expr} {ta : DTE} {fa : EE} {pos apos cpos p q : Pos} {x : Str} {j : Nat}
/-! ### list(range(n)) -/
def rgD (n : Int) : List D := (List.range n.toNat).map fun i => .int (i : Nat)
def fRgL : List D → Option Vd
  | [.int n] => if 0 ≤ n ∧ n ≤ 16777216 then some (.nw (.lst (rgD n))) else none
  | _ => none
theorem rgD_reps {S : Option Stm} {Z : Hp} (n : Int) : Reps S Z (rgD n) (rgV 0 n) := by
  unfold rgD rgV
  rw [Int.sub_zero]
  exact reps_each fun i _ => by rw [Rep, Int.zero_add]
theorem pur_rgL : Pur (fun vs H Q => ∃ x, vs = [x] ∧ ∃ n, x = V.int n ∧ RgOk 0 n ∧ ∀ q, H q = none → Q (.ref q) (upd H q (.lst (rgV 0 n)))) fRgL := fun S vs H Z ds res Q zh rs e k => by
  unfold fRgL at e
  split at e
  · rename_i n
    split at e
    · rename_i ok
      cases e
      obtain ⟨v, rfl, rv⟩ := rs.one
      rw [Rep.int_iff] at rv
      subst rv
      refine ⟨_, rfl, n, rfl, RgOk.of_le (by omega) ok.2 (by omega) ok.1, fun q hq => ?_⟩
      refine k Z _ _ (fun _ _ e => e) (zh.trans (sub_upd hq)) (sub_upd hq) (fun _ _ e => .inl e) ⟨q, _, rfl, upd_same, freeZ zh hq, hq, _, rfl, ?_, rgD_reps n⟩
      unfold rgD
      rw [List.length_map, List.length_range, sizeLine_eq]
      omega
    · cases e
  · cases e
theorem fe_rgL (hc : X.calm = true) (hg : Gl X "list") (hm : X.mg "list" = none) (hg2 : Gl X "range") (hm2 : X.mg "range" = none) (ha : DE X n e (tE fa)) (na : starEach [e] X.env = (false, eval e X.env) :: starEach [] X.env := by rfl)
    (nb : starEach [.Call (.Name "range" q) [e] [] cpos] X.env = (false, eval (.Call (.Name "range" q) [e] [] cpos) X.env) :: starEach [] X.env := by rfl) :
    DE X n (.Call (.Name "list" p) [.Call (.Name "range" q) [e] [] cpos] [] pos) (tE (eOp1 fRgL fa)) :=
  DE.imp (ta := dOp1 fRgL (tE fa)) (fun G W tk => PE.weak (pe_listRg hc hg hm (prg_1 hg2 hm2 (ha G W tk) na) nb) fun σ H Q h => by
    have h' := one_ok (r := fun x H Q => ∃ n, x = V.int n ∧ RgOk 0 n ∧ ∀ q, H q = none → Q (.ref q) (upd H q (.lst (rgV 0 n)))) pur_rgL h
    obtain ⟨Z, ρ, c, Qd, F, hc, t, k⟩ := h'
    exact ⟨Z, ρ, c, Qd, F, hc, t, k⟩) fun ρ Q W t => im_op1 t
end
end DL
set_option Elab.async false
set_option linter.all false
set_option maxRecDepth 100000
set_option maxHeartbeats 4000000
set_option Elab.async false
set_option linter.all false
set_option maxRecDepth 100000
set_option maxHeartbeats 4000000
namespace DL
open PySem L2 PyProof.Rows
/-! ### zip(seq, seq, seq) -/
def zip3D (xs ys zs : List D) : List D := (xs.zip (ys.zip zs)).map fun d => D.tup [d.1, d.2.1, d.2.2]
@[simp] def three3D : List D → Option (D × D × D)
  | [x, y, z] => some (x, y, z)
  | _ => none
@[simp] def iZip3 (a : EA) : EA := fun ρ => (a ρ).bind fun p => opt (three3D p.1) fun x => opt (itemsOf x.1) fun xs => opt (itemsOf x.2.1) fun ys => opt (itemsOf x.2.2) fun zs => .ret (zip3D xs ys zs, p.2)
/-! ### d.get(k, x) -/
@[simp] def eGet2 (a b x : EE) : EE := fun ρ => (a ρ).bind fun p => opt (asDctD p.1.d) fun y => (b p.2).bind fun q => req (keyFit y.1 q.1.d = true) ((x q.2).bind fun r => .ret (.sh ((lookD y.2.1 y.2.2 q.1.d).getD r.1.d), r.2))
/-! ### dict(pairs) -/
end DL
set_option Elab.async false
set_option linter.all false
set_option maxRecDepth 100000
set_option maxHeartbeats 4000000
namespace DL
open PySem L2 PyProof.Rows
/-! ### defs as values: f is held by a name, what is called is the def at its address -/
@[simp] def asFn : Option Slot → Option (Addr × Str)
  | some (.sh (.fn a n)) => some (a, n)
  | _ => none
@[simp] def lookFn : List (Str × Addr × FN) → Str → Option (Addr × FN)
  | [], _ => none
  | q :: l, n => if q.1 = n then some q.2 else lookFn l n
structure HeldD (P : Program) (w : World) (K : PySem.W.Frag) (mg : Str → Option Value) (base : Heap) (k m : Nat) (f : Addr) (G : FN) : Prop where
  ex : ∃ (fd : FuncData) (ps : List Str) (m' : Nat), m' ≤ m ∧ FnOk P w K mg base (L2.CX P w) k f fd ps (spD K m' (tF G)) ∧ PySem.W.keepIn K (.ref f) = true ∧ Binds K fd ps []
theorem HeldD.of {P : Program} {w : World} {K : PySem.W.Frag} {mg : Str → Option Value} {base : Heap} {j k m m' : Nat} {f : Addr} {fd : FuncData} {ps : List Str} {G : FN} (F : FnOk P w K mg base (L2.CX P w) j f fd ps (spD K m' (tF G))) (hj : j ≤ k) (hm : m' ≤ m) (hk : PySem.W.keepIn K (.ref f) = true) (hb : Binds K fd ps []) : HeldD P w K mg base k m f G :=
  ⟨fd, ps, m', hm, F.mono hj, hk, hb⟩
/-! ### defs that are called where nothing is guarded (so they may show data) -/
structure FnG (P : Program) (w : World) (K : PySem.W.Frag) (mg : Str → Option Value) (base : Heap) (CX : CXT) (k : Nat) (f : Addr) (fd : FuncData) (ps : List Str) (sp : Sp) : Prop where
  len : ∀ vs H Q E, sp vs H Q E → vs.length = ps.length
  run : ∀ (A : Around) (outer : List Env) (s : Shared) (H : Hp) (args : Args) (us : List Value) (vs : List V) (Q : VK) (E : XK), A.guards = some [] → Room k A → Env0 P w K mg base A outer s H → BindsTo s fd args (ps.zip us) → Vals vs us → sp vs H Q E →
    codeAny (model P w) A (.call (.ref f) args) (CR CX outer P w H s Q E) s
section
variable {P : Program} {w : World} {K : PySem.W.Frag} {mg : Str → Option Value} {base : Heap} {x qual : Str} {params : Arguments} {body : List Stmt} {scope : Scope} {dvs : List V} {kws : List (Str × V)} {f : Addr} {fd : FuncData} {N ps : List Str} {k n np nn : Nat} {b : ES}
theorem FnG.mono {CX : CXT} {j k : Nat} {sp : Sp} (F : FnG P w K mg base CX j f fd ps sp) (h : j ≤ k) : FnG P w K mg base CX k f fd ps sp :=
  ⟨F.len, fun A outer s H args us vs Q E hg hr => F.run A outer s H args us vs Q E hg (hr.mono h)⟩
end
end DL
set_option Elab.async false
set_option linter.all false
set_option maxRecDepth 100000
set_option maxHeartbeats 4000000
namespace DL
open PySem L2 PyProof.Rows
/-! ### texts, each once -/
def addT (acc : List Str) (x : Str) : List Str := if acc.any (· == x) then acc else acc ++ [x]
def onceT (xs : List Str) : List Str := xs.foldl addT []
theorem addT_any (acc : List Str) (x k : Str) : (acc.any (· == k) || decide (k = x)) = (addT acc x).any (· == k) := by
  unfold addT
  by_cases h : acc.any (· == x) = true
  · rw [if_pos h]
    by_cases e : k = x
    · subst e; rw [h]; rfl
    · simp [e]
  · rw [if_neg h, List.any_append]
    by_cases e : k = x
    · subst e; simp
    · have e' : (x == k) = false := beq_eq_false_iff_ne.mpr (Ne.symm e)
      simp [e, e']
theorem addT_len (acc : List Str) (x : Str) : (if acc.any (· == x) = true then acc.length else acc.length + 1) = (addT acc x).length := by
  unfold addT
  split <;> simp
theorem onceT_le : ∀ (xs acc : List Str), (xs.foldl addT acc).length ≤ acc.length + xs.length
  | [], acc => by simp
  | x :: xs, acc => by
    have h := onceT_le xs (addT acc x)
    have h2 := addT_len acc x
    rw [List.foldl_cons, List.length_cons]
    split at h2 <;> omega
theorem foldl_addT_nodup : ∀ (xs acc : List Str), xs.Nodup → (∀ x ∈ xs, x ∉ acc) → xs.foldl addT acc = acc ++ xs
  | [], acc, _, _ => by simp
  | x :: xs, acc, nd, h => by
    rw [List.nodup_cons] at nd
    have hx : acc.any (· == x) = false := by
      cases q : acc.any (· == x) with
      | false => rfl
      | true =>
        obtain ⟨y, hy, e⟩ := List.any_eq_true.mp q
        rw [beq_iff_eq] at e
        subst e
        exact absurd hy (h y List.mem_cons_self)
    have e : addT acc x = acc ++ [x] := by unfold addT; rw [hx]; rfl
    rw [List.foldl_cons, e, foldl_addT_nodup xs _ nd.2 fun y hy z => ?_]
    · simp
    · rcases List.mem_append.mp z with z | z
      · exact h y (List.mem_cons_of_mem _ hy) z
      · rw [List.mem_singleton.mp z] at hy; exact nd.1 hy
theorem onceT_nodup {xs : List Str} (h : xs.Nodup) : onceT xs = xs := by
  unfold onceT
  rw [foldl_addT_nodup xs [] h fun _ _ z => nomatch z]
  rfl
def TSet (P : Program) (w : World) (h : Heap) (S : Addr) (ys : List Str) : Prop := h.SetOf (PySem.strKind P w) S (fun k => ys.any (· == k)) ys.length
theorem TSet.at {P : Program} {w : World} {h h' : Heap} {S : Addr} {ys : List Str} (x : TSet P w h S ys) (k : ∀ o, h.get? S = some o → h'.get? S = some o) : TSet P w h' S ys := by
  obtain ⟨o, es, ep, tb, ho, rest⟩ := x
  exact ⟨o, es, ep, tb, k _ ho, rest⟩
section
variable {prog : Program} {w : World} {A : Around} {E : Value → Shared → Prop} {s : Shared}
/-- a text is put among the others -/
theorem add_text {S : Addr} {ys : List Str} {x : Str} {t : Tok} {Q : Bool → Shared → Prop} (x0 : TSet prog w s.heap S ys) (room : ys.length + 1 < scanBound)
    (q : ∀ h' b, Heap.SameBut S s.heap h' → TSet prog w h' S (addT ys x) → Q b { s with heap := h', toks := s.toks + 1 }) : wpAny (model prog w) A (setAdd S (.str x t)) Q E s := by
  unfold setAdd
  have add := fun {E' : Value → Shared → Prop} => wpAny_setAddHashed_of (prog := prog) (w := w) (A := A) (E := E') (knd := PySem.strKind prog w) (s := { s with toks := s.toks + 1 }) (x := .str x t) (strKind_is _ _ _ _) rfl x0 room (fun h' sb g => q h' _ sb (SetOf_congr g (fun k => addT_any ys x k) (addT_len ys x)))
  exact wpAny_holding (wpAny_bind (KeyKind.pyHash (PySem.strKind prog w) (k := x) (strKind_is _ _ _ _) add))
theorem walksB (hh : A.handled = none) (l : Bool) (I a : Addr) (ne : a ≠ I) (its : Array Value) : Walks prog w A I [I, a] [I] its.size (fun i v => its[i]? = some v) (fun i h => ItB l h I a i ∧ CoB l h a its) := by
  cases l with
  | true => exact Walks.list hh I a ne its
  | false => exact Walks.tuple hh I a ne its
theorem iterB {l : Bool} {a : Addr} {its : Array Value} {Q : Value → Shared → Prop} (h : CoB l s.heap a its) (q : Q (.ref s.heap.objs.size) { s with heap := s.heap.push (objB l a) }) : wpAny (model prog w) A (pyIter (.ref a)) Q E s := (beginsB l a its).iter prog w A E s Q h q
/-- the texts that are left are put in, one by one -/
theorem fill {R : Result → Shared → Prop} {n S I : Addr} {St : Nat → Heap → Prop} {P : Nat → Value → Prop} {fp : List Addr} (W : Walks prog w A.in1 I fp [I] n P St) (hS : S ∉ fp) (xs : List Str) (hx : xs.length = n) (hv : ∀ i v x, P i v → xs[i]? = some x → ∃ t, v = .str x t) :
    ∀ (rest : List Str) (i : Nat) (acc : List Str) (s : Shared), xs.drop i = rest → i ≤ n → St i s.heap → TSet prog w s.heap S acc → acc.length + rest.length + 1 < scanBound →
      (∀ h' tk, (∀ b o, b ≠ S → b ≠ I → s.heap.get? b = some o → h'.get? b = some o) → TSet prog w h' S (rest.foldl addT acc) → R (.ok (.ret .none)) { s with heap := h', toks := tk }) →
      codeAny (model prog w) A (.builtin "set.update.loop" ⟨[.ref S, .ref I], []⟩) R s
  | rest, i, acc, s, hr, le, st, g, room, fin => by
    have nI : S ≠ I := fun e => hS (e ▸ W.sub I (by simp))
    have away : ∀ {h h' : Heap}, (∀ b o, b ∉ [I] → h.get? b = some o → h'.get? b = some o) → ∀ b o, b ≠ I → h.get? b = some o → h'.get? b = some o := fun k b o hb e => k b o (by simpa using hb) e
    refine codeAny_builtin PyProof.Rows.F.entry_set_update_loop ?_
    rw [Around.under_plainId PyProof.Rows.F.plain_set_update_loop _]
    have hl := congrArg List.length hr
    rw [List.length_drop] at hl
    match rest, hr, hl, room, fin with
    | [], hr, hl, room, fin =>
      have e : i = n := by simp at hl; omega
      subst e
      exact wpAny_bind (W.done s _ _ st fun h' tk k => wpAny_pure (fin h' tk (fun b o _ hb e => away k b o hb e) (g.at fun o e => away k S o nI e)))
    | x :: rest, hr, hl, room, fin =>
      simp only [List.length_cons] at hl room
      have lt : i < n := by omega
      have hxi : xs[i]? = some x := by
        have := congrArg (fun l => l[0]?) hr
        simpa using this
      refine wpAny_bind (W.item i s _ _ lt st fun v h1 tk hp st1 k1 => ?_)
      obtain ⟨t, rfl⟩ := hv i v x hp hxi
      have al := addT_len acc x
      refine wpAny_bind (wpAny_holding (add_text (s := { s with heap := h1, toks := tk }) (g.at fun o e => away k1 S o nI e) (by omega) fun h2 b sb g2 => ?_))
      have st2 : St (i + 1) h2 := W.frame _ _ _ st1 fun b hb o e => (sb.2 b fun z => hS (z ▸ hb)).trans e
      refine wpAny_pure ⟨plainId_quiet PyProof.Rows.F.plain_set_update_loop _, fill W hS xs hx hv rest (i + 1) (addT acc x) _ ?_ lt st2 g2 (by split at al <;> omega) fun h3 tk3 k3 g3 => ?_⟩
      · rw [← List.drop_drop, hr]; rfl
      · exact fin h3 tk3 (fun b o b1 b2 e => k3 b o b1 b2 ((sb.2 b b1).trans (away k1 b o b2 e))) g3
/-- the new set, filled by its __init__ -/
theorem init_seq {l : Bool} {a S : Addr} {its : Array Value} {xs : List Str} {led : Bool} {Q : Fin → Shared → Prop} (hh : A.handled = none) (hl : CoB l s.heap a its) (hi : StrsAre its.toList xs) (hn : xs.length < 4000) (aS : a ≠ S)
    (hS : s.heap.get? S = some { cls := .type "set", dict := none, data := .set #[] 0 (.fresh 0 0 led) })
    (q : ∀ h' tk, TSet prog w h' S (onceT xs) → (∀ b o, b ≠ S → s.heap.get? b = some o → h'.get? b = some o) → Q (.done (.ret .none)) { s with heap := h', toks := tk }) : wpAny (model prog w) A (Builtin.«set.__init__» ⟨[.ref S, .ref a], []⟩) Q E s := by
  have ly : a < s.heap.objs.size := by obtain ⟨o, e, _⟩ := hl.obj; exact Heap.lt_size e
  have lS : S < s.heap.objs.size := Heap.lt_size hS
  have ne : a ≠ s.heap.objs.size := Nat.ne_of_lt ly
  have nS : S ∉ [s.heap.objs.size, a] := by simp [Nat.ne_of_lt lS, Ne.symm aS]
  have room : ([] : List Str).length + xs.length + 1 < scanBound := by unfold scanBound; simp; omega
  have lx : xs.length = its.size := by rw [← StrsAre.len_eq hi, Array.length_toList]
  have empty : TSet prog w (s.heap.push (objB l a)) S [] := SetOf_congr ((setObjOf_fresh (knd := PySem.strKind prog w) led).setOf (Heap.get?_push_of_some _ hS) (by unfold scanBound; omega)) (fun _ => rfl) rfl
  have at0 : ItB l (s.heap.push (objB l a)) s.heap.objs.size a 0 ∧ CoB l (s.heap.push (objB l a)) a its := by
    refine ⟨itB_new (Heap.get?_push_size _ (beginsB l a its).free), ?_⟩
    cases l with
    | true => exact Heap.IsList.push hl _
    | false => exact Heap.IsTuple.push hl _
  have rest : ∀ {B : Around} {F : Unit → Shared → Prop} {X' : Value → Shared → Prop}, B.handled = none → (∀ h' tk, TSet prog w h' S (onceT xs) → (∀ b o, b ≠ S → s.heap.get? b = some o → h'.get? b = some o) → F () { s with heap := h', toks := tk }) →
      wpAny (model prog w) B (pyIter (.ref a)) (fun v s' => wpAny (model prog w) B (do let _ ← runValue (.builtin "set.update.loop" ⟨[.ref S, v], []⟩); pure ()) F X' s') X' s := fun {B F X'} hB f => by
    refine iterB hl (wpAny_bind (wpAny_runValue ?_))
    refine fill (walksB (show B.in1.handled = none from hB) l s.heap.objs.size a ne its) nS xs lx (fun i v x hv hx => ?_) xs 0 [] _ rfl (Nat.zero_le _) at0 empty room fun h' tk k g => ?_
    · obtain ⟨t, e⟩ := SS.strs_at hi i v (by rw [Array.getElem?_toList]; exact hv)
      refine ⟨t, ?_⟩
      rw [e, List.getD_eq_getElem?_getD, hx]
      rfl
    · refine wpAny_pure (f h' tk g fun b o hb e => k b o hb (fun z => ?_) (Heap.get?_push_of_some _ e))
      have := Heap.lt_size e
      rw [z] at this
      exact Nat.lt_irrefl _ this
  cases l with
  | true =>
    obtain ⟨⟨cls, d, data, sl⟩, e, c, n, dd⟩ := (show s.heap.IsList a its from hl)
    simp only at c dd
    subst c dd
    have f1 := PySem.F.sub_list_set
    have f2 := PySem.F.sub_list_frozenset
    have f3 : (Value.type "list" == Value.type "dict") = false := by decide
    unfold Builtin.«set.__init__» noKeywords Builtin.Frozenset.updateFrom
    generalize hg : pyIter = it
    wp_walk
    subst hg
    exact rest hh fun h' tk g k => wpAny_pure (q h' tk g k)
  | false =>
    obtain ⟨⟨cls, d, data, sl⟩, e, c, n, dd⟩ := (show s.heap.IsTuple a its from hl)
    simp only at c dd
    subst c dd
    have f1 := PySem.F.sub_tuple_set
    have f2 := PySem.F.sub_tuple_frozenset
    have f3 : (Value.type "tuple" == Value.type "dict") = false := by decide
    unfold Builtin.«set.__init__» noKeywords Builtin.Frozenset.updateFrom
    generalize hg : pyIter = it
    wp_walk
    subst hg
    exact rest hh fun h' tk g k => wpAny_pure (q h' tk g k)
/-- set(a list or a tuple of texts) -/
theorem set_seq {l : Bool} {a : Addr} {its : Array Value} {xs : List Str} {Q : Value → Shared → Prop} (hh : A.handled = none) (hl : CoB l s.heap a its) (hi : StrsAre its.toList xs) (hn : xs.length < 4000)
    (q : ∀ h' tk, TSet prog w h' s.heap.objs.size (onceT xs) → (∀ b o, s.heap.get? b = some o → h'.get? b = some o) → Q (.ref s.heap.objs.size) { s with heap := h', toks := tk }) : wpAny (model prog w) A (call (.type "set") [.ref a]) Q E s := by
  have T := PySem.F.called_set
  obtain ⟨_, _, m0⟩ := T.mro
  have m1 := T.made; have m2 := T.sub; have m3 := T.notType; have m4 := T.canCreate; have m5 := PySem.F.typeCall_set_1 (.ref a); have m6 := T.init.lookup; have m7 := T.init.bind (.ref s.heap.objs.size)
  let S : Addr := s.heap.objs.size
  let obj (led : Bool) : Obj := { cls := .type "set", dict := none, data := .set #[] 0 (.fresh 0 0 led) }
  have lt : a < S := by obtain ⟨o, e, _⟩ := hl.obj; exact Heap.lt_size e
  -- what the __init__ leaves
  have left : ∀ {B : Around} (led : Bool), B.handled = none → codeAny (model prog w) B (.call (.builtin "set.__init__") ⟨[.ref S, .ref a], []⟩)
      (wants (fun r s2 => r = .none ∧ ∃ h' tk, s2 = { s with heap := h', toks := tk } ∧ TSet prog w h' S (onceT xs) ∧ ∀ b o, s.heap.get? b = some o → h'.get? b = some o) E) { s with heap := s.heap.push (obj led) } := fun {B} led hB => by
    have e0 : (s.heap.push (obj led)).get? S = some (obj led) := Heap.get?_push_size _ rfl
    have c0 : CoB l (s.heap.push (obj led)) a its := by
      cases l with
      | true => exact Heap.IsList.push hl _
      | false => exact Heap.IsTuple.push hl _
    refine codeAny_call_builtin T.init.plain PySem.F.entry_set_init (check_set_init_1 ⟨_, e0, rfl⟩ ?_)
    refine init_seq (s := { s with heap := s.heap.push (obj led) }) (led := led) hB c0 hi hn (Nat.ne_of_lt lt) e0 fun h' tk g k => ?_
    exact ⟨rfl, h', tk, rfl, g, fun b o e => k b o (fun z => Nat.lt_irrefl _ (z ▸ Heap.lt_size e)) (Heap.get?_push_of_some _ e)⟩
  have made : ∀ {B : Around}, codeAny (model prog w) B (.call (.builtin "set.__new__") ⟨[.type "set", .ref a], []⟩) (wants (fun v s1 => ∃ led, v = .ref S ∧ s1 = { s with heap := s.heap.push (obj led) }) E) s := fun {B} => code_set_new_1 (.ref a) fun led => ⟨led, rfl, rfl⟩
  refine wpAny_call (codeAny_of_tree ?_)
  show wpAny _ _ (callAny (.type "set") ⟨[.ref a], []⟩) _ _ s
  refine wpAny_pure ⟨Code.quiet_builtin _ (by decide +kernel), codeAny_builtin PySem.F.entry_type_call ?_⟩
  rw [Around.under_plain (weight_type_call_type "set" [.ref a] []) (units_type_call_type "set" [.ref a] [])]
  repeat (any_goals (first | assumption | wp_step))
  refine codeAny_mono made fun r s1 h1 => ?_
  rcases r with e | v | _ | _ | _
  any_goals exact h1
  obtain ⟨led, rfl, rfl⟩ := h1
  have ty : Shared.TypeIs { s with heap := s.heap.push (obj led) } (.ref S) "set" := ⟨_, Heap.get?_push_size _ rfl, rfl⟩
  repeat (any_goals (first | assumption | wp_step))
  refine codeAny_mono (left led (by simp [hh])) fun r s2 h2 => ?_
  rcases r with e | v | _ | _ | _
  any_goals exact h2
  obtain ⟨rfl, h', tk, rfl, g, k⟩ := h2
  repeat (any_goals (first | assumption | wp_step))
  exact q h' tk g k
end
section
variable {X : Cx} {n m k : Nat} {a e o : Expr} {ta ti : DTE} {p p2 q pos : Pos}
def tLenSetB (K : PySem.W.Frag) (ta : TE) : TE := fun σ H Q => ta σ H fun x H1 => ∃ b l, ∃ xs : List Str, x = .ref l ∧ SqB b K H1 l (xs.map V.str) ∧ xs.length < 4000 ∧ Q (.int (onceT xs).length) H1
theorem pe_lenSetB {ta : TE} (hc : X.calm = true) (hg : Gl X "len") (hm : X.mg "len" = none) (hg2 : Gl X "set") (hm2 : X.mg "set" = none) (ha : PE X a ta)
    (na : starEach [a] X.env = (false, eval a X.env) :: starEach [] X.env := by rfl) : PE X (.Call (.Name "len" p) [.Call (.Name "set" p2) [a] [] q] [] pos) (tLenSetB X.K ta) := by
  refine ⟨fun pins s σ H Q I h => ?_⟩
  refine Call_ (ld_blt I hg hm boot_len ?_)
  refine PyProof.Rows.callWith_builtin1 (PyProof.Rows.args_cons ?_ rfl) rfl rfl
  refine Call_ (ld_blt I hg2 hm2 boot_set ?_)
  refine PyProof.Rows.callWith_type1 (PyProof.Rows.args_cons (thn (ha.run pins s σ H _ I h) fun v s1 ⟨x, H1, I1, r1, q1⟩ => PyProof.Rows.args_nil ?_) na) na rfl
  obtain ⟨b, l, xs, rfl, hq, h1, q1⟩ := q1
  cases r1
  obtain ⟨its, r, pl, hz⟩ := invB I1 hq
  have fin : ∀ (h' : Heap) (tk : Nat), TSet X.prog X.w h' s1.heap.objs.size (onceT xs) → (∀ b o, b < s1.heap.objs.size → s1.heap.get? b = some o → h'.get? b = some o) →
      wpAny (model X.prog X.w) X.A (spliced (backTo pos (starEach [] X.env))) (fun vs s₂ => wpAny (model X.prog X.w) X.A (call (.builtin "len") (Value.ref s1.heap.objs.size :: vs)) (EP X pins σ Q) X.xe s₂) X.xe { s1 with heap := h', toks := tk } := fun h' tk hS hk => by
    refine PyProof.Rows.args_nil ?_
    obtain ⟨o, es, ep, t, ho, hex, hd, _, _, _, hf, hn⟩ := hS
    have I2 : L2.Inv X pins σ H1 { s1 with heap := h', toks := tk } := I1.kept fun b o e => hk b o (Heap.lt_size e) e
    have hle : (onceT xs).length ≤ xs.length := by simpa [onceT] using onceT_le xs []
    refine call_len_set ho hex hd hf (by rw [hn] <;> omega) ⟨.int (onceT xs).length, H1, I2.tok _, ⟨_, by rw [hn]⟩, q1⟩
  exact set_seq (I1.ok.hd hc) pl (by simpa using strsAre_of r) h1 fun h' tk g k => fin h' tk g fun b o _ e => k b o e
def asStrs : List D → Option (List Str)
  | [] => some []
  | .str b :: ds => (asStrs ds).map (b :: ·)
  | _ => none
theorem asStrs_ok {S : Option Stm} {Z : Hp} : ∀ {ds : List D} {bs : List Str} {vs : List V}, asStrs ds = some bs → Reps S Z ds vs → vs = bs.map V.str
  | [], bs, vs, h, r => by
    simp only [asStrs, Option.some.injEq] at h; subst h
    rw [Reps.nil_iff] at r; subst r; rfl
  | d :: ds, bs, vs, h, r => by
    cases d <;> simp only [asStrs] at h <;> first | (cases h; done) | skip
    rw [Option.map_eq_some_iff] at h
    obtain ⟨cs, h, rfl⟩ := h
    obtain ⟨v, us, rfl, r1, r2⟩ := Reps.cons_iff.mp r
    rw [Rep.str_iff] at r1
    obtain ⟨rfl, _⟩ := r1
    rw [asStrs_ok h r2]; rfl
theorem asStrs_map : ∀ xs : List Str, asStrs (xs.map D.str) = some xs
  | [] => rfl
  | x :: xs => by simp [asStrs, asStrs_map xs]
/-- len(set(e)) of texts -/
@[simp] def dLenSet (ta : DTE) : DTE := fun ρ Q W => ta ρ (fun r ρ1 => ∃ ds xs, itemsOf r.d = some ds ∧ asStrs ds = some xs ∧ xs.length < 4000 ∧ Q (.sh (.int (onceT xs).length)) ρ1) W
theorem de_lenSet (hc : X.calm = true) (hg : Gl X "len") (hm : X.mg "len" = none) (hg2 : Gl X "set") (hm2 : X.mg "set" = none) (ha : DE X n a ta) (na : starEach [a] X.env = (false, eval a X.env) :: starEach [] X.env := by rfl) :
    DE X n (.Call (.Name "len" p) [.Call (.Name "set" p2) [a] [] q] [] pos) (dLenSet ta) := fun G W tk => PE.weak (pe_lenSetB hc hg hm hg2 hm2 (ha G W tk) na) fun σ H Q ⟨Z, ρ, c, Qd, F, hcm, t, k⟩ => by
  refine ⟨Z, ρ, c, _, F, hcm, t, fun r ρ1 Z1 H1 v c1 z1 l1 q F1 o1 => ?_⟩
  obtain ⟨Z2, z2, F2, rp⟩ := F1.share o1
  obtain ⟨ds, xs, h1, h2, h3, q⟩ := q
  obtain ⟨l, a, vs, rfl, _, rs, sq⟩ := items_sq rp h1
  have e := asStrs_ok h2 rs
  subst e
  exact ⟨l, a, xs, rfl, sq _ _ F2.zh, h3, k _ ρ1 Z2 H1 _ c1 (z1.trans z2) l1 q F2 (show Rep _ _ _ _ from Rep.int)⟩
end
@[simp] def eLenSet (a : EE) : EE := fun ρ => (a ρ).bind fun p => opt (itemsOf p.1.d) fun ds => opt (asStrs ds) fun xs => req (xs.length < 4000) (.ret (.sh (.int (onceT xs).length), p.2))
theorem fe_lenSet {X : Cx} {n : Nat} {a : Expr} {fa : EE} {p p2 q pos : Pos} (hc : X.calm = true) (hg : Gl X "len") (hm : X.mg "len" = none) (hg2 : Gl X "set") (hm2 : X.mg "set" = none) (ha : DE X n a (tE fa)) (na : starEach [a] X.env = (false, eval a X.env) :: starEach [] X.env := by rfl) :
    DE X n (.Call (.Name "len" p) [.Call (.Name "set" p2) [a] [] q] [] pos) (tE (eLenSet fa)) := DE.imp (de_lenSet hc hg hm hg2 hm2 ha na) fun ρ Q W t => (sat_bind.mp t).imp fun p t => by
  obtain ⟨ds, h1, t⟩ := opt_sat t
  obtain ⟨xs, h2, t⟩ := opt_sat t
  obtain ⟨h3, t⟩ := req_sat t
  exact ⟨ds, xs, h1, h2, h3, t⟩
end DL
set_option Elab.async false
set_option linter.all false
set_option maxRecDepth 100000
set_option maxHeartbeats 4000000
namespace DL
open PySem L2 PyProof.Rows
/-! ### instances: closed readings -/
theorem fe_meth {X : Cx} {n : Nat} {e : Expr} {C : Addr} {mn : Str} {f : FN} {fa : EE} {ra : EA} (h : DE X n e (dMeth C mn (tF f) [] (tE fa) (tA ra))) : DE X n e (tE (eMeth C mn f [] fa ra)) := DE.imp h fun _ _ _ t => im_meth t
theorem fe_meth0 {X : Cx} {n : Nat} {e : Expr} {C : Addr} {mn : Str} {f : FN} {fa : EE} (h : DE X n e (dMeth C mn (tF f) [] (tE fa) dNil)) : DE X n e (tE (eMeth C mn f [] fa aNil)) := DE.imp h fun _ _ _ t => im_meth t
theorem fe_fld {X : Cx} {n : Nat} {e : Expr} {C : Addr} {f : Str} {fa : EE} (h : DE X n e (dFld C f (tE fa))) : DE X n e (tE (eFld C f fa)) := DE.imp h fun _ _ _ t => im_fld t
theorem fe_fldO {X : Cx} {i : Nat} {e : Expr} {C : Addr} {f : Str} (h : DE X 0 e (dFldO i C f)) : DE X 0 e (tE (eFldO i C f)) := DE.imp h fun _ _ _ t => im_fldO t
theorem fs_setF {X : Cx} {n : Nat} {st : Stmt} {i : Nat} {C : Addr} {f : Str} {fa : EE} (h : DS X n st (dSetF i C f (tE fa))) : DS X n st (tS (eSetF i C f fa)) := DS.imp h fun _ _ _ t => im_setF t
theorem fe_dcallD {X : Cx} {n : Nat} {e : Expr} {f : FN} {dd : List D} {ra : EA} (h : DE X n e (dCall (tF f) dd (tA ra))) : DE X n e (tE (eCall f dd ra)) := DE.imp h fun _ _ _ t => im_call t
/-- what is raised, without the slots at which it is -/
def Cm.strip {α : Type} : Cm α → Cm α
  | .ret a => .ret a
  | .exc x _ => .exc x []
  | .draw n k => .draw n fun i => (k i).strip
  | .bad => .bad
theorem strip_sat {α : Type} {m : Cm α} {Q : α → Prop} {W : XD → Prop} : m.strip.sat Q (fun x _ => W x) ↔ m.sat Q (fun x _ => W x) := by
  induction m with
  | ret a => exact Iff.rfl
  | exc x ρ => exact Iff.rfl
  | draw n k ih => exact ⟨fun h i i0 i1 => (ih i).mp (h i i0 i1), fun h i i0 i1 => (ih i).mpr (h i i0 i1)⟩
  | bad => exact Iff.rfl
/-- what an __init__ makes, if that is one thing wherever the instance lies -/
noncomputable def yF (C : Addr) (np nn : Nat) (b : ES) : FI := fun ds => by
  classical exact if h : ∃ m : Cm (List Str × List D), ∀ y, (initF C y np nn b ds).strip = m then h.choose else .bad
theorem yF_eq {C : Addr} {np nn : Nat} {b : ES} {ds : List D} {m : Cm (List Str × List D)} (h : ∀ y, (initF C y np nn b ds).strip = m) : yF C np nn b ds = m := by
  have h1 : ∃ m : Cm (List Str × List D), ∀ y, (initF C y np nn b ds).strip = m := ⟨m, h⟩
  unfold yF
  rw [dif_pos h1]
  exact (h1.choose_spec 0).symm.trans (h 0)
theorem yF_ok {C : Addr} {np nn : Nat} {b : ES} : ∀ (y : Addr) (ds : List D) (Q : List Str × List D → Prop) (W : XD → Prop), (yF C np nn b ds).sat Q (fun x _ => W x) → (initF C y np nn b ds).sat Q (fun x _ => W x) := fun y ds Q W h => by
  unfold yF at h
  split at h
  · rename_i h1
    rw [← h1.choose_spec y] at h
    exact strip_sat.mp h
  · exact h.elim
/-! ### a call by a local name where defaults fill up -/
structure HeldG (P : Program) (w : World) (K : PySem.W.Frag) (mg : Str → Option Value) (base : Heap) (k m : Nat) (dvs : List V) (f : Addr) (G : FN) : Prop where
  ex : ∃ (fd : FuncData) (ps : List Str) (m' : Nat) (ds : List Value), m' ≤ m ∧ FnOk P w K mg base (L2.CX P w) k f fd ps (spD K m' (tF G)) ∧ PySem.W.keepIn K (.ref f) = true ∧ Binds K fd ps ds ∧ Vals dvs ds
theorem HeldG.of {P : Program} {w : World} {K : PySem.W.Frag} {mg : Str → Option Value} {base : Heap} {j k m m' : Nat} {f : Addr} {fd : FuncData} {ps : List Str} {G : FN} {dvs : List V} (F : FnOk P w K mg base (L2.CX P w) j f fd ps (spD K m' (tF G))) (hj : j ≤ k) (hm : m' ≤ m) (hk : PySem.W.keepIn K (.ref f) = true) (hb : ∃ ds, Vals dvs ds ∧ Binds K fd ps ds) : HeldG P w K mg base k m dvs f G :=
  let ⟨ds, h1, h2⟩ := hb
  ⟨fd, ps, m', ds, hm, F.mono hj, hk, h2, h1⟩
end DL
set_option Elab.async false
set_option linter.all false
set_option maxRecDepth 100000
set_option maxHeartbeats 4000000
namespace DL
open PySem L2 PyProof.Rows
/-! ### a list of lists that nobody else holds: found = [[] for ..]; for k in d: found[e].append(k); return found -/
abbrev Nst := List (Addr × List V)
def withH (H0 : Hp) : Nst → Hp
  | [] => H0
  | (p, vs) :: r => upd (withH H0 r) p (.lst vs)
theorem withH_nt {H0 : Hp} (h : ∀ b qs, H0 b ≠ some (.tbl qs)) : ∀ (ps : Nst) b qs, withH H0 ps b ≠ some (.tbl qs)
  | [], b, qs => h b qs
  | (p, vs) :: r, b, qs => fun e => by
    have e : upd (withH H0 r) p (.lst vs) b = some (.tbl qs) := e
    by_cases hb : b = p
    · subst hb; rw [upd_same] at e; cases e
    · rw [upd_ne hb] at e; exact withH_nt h r b qs e
theorem withH_none {H0 : Hp} {p : Addr} (h : H0 p = none) : ∀ {ps : Nst}, p ∉ ps.map (·.1) → withH H0 ps p = none
  | [], _ => h
  | (q, vs) :: r, n => by
    have ne : p ≠ q := fun z => n (by rw [z]; exact List.mem_cons_self)
    exact (upd_ne ne).trans (withH_none h fun z => n (List.mem_cons_of_mem _ z))
theorem withH_some {H0 : Hp} {p : Addr} (h : H0 p ≠ none) : ∀ {ps : Nst}, withH H0 ps p ≠ none
  | [] => h
  | (q, vs) :: r => fun e => by
    have e : upd (withH H0 r) q (.lst vs) p = none := e
    by_cases hb : p = q
    · subst hb; rw [upd_same] at e; cases e
    · rw [upd_ne hb] at e; exact withH_some h e
abbrev Gh.withs (G : Gh) (ps : Nst) : Gh := { G with H0 := withH G.H0 ps, nt := withH_nt G.nt ps }
structure Nest (G : Gh) (Z H : Hp) (ρ : Rho) (σ : L2.St) (ps : Nst) : Prop where
  nd : (ps.map (·.1)).Nodup
  at_ : ∀ q ∈ ps, H q.1 = some (.lst q.2) ∧ Z q.1 = none ∧ G.H0 q.1 = none ∧ NotOwned ρ σ q.1
section
variable {G : Gh} {Z H : Hp} {ρ : Rho} {σ : L2.St} {c : Nat}
theorem Nest.tail {q : Addr × List V} {ps : Nst} (N : Nest G Z H ρ σ (q :: ps)) : Nest G Z H ρ σ ps := ⟨(List.nodup_cons.mp N.nd).2, fun x hx => N.at_ x (List.mem_cons_of_mem _ hx)⟩
theorem Fr.holdAll (F : Fr G Z H ρ σ c) : ∀ {ps : Nst}, Nest G Z H ρ σ ps → Fr (G.withs ps) Z H ρ σ c
  | [], _ => F
  | (p, vs) :: r, N => by
    obtain ⟨h1, h2, h3, h4⟩ := N.at_ (p, vs) List.mem_cons_self
    exact (Fr.holdAll F N.tail).hold (G := G.withs r) (p := p) h1 h2 (withH_none h3 (List.nodup_cons.mp N.nd).1) h4
theorem Fr.dropAll (gs : ∀ s, G.S = some s → G.H0 s.st ≠ none ∧ G.H0 s.cl ≠ none) : ∀ {ps : Nst}, (ps.map (·.1)).Nodup → (∀ q ∈ ps, G.H0 q.1 = none ∧ G.Z0 q.1 = none) → Fr (G.withs ps) Z H ρ σ c → Fr G Z H ρ σ c ∧ Nest G Z H ρ σ ps
  | [], _, _, F => ⟨F, List.nodup_nil, fun q h => absurd h List.not_mem_nil⟩
  | (p, vs) :: r, nd, h0, F => by
    have nd' : p ∉ r.map (·.1) ∧ (r.map (·.1)).Nodup := List.nodup_cons.mp nd
    obtain ⟨q1, q2⟩ := h0 (p, vs) List.mem_cons_self
    obtain ⟨F1, h1, h2, h3⟩ := Fr.drop (G := G.withs r) (p := p) (ho := .lst vs) (nt := fun ps z => by cases z) (fun s e => ⟨withH_some (gs s e).1, withH_some (gs s e).2⟩) (withH_none q1 nd'.1) q2 F
    obtain ⟨F2, N2⟩ := Fr.dropAll gs nd'.2 (fun q hq => h0 q (List.mem_cons_of_mem _ hq)) F1
    refine ⟨F2, nd, fun q hq => ?_⟩
    rcases List.mem_cons.mp hq with rfl | hq
    · exact ⟨h1, h2, q1, h3⟩
    · exact N2.at_ q hq
theorem Nest.free {ps : Nst} (N : Nest G Z H ρ σ ps) (F : Fr G Z H ρ σ c) : ∀ q ∈ ps, G.H0 q.1 = none ∧ G.Z0 q.1 = none := fun q hq => ⟨(N.at_ q hq).2.2.1, F.z0n (N.at_ q hq).2.1⟩
end
/-- what the inner lists hold -/
def Inn (S : Option Stm) (Z : Hp) : List (List D) → Nst → Prop
  | [], [] => True
  | ds :: dss, q :: qs => ds.length ≤ sizeLine ∧ Reps S Z ds q.2 ∧ Inn S Z dss qs
  | _, _ => False
theorem Inn.length {S : Option Stm} {Z : Hp} : ∀ {dss : List (List D)} {qs : Nst}, Inn S Z dss qs → dss.length = qs.length
  | [], [], _ => rfl
  | _ :: _, _ :: _, h => congrArg Nat.succ (Inn.length h.2.2)
theorem Inn.mono {S : Option Stm} {Z Z' : Hp} (z : Sub Z Z') : ∀ {dss : List (List D)} {qs : Nst}, Inn S Z dss qs → Inn S Z' dss qs
  | [], [], _ => trivial
  | _ :: _, _ :: _, h => ⟨h.1, h.2.1.mono z, Inn.mono z h.2.2⟩
theorem Inn.get {S : Option Stm} {Z : Hp} : ∀ {dss : List (List D)} {qs : Nst} {i : Nat} {ds : List D}, Inn S Z dss qs → dss[i]? = some ds → ∃ p vs, qs[i]? = some (p, vs) ∧ ds.length ≤ sizeLine ∧ Reps S Z ds vs
  | ds :: _, (p, vs) :: _, 0, _, h, e => by
    rw [List.getElem?_cons_zero] at e
    cases e
    exact ⟨p, vs, rfl, h.1, h.2.1⟩
  | _ :: _, _ :: _, i + 1, _, h, e => by
    rw [List.getElem?_cons_succ] at e
    exact Inn.get (i := i) h.2.2 e
theorem Inn.set {S : Option Stm} {Z : Hp} {p : Addr} {ds : List D} {us : List V} (l : ds.length ≤ sizeLine) (r : Reps S Z ds us) : ∀ {dss : List (List D)} {qs : Nst} (i : Nat), Inn S Z dss qs → Inn S Z (dss.set i ds) (qs.set i (p, us))
  | [], [], _, _ => trivial
  | _ :: _, _ :: _, 0, h => ⟨l, r, h.2.2⟩
  | _ :: _, _ :: _, i + 1, h => ⟨h.1, h.2.1, Inn.set l r i h.2.2⟩
abbrev refs (qs : Nst) : List V := qs.map fun q => .ref q.1
section
variable {G : Gh} {H : Hp} {ρ : Rho} {σ : L2.St} {c : Nat}
/-- the inner lists are held fast for good -/
theorem Fr.nestEnd : ∀ {qs : Nst} {dss : List (List D)} {Z : Hp}, Fr G Z H ρ σ c → Nest G Z H ρ σ qs → Inn G.S Z dss qs → ∃ Z', Sub Z Z' ∧ Fr G Z' H ρ σ c ∧ Reps G.S Z' (dss.map .lst) (refs qs) ∧ ∀ b, b ∉ qs.map (·.1) → Z' b = Z b
  | [], [], Z, F, _, _ => ⟨Z, fun _ _ e => e, F, Reps.nil, fun _ _ => rfl⟩
  | (p, vs) :: qs, ds :: dss, Z, F, N, I => by
    obtain ⟨h1, h2, h3, h4⟩ := N.at_ (p, vs) List.mem_cons_self
    have nd : p ∉ qs.map (·.1) ∧ (qs.map (·.1)).Nodup := List.nodup_cons.mp N.nd
    have F1 := F.freeze h1 h3 h4 (fun y z => by cases z)
    have z1 : Sub Z (upd Z p (.lst vs)) := sub_upd h2
    have N1 : Nest G (upd Z p (.lst vs)) H ρ σ qs := ⟨nd.2, fun q hq => by
      obtain ⟨g1, g2, g3, g4⟩ := N.at_ q (List.mem_cons_of_mem _ hq)
      have ne : q.1 ≠ p := fun z => nd.1 (by rw [← z]; exact List.mem_map_of_mem hq)
      exact ⟨g1, (upd_ne ne).trans g2, g3, g4⟩⟩
    obtain ⟨Z', z2, F2, R2, K2⟩ := Fr.nestEnd F1 N1 (Inn.mono z1 I.2.2)
    refine ⟨Z', z1.trans z2, F2, Reps.cons ?_ R2, fun b hb => ?_⟩
    · rw [Rep]
      exact ⟨p, vs, rfl, z2 _ _ upd_same, I.1, I.2.1.mono (z1.trans z2)⟩
    · have ne : b ≠ p := fun z => hb (by rw [z]; exact List.mem_cons_self)
      rw [K2 b fun z => hb (List.mem_cons_of_mem _ z), upd_ne ne]
end
/-- an own list of own lists is handed out -/
theorem Fr.nestOut {G : Gh} {Z H : Hp} {ρ : Rho} {σ : L2.St} {c : Nat} {a : Addr} {qs : Nst} {dss : List (List D)} (F : Fr G Z H ρ σ c) (N : Nest G Z H ρ σ ((a, refs qs) :: qs)) (I : Inn G.S Z dss qs) (hl : dss.length ≤ sizeLine) :
    ∃ Z', Sub Z Z' ∧ Fr G Z' H ρ σ c ∧ VOk G Z' H ρ σ (.nw (.lst (dss.map .lst))) (.ref a) := by
  obtain ⟨h1, h2, h3, h4⟩ := N.at_ (a, refs qs) List.mem_cons_self
  obtain ⟨Z', z, F1, R, K⟩ := Fr.nestEnd F N.tail I
  have nd : a ∉ qs.map (·.1) := (List.nodup_cons.mp N.nd).1
  exact ⟨Z', z, F1, a, rfl, ⟨_, h1, (K a nd).trans h2, h3, refs qs, rfl, by rw [List.length_map]; exact hl, R⟩, h4⟩
/-! ### the readings -/
section
variable {X : Cx} {n m it i j k : Nat} {elt tg iter tg2 it2 o1 eix o2 rv : Expr} {x1 : Str} {pos pos2 apos cpos xpos pos5 spos rpos ppos lpos : Pos} {fi : EA} {te : EE}
theorem Inn.lk {S : Option Stm} {a : Addr} {u : HO} {Z Z' : Hp} (L : Lk a u Z Z') : ∀ {dss : List (List D)} {qs : Nst}, Inn S Z dss qs → Inn S Z' dss qs
  | [], [], _ => trivial
  | _ :: _, _ :: _, h => ⟨h.1, Reps.lk L h.2.1, Inn.lk L h.2.2⟩
end
end DL
set_option Elab.async false
set_option linter.all false
set_option maxRecDepth 100000
set_option maxHeartbeats 4000000
set_option Elab.async false
set_option linter.all false
set_option maxRecDepth 100000
set_option maxHeartbeats 4000000
namespace DL
open PySem L2 PyProof.Rows
/-! ### lists of lists of one's own, each made by an expression -/
theorem Nest.wipe {G : Gh} {Z H : Hp} {ρ : Rho} {σ : L2.St} {ps : Nst} (vs : List Nat) (N : Nest G Z H ρ σ ps) : Nest G Z H (wipeR ρ vs) (L2.wipe σ vs) ps := ⟨N.nd, fun q hq => by
  obtain ⟨g1, g2, g3, g4⟩ := N.at_ q hq
  exact ⟨g1, g2, g3, g4.wipe⟩⟩
theorem Nest.unwipe {G : Gh} {Z H : Hp} {ρ : Rho} {σ : L2.St} {ps : Nst} {vs : List Nat} (N : Nest G Z H ρ (L2.wipe σ vs) ps) (w : Wiped ρ vs) : Nest G Z H ρ σ ps := ⟨N.nd, fun q hq => by
  obtain ⟨g1, g2, g3, g4⟩ := N.at_ q hq
  exact ⟨g1, g2, g3, g4.unwipe w⟩⟩
theorem Inn.push {S : Option Stm} {Z : Hp} {p : Addr} {ds : List D} {us : List V} (l : ds.length ≤ sizeLine) (r : Reps S Z ds us) : ∀ {dss : List (List D)} {qs : Nst}, Inn S Z dss qs → Inn S Z (dss ++ [ds]) (qs ++ [(p, us)])
  | [], [], _ => ⟨l, r, trivial⟩
  | _ :: _, _ :: _, h => ⟨h.1, h.2.1, Inn.push l r h.2.2⟩
end DL
set_option Elab.async false
set_option linter.all false
set_option maxRecDepth 100000
set_option maxHeartbeats 4000000
namespace DL
open PySem L2 PyProof.Rows
/-! ### what is held, looked at -/
/-- the state in which a list of lists is held: its list stands in slot j -/
structure HeldN (G : Gh) (Z H : Hp) (ρ : Rho) (σ : L2.St) (c j : Nat) (a : Addr) (qs : Nst) (dss : List (List D)) : Prop where
  F : Fr G Z H ρ σ c
  N : Nest G Z H ρ σ ((a, refs qs) :: qs)
  I : Inn G.S Z dss qs
  hl : dss.length ≤ sizeLine
  ej : σ[j]? = some (some (.ref a))
section
variable {G : Gh} {Z H : Hp} {ρ : Rho} {σ : L2.St} {c j : Nat} {a : Addr} {qs : Nst} {dss : List (List D)}
theorem HeldN.up (h : HeldN G Z H ρ σ c j a qs dss) : Fr (G.withs ((a, refs qs) :: qs)) Z H ρ σ c := h.F.holdAll h.N
theorem HeldN.gs (h : HeldN G Z H ρ σ c j a qs dss) : ∀ s, G.S = some s → G.H0 s.st ≠ none ∧ G.H0 s.cl ≠ none := h.F.gs
theorem HeldN.set (h : HeldN G Z H ρ σ c j a qs dss) {i : Nat} {d : D} {v : V} (r : Rep G.S Z d v) (hij : i ≠ j) : HeldN G Z H (ρ.set i (.sh d)) (σ.set i (some v)) c j a qs dss := by
  have F1 := h.up.store (i := i) (s := .sh d) ⟨v, rfl, r⟩ (fun w => by cases w)
  obtain ⟨F2, N2⟩ := Fr.dropAll h.gs h.N.nd (h.N.free h.F) F1
  exact ⟨F2, N2, h.I, h.hl, by rw [List.getElem?_set_ne hij]; exact h.ej⟩
/-- it is handed over to its slot -/
theorem HeldN.done (h : HeldN G Z H ρ σ c j a qs dss) : ∃ Z', Sub Z Z' ∧ Fr G Z' H (ρ.set j (.ow (.lst (dss.map .lst)))) σ c := by
  obtain ⟨Z', z, F1, o⟩ := Fr.nestOut h.F h.N h.I h.hl
  have F2 := F1.put (i := j) o
  have e : σ.set j (some (.ref a)) = σ := by
    obtain ⟨hj, e⟩ := List.getElem?_eq_some_iff.mp h.ej
    rw [← e, List.set_getElem_self]
  rw [e] at F2
  exact ⟨Z', z, F2⟩
end
end DL
set_option Elab.async false
set_option linter.all false
set_option maxRecDepth 100000
set_option maxHeartbeats 4000000
namespace DL
open PySem L2 PyProof.Rows
/-! ### a list of lists is made, and an item goes from one to another one -/
def iEx (T : List (Addr × Str)) (n : Nat) (t : DTI) : TI := fun σ H R => ∃ G, G.T = T ∧ LI G n t noW σ H R
theorem iex {X : Cx} {n : Nat} {tg e : Expr} {t : DTI} (h : DI X n tg e t) : PI X tg e (iEx (tabsOf X.K) n t) := ⟨fun pins s σ H R I ⟨G, hG, q⟩ => (h G noW (tkN hG)).run pins s σ H R I q⟩
theorem gex {X : Cx} {tg : Expr} {g : DTG} {vs : List Nat} (h : DG X tg g vs) : PG X tg (gEx g vs) := ⟨fun pins s' σ H' v u Q I r ⟨G, q⟩ => (h G).run pins s' σ H' v u Q I r q⟩
theorem eex {X : Cx} {n : Nat} {e : Expr} {t : DTE} (h : DE X n e t) : PE X e (eEx (tabsOf X.K) n t) := ⟨fun pins s' σ H' Q I ⟨G, hG, q⟩ => (h G noW (tkN hG)).run pins s' σ H' Q I q⟩
theorem tex {X : Cx} {n : Nat} {e : Expr} {t : DTT} (h : DT X n e t) : PT X e (tEx (tabsOf X.K) n t) := ⟨fun pins s' σ H' Q I ⟨G, hG, q⟩ => (h G noW (tkN hG)).run pins s' σ H' Q I q⟩
@[simp] def shAt (ρ : Rho) (i : Nat) : Option D := match ρ[i]? with
  | some (.sh d) => some d
  | _ => none
theorem shAt_some {ρ : Rho} {i : Nat} {d : D} (h : shAt ρ i = some d) : ρ[i]? = some (.sh d) := by
  unfold shAt at h
  split at h
  · rename_i e; cases h; exact e
  · cases h
end DL
set_option Elab.async false
set_option linter.all false
set_option maxRecDepth 100000
set_option maxHeartbeats 4000000
namespace DL
open PySem L2 PyProof.Rows
/-! ### sum of a list of lists -/
/-! ### sum(xs, []) over data -/
@[simp] def lstsD : List D → Option (List (List D))
  | [] => some []
  | .lst d :: ds => (lstsD ds).map (d :: ·)
  | _ :: _ => none
end DL
set_option Elab.async false
set_option linter.all false
set_option maxRecDepth 100000
set_option maxHeartbeats 4000000
namespace DL
open PySem L2 PyProof.Rows
/-! ### statements that store at some places alone; a list of one's own is lent to some statements -/
structure EndsK (vs : List Nat) (σ0 : L2.St) (G : Gh) (n c : Nat) (Z : Hp) (Dd : DEnds) (D : Ends) : Prop where
  nx : ∀ ρ σ Z' H c', L2.wipe σ vs = L2.wipe σ0 vs → Sub Z Z' → c' ≤ c + n → Dd.nx ρ → Fr G Z' H ρ σ c' → D.nx σ H
  bk : ∀ ρ σ Z' H c', L2.wipe σ vs = L2.wipe σ0 vs → Sub Z Z' → c' ≤ c + n → Dd.bk ρ → Fr G Z' H ρ σ c' → D.bk σ H
  ct : ∀ ρ σ Z' H c', L2.wipe σ vs = L2.wipe σ0 vs → Sub Z Z' → c' ≤ c + n → Dd.ct ρ → Fr G Z' H ρ σ c' → D.ct σ H
  rt : ∀ r ρ σ Z' H v c', Sub Z Z' → c' ≤ c + n → Dd.rt r → Fr G Z' H ρ σ c' → VOk G Z' H ρ σ r v → D.rt v H
theorem EndsK.mono {vs : List Nat} {σ0 σ1 : L2.St} {G : Gh} {n m c d : Nat} {Z Z1 : Hp} {Dd : DEnds} {D : Ends} (h : EndsK vs σ0 G n c Z Dd D) (hw : L2.wipe σ1 vs = L2.wipe σ0 vs) (hz : Sub Z Z1) (hn : d + m ≤ c + n) : EndsK vs σ1 G m d Z1 Dd D :=
  ⟨fun ρ σ Z' H c' w z l => h.nx ρ σ Z' H c' (w.trans hw) (hz.trans z) (by omega), fun ρ σ Z' H c' w z l => h.bk ρ σ Z' H c' (w.trans hw) (hz.trans z) (by omega), fun ρ σ Z' H c' w z l => h.ct ρ σ Z' H c' (w.trans hw) (hz.trans z) (by omega), fun r ρ σ Z' H v c' z l => h.rt r ρ σ Z' H v c' (hz.trans z) (by omega)⟩
def LSK (vs : List Nat) (G : Gh) (n : Nat) (t : DTS) (W : DX) : TS := fun D σ H => ∃ Z ρ c Dd, Fr G Z H ρ σ c ∧ c + n ≤ G.cm ∧ t Dd W ρ ∧ EndsK vs σ G n c Z Dd D
def DSK (vs : List Nat) (X : Cx) (n : Nat) (st : Stmt) (t : DTS) : Prop := ∀ G W, Tk X G W → PS X st (LSK vs G n t W)
def DSsK (vs : List Nat) (X : Cx) (n : Nat) (st : List Stmt) (t : DTS) : Prop := ∀ G W, Tk X G W → PSs X st (LSK vs G n t W)
section
variable {vs : List Nat} {G : Gh} {X : Cx} {n m k : Nat} {e tg : Expr} {st : Stmt} {sts : List Stmt} {ta : DTE} {tA : DTT} {t u : DTS} {pos : Pos}
theorem DSK.imp {ta tb : DTS} (h : DSK vs X n st ta) (k : ∀ D W ρ, tb D W ρ → ta D W ρ) : DSK vs X n st tb := fun G W tk => PS.weak (h G W tk) fun D σ H ⟨Z, ρ, c, Dd, F, hc, t, q⟩ => ⟨Z, ρ, c, Dd, F, hc, k _ _ _ t, q⟩
theorem DSsK.imp {ta tb : DTS} (h : DSsK vs X n sts ta) (k : ∀ D W ρ, tb D W ρ → ta D W ρ) : DSsK vs X n sts tb := fun G W tk => PSs.weak (h G W tk) fun D σ H ⟨Z, ρ, c, Dd, F, hc, t, q⟩ => ⟨Z, ρ, c, Dd, F, hc, k _ _ _ t, q⟩
/-! three statements to which lists of one's own are lent -/
theorem Fr.swap {G : Gh} {Z H : Hp} {ρ : Rho} {σ σ' : L2.St} {c : Nat} {vs : List Nat} (F : Fr G Z H ρ σ c) (hw : L2.wipe σ' vs = L2.wipe σ vs) : Fr G Z H (wipeR ρ vs) σ' c := by
  have := F.wipe vs
  rw [← hw] at this
  exact this.unwipe (wiped_wipeR ρ vs)
end
end DL
set_option Elab.async false
set_option linter.all false
set_option maxRecDepth 100000
set_option maxHeartbeats 4000000
namespace DL
open PySem L2 PyProof.Rows PySem.W
/-! ### data as keys of any depth -/
mutual
def nkD : D → Option NestedKey
  | .non => some .none
  | .bl b => some (.num (if b = true then 1 else 0))
  | .int i => some (.num i)
  | .str x => some (.text x)
  | .tup ds => (nkDs ds).map .tup
  | _ => none
def nkDs : List D → Option (List NestedKey)
  | [] => some []
  | d :: ds => (nkD d).bind fun k => (nkDs ds).map (k :: ·)
end
/-! ### a dict with such keys, as a thing of its own -/
abbrev NdL := List (NestedKey × Addr × Value)
theorem get_rep (n : Nat) (o : Obj) (hf : ∀ a b c, o ≠ ⟨a, b, .freed, c⟩) (b : Addr) (u : Obj) (h : (Heap.mk (Array.replicate n o) {}).get? b = some u) : u = o := by
  unfold Heap.get? at h
  rw [Array.getElem?_replicate] at h
  by_cases e : b < n
  · rw [if_pos e] at h
    split at h
    · cases h
    · cases h; rfl
  · rw [if_neg e] at h
    cases h
theorem rep_get (n : Nat) (o : Obj) (hf : ∀ a b c, o ≠ ⟨a, b, .freed, c⟩) (b : Addr) (hb : b < n) : (Heap.mk (Array.replicate n o) {}).get? b = some o := by
  unfold Heap.get?
  rw [Array.getElem?_replicate, if_pos hb]
  split
  · rename_i h; cases h; exact absurd rfl (hf _ _ _)
  · rfl
def codO (q : Str) : Obj := ⟨.none, none, .fields #[.none, .str q 0], #[]⟩
theorem codO_nf (q : Str) : ∀ a b c, codO q ≠ ⟨a, b, .freed, c⟩ := fun a b c h => by unfold codO at h; cases h
/-! ### its keys' data -/
def NdK (S : Option Stm) (Z : Hp) : List D → NdL → Prop
  | [], [] => True
  | d :: ds, x :: xs => (nkD d = some x.1 ∧ x.1.depth ≤ 8 ∧ Rep S Z d (.ref x.2.1)) ∧ NdK S Z ds xs
  | _, _ => False
section
variable {S : Option Stm} {Z Z' : Hp}
theorem NdK.mono (z : Sub Z Z') : ∀ {ds : List D} {xs : NdL}, NdK S Z ds xs → NdK S Z' ds xs
  | [], [], _ => trivial
  | [], _ :: _, h => h.elim
  | _ :: _, [], h => h.elim
  | _ :: _, _ :: _, h => ⟨⟨h.1.1, h.1.2.1, h.1.2.2.mono z⟩, NdK.mono z h.2⟩
theorem NdK.length : ∀ {ds : List D} {xs : NdL}, NdK S Z ds xs → ds.length = xs.length
  | [], [], _ => rfl
  | [], _ :: _, h => h.elim
  | _ :: _, [], h => h.elim
  | _ :: _, _ :: _, h => congrArg Nat.succ (NdK.length h.2)
theorem NdK.put {k : NestedKey} {r : Value} : ∀ {ds : List D} {xs : NdL}, NdK S Z ds xs → NdK S Z ds (xs.map (putAt k r))
  | [], [], _ => trivial
  | [], _ :: _, h => h.elim
  | _ :: _, [], h => h.elim
  | d :: ds, x :: xs, h => by
    refine ⟨?_, NdK.put h.2⟩
    have e : (putAt k r x).1 = x.1 ∧ (putAt k r x).2.1 = x.2.1 := by
      unfold putAt
      split <;> exact ⟨rfl, rfl⟩
    rw [e.1, e.2]
    exact h.1
theorem NdK.at_ {k : NestedKey} : ∀ {ds : List D} {xs : NdL}, NdK S Z ds xs → (atKey xs k).isSome = ds.any fun e => decide (nkD e = some k)
  | [], [], _ => rfl
  | [], _ :: _, h => h.elim
  | _ :: _, [], h => h.elim
  | d :: ds, x :: xs, h => by
    have ih := NdK.at_ (k := k) h.2
    unfold atKey at ih ⊢
    rw [List.find?_cons, List.any_cons]
    by_cases e : x.1 = k
    · have e2 : nkD d = some k := by rw [h.1.1, e]
      simp [e, e2]
    · have e2 : ¬ nkD d = some k := by rw [h.1.1]; exact fun z => e (Option.some.inj z)
      simp only [decide_eq_false e, decide_eq_false e2, Bool.false_or]
      exact ih
end
/-! ### things, each once -/
end DL
set_option Elab.async false
set_option linter.all false
set_option maxRecDepth 100000
set_option maxHeartbeats 4000000
namespace DL
open PySem L2 PyProof.Rows PySem.W
/-! ### the memo of a search: d[k], k not in d, d[k] = b -/
mutual
theorem kat_is {P : Program} {w : World} {H : Hp} {h : Heap} (ok : HOk P w H h) : ∀ {k : NestedKey} {v : V} {u : Value}, KAt H k v → RelV v u → NestedIs h k u
  | .num i, v, u, r, rv => by
    rw [KAt] at r; subst r
    obtain ⟨t, rfl⟩ := (show ∃ t, u = Value.int i t from rv)
    exact .int _ _
  | .tup ks, v, u, r, rv => by
    rw [KAt] at r
    obtain ⟨a, vs, rfl, hz, rs⟩ := r
    cases (show u = Value.ref a from rv)
    obtain ⟨_, its, vals, o, ho, hc, n, hd⟩ := (show ObjOk P w H h a (.tup vs) from ok a _ hz)
    exact .tup ho hc hd (by simpa using kats_is ok rs vals)
  | .none, _, _, r, _ => by simp [KAt] at r
  | .text _, _, _, r, _ => by simp [KAt] at r
theorem kats_is {P : Program} {w : World} {H : Hp} {h : Heap} (ok : HOk P w H h) : ∀ {ks : List NestedKey} {vs : List V} {us : List Value}, KAts H ks vs → Vals vs us → NestedAll h ks us
  | [], vs, us, r, rv => by
    cases vs with
    | nil => cases rv; exact .nil
    | cons _ _ => simp [KAts] at r
  | k :: ks, vs, us, r, rv => by
    cases vs with
    | nil => simp [KAts] at r
    | cons v vs =>
      rw [KAts] at r
      cases rv with
      | cons r1 r2 => exact .cons (kat_is ok r.1 r1) (kats_is ok r.2 r2)
end
def rawM (x : NestedKey × Addr × Bool) : NestedKey × Addr × Value := (x.1, x.2.1, .bool x.2.2)
def meS (xs : MeL) (k : NestedKey) (q : Addr) (b : Bool) : MeL := if (xs.any fun x => decide (x.1 = k)) = true then xs.map (fun x => if x.1 = k then (x.1, x.2.1, b) else x) else xs ++ [(k, q, b)]
theorem at_raw (xs : MeL) (k : NestedKey) : (atKey (xs.map rawM) k).isSome = xs.any fun x => decide (x.1 = k) := by
  unfold atKey
  induction xs with
  | nil => rfl
  | cons x xs ih =>
    rw [List.map_cons, List.find?_cons, List.any_cons]
    by_cases e : x.1 = k
    · have e2 : (rawM x).1 = k := e
      simp [e, e2]
    · have e2 : ¬ (rawM x).1 = k := e
      simp only [decide_eq_false e, decide_eq_false e2, Bool.false_or]
      exact ih
theorem stored_raw (xs : MeL) (k : NestedKey) (q : Addr) (b : Bool) : storedH (xs.map rawM) k q (.bool b) = (meS xs k q b).map rawM := by
  have a := at_raw xs k
  unfold meS
  by_cases h : (xs.any fun x => decide (x.1 = k)) = true
  · rw [h] at a
    obtain ⟨p, hp⟩ := Option.isSome_iff_exists.mp a
    rw [storedH_old hp, if_pos h, List.map_map, List.map_map]
    refine List.map_congr_left fun x _ => ?_
    show putAt k (.bool b) (rawM x) = rawM (if x.1 = k then (x.1, x.2.1, b) else x)
    unfold putAt
    by_cases e : x.1 = k
    · rw [if_pos (show (rawM x).1 = k from e), if_pos e]; rfl
    · rw [if_neg (show ¬ (rawM x).1 = k from e), if_neg e]
  · have hn : atKey (xs.map rawM) k = none := by
      cases q2 : atKey (xs.map rawM) k with
      | none => rfl
      | some _ => rw [q2] at a; exact absurd a.symm h
    rw [storedH_new hn, if_neg h, List.map_append]
    rfl
/-! few keys -/
def codS : List Int → Nat
  | [] => 0
  | i :: is => (i.toNat + 1) + 4 * codS is
theorem codS_inj : ∀ {a b : List Int}, (∀ i ∈ a, 0 ≤ i ∧ i ≤ 2) → (∀ i ∈ b, 0 ≤ i ∧ i ≤ 2) → codS a = codS b → a = b
  | [], [], _, _, _ => rfl
  | [], _ :: _, _, _, e => by simp only [codS] at e; omega
  | _ :: _, [], _, _, e => by simp only [codS] at e; omega
  | i :: a, j :: b, ha, hb, e => by
    have h1 := ha i List.mem_cons_self
    have h2 := hb j List.mem_cons_self
    simp only [codS] at e
    have e1 : i = j := by omega
    have e2 : codS a = codS b := by omega
    rw [e1, codS_inj (fun x hx => ha x (List.mem_cons_of_mem _ hx)) (fun x hx => hb x (List.mem_cons_of_mem _ hx)) e2]
theorem codS_lt : ∀ {a : List Int}, (∀ i ∈ a, 0 ≤ i ∧ i ≤ 2) → codS a < 4 ^ a.length
  | [], _ => by simp [codS]
  | i :: a, h => by
    have h1 := h i List.mem_cons_self
    have := codS_lt (a := a) fun x hx => h x (List.mem_cons_of_mem _ hx)
    rw [List.length_cons, Nat.pow_succ, codS]
    omega
def codK : NestedKey → Nat
  | .tup [.tup ks, .num m] => match numsK ks with
    | some st => m.toNat * 65536 + codS st
    | none => 0
  | _ => 0
theorem mem_form {d : D} {k : NestedKey} {b : Bool} (h : memE d k = some b) : ∃ ks st m, k = .tup [.tup ks, .num m] ∧ numsK ks = some st ∧ smallS st = true ∧ 0 ≤ m ∧ m < 64 := by
  unfold memE at h
  split at h
  · rename_i ks m
    obtain ⟨rows, _, h⟩ := Option.bind_eq_some_iff.mp h
    obtain ⟨st, e, h⟩ := Option.bind_eq_some_iff.mp h
    split at h
    · rename_i q
      exact ⟨_, st, _, rfl, e, q.1, q.2.1, q.2.2⟩
    · cases h
  · cases h
theorem small_all {st : List Int} (h : smallS st = true) : st.length ≤ 8 ∧ ∀ i ∈ st, 0 ≤ i ∧ i ≤ 2 := by
  unfold smallS at h
  rw [Bool.and_eq_true, decide_eq_true_eq, List.all_eq_true] at h
  exact ⟨h.1, fun i hi => by have := h.2 i hi; simpa using this⟩
theorem nums_eq {a b : List NestedKey} {s : List Int} : numsK a = some s → numsK b = some s → a = b := by
  induction a generalizing b s with
  | nil =>
    intro h1 h2
    cases h1
    cases b with
    | nil => rfl
    | cons y b => cases y <;> simp [numsK] at h2
  | cons x a ih =>
    intro h1 h2
    cases x with
    | num i =>
      rw [numsK, Option.map_eq_some_iff] at h1
      obtain ⟨s', e1, rfl⟩ := h1
      cases b with
      | nil => simp [numsK] at h2
      | cons y b =>
        cases y with
        | num j =>
          rw [numsK, Option.map_eq_some_iff] at h2
          obtain ⟨s2, e2, e3⟩ := h2
          injection e3 with e4 e5
          subst e4 e5
          rw [ih e1 e2]
        | _ => simp [numsK] at h2
    | _ => simp [numsK] at h1
theorem cod_lt {d : D} {k : NestedKey} {b : Bool} (h : memE d k = some b) : codK k < 4194304 := by
  obtain ⟨ks, st, m, rfl, e, hs, h0, h1⟩ := mem_form h
  obtain ⟨l, a⟩ := small_all hs
  have c := codS_lt a
  have p : 4 ^ st.length ≤ 4 ^ 8 := Nat.pow_le_pow_right (by decide) l
  have q : (4 : Nat) ^ 8 = 65536 := by decide
  simp only [codK, e]
  omega
theorem cod_inj {d : D} {k k' : NestedKey} {b b' : Bool} (h : memE d k = some b) (h' : memE d k' = some b') (e : codK k = codK k') : k = k' := by
  obtain ⟨ks, st, m, rfl, e1, hs, h0, h1⟩ := mem_form h
  obtain ⟨ks', st', m', rfl, e1', hs', h0', h1'⟩ := mem_form h'
  obtain ⟨l, a⟩ := small_all hs
  obtain ⟨l', a'⟩ := small_all hs'
  have c := codS_lt a
  have c' := codS_lt a'
  have p : 4 ^ st.length ≤ 4 ^ 8 := Nat.pow_le_pow_right (by decide) l
  have p' : 4 ^ st'.length ≤ 4 ^ 8 := Nat.pow_le_pow_right (by decide) l'
  have q : (4 : Nat) ^ 8 = 65536 := by decide
  simp only [codK, e1, e1'] at e
  have em : m = m' := by omega
  have ec : codS st = codS st' := by omega
  have es := codS_inj a a' ec
  subst em es
  rw [nums_eq e1 e1']
theorem nodup_lt : ∀ (B : Nat) (l : List Nat), l.Nodup → (∀ x ∈ l, x < B) → l.length ≤ B
  | 0, l, _, h => by
    cases l with
    | nil => simp
    | cons x l => exact absurd (h x List.mem_cons_self) (Nat.not_lt_zero x)
  | B + 1, l, nd, h => by
    have ih := nodup_lt B (l.erase B) (nd.erase B) fun x hx => by
      have h1 := h x (List.mem_of_mem_erase hx)
      have h2 : x ≠ B := fun z => by
        subst z
        exact nd.not_mem_erase hx
      omega
    rw [List.length_erase] at ih
    split at ih <;> omega
theorem mem_few {d : D} {H : Hp} {xs : MeL} (m : MemOk d H xs) (nd : (xs.map (·.1)).Nodup) : xs.length < 4194305 := by
  have := nodup_lt 4194304 ((xs.map (·.1)).map codK) (by
    rw [List.map_map]
    unfold List.Nodup at nd ⊢
    rw [List.pairwise_map] at nd ⊢
    refine nd.imp_of_mem fun {a b} ha hb ne e => ne (cod_inj (m a ha).2.2.2 (m b hb).2.2.2 e)) fun x hx => by
    obtain ⟨k, hk, rfl⟩ := List.mem_map.mp hx
    obtain ⟨y, hy, rfl⟩ := List.mem_map.mp hk
    exact cod_lt (m y hy).2.2.2
  rw [List.length_map, List.length_map] at this
  omega
theorem me_ok {P : Program} {w : World} {H : Hp} {h : Heap} {a : Addr} {xs : MeL} (x : MeP a xs h) : ObjOk P w H h a (MeO a xs) :=
  ⟨x, let ⟨_, _, o, _, _, e, _⟩ := x; ⟨o, e⟩, fun h1 h2 y k => let ⟨z1, z2, o, es, ep, e, r⟩ := y; ⟨z1, z2, o, es, ep, k o e, r⟩⟩
theorem me_nc {a : Addr} {xs : MeL} : ∀ c q, MeO a xs ≠ LamX.CodeO c q := fun c q z => by
  unfold MeO LamX.CodeO at z
  have e := HO.ext.inj z
  have hf := codO_nf q
  have h1 := congrFun e (Heap.mk (Array.replicate (c + 1) (codO q)) {})
  have h2 : MeP a xs (Heap.mk (Array.replicate (c + 1) (codO q)) {}) := by
    rw [h1]
    exact ⟨codO q, _, 0, rep_get _ (codO q) hf c (Nat.lt_succ_self _), rfl, rfl⟩
  obtain ⟨_, _, u, es, ep, g1, _, g3, _⟩ := h2
  rw [get_rep _ (codO q) hf a u g1] at g3
  cases g3
section
variable {X : Cx} {pins : List (Addr × Obj)} {σ : L2.St} {H : Hp} {s : Shared} {a q : Addr} {xs : MeL} {d : D} {k : NestedKey}
theorem me_ents {P : Program} {w : World} (m : MemOk d H xs) : xs.map (fun x => (⟨hashN x.1, .ref x.2.1, .bool x.2.2⟩ : DictEntry)) = (xs.map rawM).map (entryOfKey (nestedKind P w)) := by
  rw [List.map_map]
  refine List.map_congr_left fun x hx => ?_
  show _ = (⟨(nestedKind P w).hash x.1, .ref x.2.1, .bool x.2.2⟩ : DictEntry)
  rw [show (nestedKind P w).hash x.1 = hashN x.1 from hashN_eq w x.1 (m x hx).2.1]
theorem me_at (I : Inv X pins σ H s) (g : H a = some (MeO a xs)) (m : MemOk d H xs) : xs.length ≤ sizeLine ∧ (a == sysModules) = false ∧ s.heap.DictOfH (nestedKind X.prog X.w) a (xs.map rawM) := by
  obtain ⟨⟨z, hd, o, es, ep, h1, h2, h3, h4, h5⟩, _⟩ := (show ObjOk X.prog X.w H s.heap a (MeO a xs) from I.hok a _ g)
  refine ⟨z, hd, o, es, ep, h1, h2, h3, h4.trans (me_ents m), fun x hx => ?_, by rw [List.map_map]; exact h5⟩
  obtain ⟨y, hy, rfl⟩ := List.mem_map.mp hx
  exact ⟨kat_is I.hok (m y hy).1 rfl, (m y hy).2.2.1⟩
theorem me_notIn {A : Around} {E : Value → Shared → Prop} {Q : Value → Shared → Prop} (hu : A.units + 9 < cLine) (I : Inv X pins σ H s) (g : H a = some (MeO a xs)) (m : MemOk d H xs) (hk : KAt H k (.ref q)) (hd : k.depth ≤ 8) (h : ∀ s', Inv X pins σ H s' → Q (.bool (!(xs.any fun x => decide (x.1 = k)))) s') :
    wpAny (model X.prog X.w) A (compareOp .NotIn (.ref q) (.ref a)) Q E s := by
  obtain ⟨_, hs, dd⟩ := me_at I g m
  refine wpAny_notIn_heap (knd := nestedKind X.prog X.w) (show A.units + 1 + 8 < cLine from hu) ⟨kat_is I.hok hk rfl, hd⟩ hs dd ?_
  rw [at_raw]
  exact h _ (I.tok _)
theorem me_getItem {A : Around} {E : Value → Shared → Prop} {Q : Value → Shared → Prop} {b : Bool} (hu : A.units + 9 < cLine) (I : Inv X pins σ H s) (g : H a = some (MeO a xs)) (m : MemOk d H xs) (hk : KAt H k (.ref q)) (hd : k.depth ≤ 8) (hin : (xs.any fun x => decide (x.1 = k)) = true) (hb : memE d k = some b) (h : ∀ s', Inv X pins σ H s' → Q (.bool b) s') :
    wpAny (model X.prog X.w) A (getItem (.ref a) (.ref q)) Q E s := by
  obtain ⟨_, hs, dd⟩ := me_at I g m
  have is := at_raw xs k
  rw [hin] at is
  obtain ⟨p, hp⟩ := Option.isSome_iff_exists.mp is
  have pv : p.2 = .bool b := by
    unfold atKey at hp
    obtain ⟨r, e1, e2⟩ := Option.map_eq_some_iff.mp hp
    have mem := List.mem_of_find?_eq_some e1
    have ek := List.find?_some e1
    obtain ⟨y, hy, rfl⟩ := List.mem_map.mp mem
    have ek' : y.1 = k := of_decide_eq_true ek
    have hb2 := (m y hy).2.2.2
    rw [ek', hb] at hb2
    subst e2
    show Value.bool y.2.2 = _
    rw [Option.some.inj hb2]
  refine wpAny_getItem_heap (knd := nestedKind X.prog X.w) (show A.units + 1 + 8 < cLine from hu) ⟨kat_is I.hok hk rfl, hd⟩ dd hp ?_
  rw [pv]
  exact h _ (I.tok _)
theorem meS_ok {b : Bool} (m : MemOk d H xs) (hk : KAt H k (.ref q)) (hn : numK k = true) (hd : k.depth ≤ 8) (hb : memE d k = some b) : MemOk d H (meS xs k q b) := fun x hx => by
  unfold meS at hx
  split at hx
  · obtain ⟨y, hy, rfl⟩ := List.mem_map.mp hx
    by_cases e : y.1 = k
    · rw [if_pos e]
      obtain ⟨h1, h2, h3, _⟩ := m y hy
      exact ⟨h1, h2, h3, by rw [e]; exact hb⟩
    · rw [if_neg e]
      exact m y hy
  · rcases List.mem_append.mp hx with hx | hx
    · exact m x hx
    · rw [List.mem_singleton.mp hx]
      exact ⟨hk, hn, hd, hb⟩
theorem me_setItem {A : Around} {E : Value → Shared → Prop} {Q : Unit → Shared → Prop} {b : Bool} (hu : A.units + 9 < cLine) (I : Inv X pins σ H s) (g : H a = some (MeO a xs)) (m : MemOk d H xs) (hk : KAt H k (.ref q)) (hn : numK k = true) (hd : k.depth ≤ 8) (hb : memE d k = some b)
    (h : ∀ s', Inv X pins σ (upd H a (MeO a (meS xs k q b))) s' → Q () s') : wpAny (model X.prog X.w) A (setItem (.ref a) (.ref q) (.bool b)) Q E s := by
  obtain ⟨z, hs, dd⟩ := me_at I g m
  have m2 := meS_ok m hk hn hd hb
  refine wpAny_setItem_heap (knd := nestedKind X.prog X.w) (hsz := by rw [List.length_map]; exact z) (show A.units + 1 + 8 < cLine from hu) ⟨kat_is I.hok hk rfl, hd⟩ dd fun h' dd' hsb => h _ ?_
  rw [stored_raw] at dd'
  obtain ⟨q', es', ep', g1, g2, g3, g4, _, g5⟩ := dd'
  have g5' : ((meS xs k q b).map (·.1)).Nodup := by rw [List.map_map] at g5; exact g5
  have few := mem_few m2 g5'
  exact d_write I (by rw [g]; exact True.intro) hsb ⟨q', g1⟩ (me_ok ⟨by rw [sizeLine_eq]; omega, hs, q', es', ep', g1, g2, g3, g4.trans (me_ents m2).symm, g5'⟩)
end
end DL
set_option Elab.async false
set_option linter.all false
set_option maxRecDepth 100000
set_option maxHeartbeats 4000000
namespace DL
open PySem L2 PyProof.Rows PySem.W
/-! ### if k not in self.known: self.known[k] = e; return self.known[k] -/
mutual
theorem ki_at {S : Option Stm} {Z H : Hp} (zh : Sub Z H) : ∀ {d : D} {v : V} {k : NestedKey}, Rep S Z d v → kiD d = some k → KAt H k v ∧ numK k = true
  | .int i, v, k, r, e => by
    rw [Rep] at r; subst r
    cases e
    exact ⟨by rw [KAt], rfl⟩
  | .tup ds, v, k, r, e => by
    rw [Rep] at r
    obtain ⟨a, vs, rfl, hz, _, rs⟩ := r
    rw [kiD, Option.map_eq_some_iff] at e
    obtain ⟨ks, e, rfl⟩ := e
    obtain ⟨h1, h2⟩ := kis_at zh rs e
    exact ⟨by rw [KAt]; exact ⟨a, vs, rfl, zh _ _ hz, h1⟩, by rw [numK]; exact h2⟩
  | .non, _, _, _, e => by simp [kiD] at e
  | .bl _, _, _, _, e => by simp [kiD] at e
  | .str _, _, _, _, e => by simp [kiD] at e
  | .lst _, _, _, _, e => by simp [kiD] at e
  | .dct _ _ _, _, _, _, e => by simp [kiD] at e
  | .ins _ _ _, _, _, _, e => by simp [kiD] at e
  | .ty _, _, _, _, e => by simp [kiD] at e
  | .stm, _, _, _, e => by simp [kiD] at e
  | .fn _ _, _, _, _, e => by simp [kiD] at e
  | .mem _, _, _, _, e => by simp [kiD] at e
theorem kis_at {S : Option Stm} {Z H : Hp} (zh : Sub Z H) : ∀ {ds : List D} {vs : List V} {ks : List NestedKey}, Reps S Z ds vs → kiDs ds = some ks → KAts H ks vs ∧ numKs ks = true
  | [], vs, ks, r, e => by
    rw [kiDs] at e; cases e
    cases vs with
    | nil => exact ⟨by simp [KAts], rfl⟩
    | cons _ _ => simp [Reps] at r
  | d :: ds, vs, ks, r, e => by
    rw [kiDs] at e
    obtain ⟨k, e1, e2⟩ := Option.bind_eq_some_iff.mp e
    rw [Option.map_eq_some_iff] at e2
    obtain ⟨ks', e2, rfl⟩ := e2
    cases vs with
    | nil => simp [Reps] at r
    | cons v vs =>
      rw [Reps] at r
      obtain ⟨g1, g2⟩ := ki_at zh r.1 e1
      obtain ⟨g3, g4⟩ := kis_at zh r.2 e2
      exact ⟨by rw [KAts]; exact ⟨g1, g3⟩, by rw [numKs, g2, g4]; rfl⟩
end
theorem meS_any {xs : MeL} {k : NestedKey} {q : Addr} {b : Bool} : ((meS xs k q b).any fun x => decide (x.1 = k)) = true := by
  unfold meS
  split
  · rename_i h
    rw [List.any_eq_true] at h ⊢
    obtain ⟨x, hx, e⟩ := h
    refine ⟨_, List.mem_map_of_mem hx, ?_⟩
    rw [decide_eq_true_eq] at e ⊢
    rw [if_pos e]
    exact e
  · simp
section
variable {X : Cx} {i o value : Expr} {pos pos' : Pos} {ty td tv : TE}
theorem pc_mnotin (hu : X.A.units + 9 < cLine) (hi : PE X i ty) (ho : PE X o td) : PC X .NotIn i o (fun σ H Q => ty σ H fun y H1 => td σ H1 fun x H2 => ∃ a q k xs d, x = .ref a ∧ y = .ref q ∧ H2 a = some (MeO a xs) ∧ MemOk d H2 xs ∧ KAt H2 k (.ref q) ∧ k.depth ≤ 8 ∧ Q (.bl (!(xs.any fun x => decide (x.1 = k)))) H2) := by
  refine ⟨fun pins s σ H Q I h => ?_⟩
  refine thn (hi.run pins s σ H _ I h) fun iv s1 ⟨y, H1, I1, ry, q1⟩ => thn (ho.run pins s1 σ H1 _ I1 q1) fun u s2 ⟨x, H2, I2, rx, a, q, k, xs, d, ex, ey, g, m, hk, hd, q2⟩ => ?_
  subst ex ey
  obtain rfl : u = Value.ref a := rx
  obtain rfl : iv = Value.ref q := ry
  exact me_notIn hu I2 g m hk hd fun s3 I3 => ⟨.bl _, H2, I3, rfl, q2⟩
theorem pe_mget (hu : X.A.units + 9 < cLine) (ho : PE X o td) (hi : PE X i ty) (hs : NoSl i) : PE X (.Subscript o i pos) (fun σ H Q => td σ H fun x H1 => ty σ H1 fun y H2 => ∃ a q k xs d b, x = .ref a ∧ y = .ref q ∧ H2 a = some (MeO a xs) ∧ MemOk d H2 xs ∧ KAt H2 k (.ref q) ∧ k.depth ≤ 8 ∧ (xs.any fun x => decide (x.1 = k)) = true ∧ memE d k = some b ∧ Q (.bl b) H2) := by
  refine ⟨fun pins s σ H Q I h => ?_⟩
  refine subD_of PySem.F.slot_dict_getitem.lookup hs (thn (ho.run pins s σ H _ I h) fun u s1 ⟨x, H1, I1, rx, q1⟩ => thn (hi.run pins s1 σ H1 _ I1 q1) fun iv s2 ⟨y, H2, I2, ry, a, q, k, xs, d, b, ex, ey, g, m, hk, hd, hin, hb, q2⟩ => ?_)
  subst ex ey
  obtain rfl : u = Value.ref a := rx
  obtain rfl : iv = Value.ref q := ry
  exact ⟨(me_at I2 g m).2.2.typeIs, me_getItem hu I2 g m hk hd hin hb fun s3 I3 => ⟨.bl b, H2, I3, rfl, q2⟩⟩
theorem ps_mput (hu : X.A.units + 9 < cLine) (ho : PE X o td) (hi : PE X i ty) (hv : PE X value tv) (hs : swapsWith value (some (.Subscript o i pos')) pos.line X.env = pure false) :
    PS X (.Assign [.Subscript o i pos'] value pos) (fun D σ H => tv σ H fun v H1 => td σ H1 fun x H2 => ty σ H2 fun y H3 => ∃ a q k xs d b, x = .ref a ∧ y = .ref q ∧ v = .bl b ∧ H3 a = some (MeO a xs) ∧ MemOk d H3 xs ∧ KAt H3 k (.ref q) ∧ numK k = true ∧ k.depth ≤ 8 ∧ memE d k = some b ∧ D.nx σ (upd H3 a (MeO a (meS xs k q b)))) := by
  refine ⟨fun pins s σ H D I h => ?_⟩
  refine wpAny_Assign_Subscript (thn (hv.run pins s σ H _ I h) fun r s1 ⟨v, H1, I1, rv, q1⟩ => thn (ho.run pins s1 σ H1 _ I1 q1) fun u s2 ⟨x, H2, I2, rx, q2⟩ => thn (hi.run pins s2 σ H2 _ I2 q2) fun iv s3 ⟨y, H3, I3, ry, a, q, k, xs, d, b, ex, ey, ev, g, m, hk, hn, hd, hb, q3⟩ => ?_) hs
  subst ex ey ev
  obtain rfl : u = Value.ref a := rx
  obtain rfl : iv = Value.ref q := ry
  obtain rfl : r = Value.bool b := rv
  exact me_setItem hu I3 g m hk hn hd hb fun s4 I4 => ⟨σ, _, I4, q3⟩
end
theorem meS_any2 {xs : MeL} {k k' : NestedKey} {q : Addr} {b : Bool} (h : (xs.any fun x => decide (x.1 = k')) = true) : ((meS xs k q b).any fun x => decide (x.1 = k')) = true := by
  rw [List.any_eq_true] at h
  obtain ⟨x, hx, e⟩ := h
  rw [decide_eq_true_eq] at e
  rw [List.any_eq_true]
  unfold meS
  split
  · refine ⟨_, List.mem_map_of_mem hx, ?_⟩
    rw [decide_eq_true_eq]
    split <;> exact e
  · exact ⟨x, List.mem_append_left _ hx, decide_eq_true e⟩
theorem meS_has {d : D} {xs : MeL} {k : NestedKey} {q : Addr} {b : Bool} (h : MemHas d xs) : MemHas d (meS xs k q b) := fun k' hk => meS_any2 (h k' hk)
/-- the memo is written -/
theorem Fr.memo {G : Gh} {Z H : Hp} {ρ : Rho} {σ : L2.St} {c : Nat} {s : Stm} {d : D} {xs ys : MeL} (F : Fr G Z H ρ σ c) (eS : G.S = some s) (em : s.mm = some d) (hc : s.cl = s.st) (hz : Z s.st = none) (h : H s.st = some (MeO s.st xs)) (m : MemOk d (upd H s.st (MeO s.st ys)) ys) (hs : MemHas d ys) : Fr G Z (upd H s.st (MeO s.st ys)) ρ σ c := by
  have nz : ∀ b o, Z b = some o → b ≠ s.st := fun b o q z => by rw [z, hz] at q; cases q
  refine ⟨fun b o q => by rw [upd_ne (nz b o q)]; exact F.zh b o q, F.gs, fun s' e => ?_, F.len, fun j t f => ?_, F.ap, fun b o q n => ?_, F.fr, F.z0, tabs_upd F.tb h me_ntbl me_nc⟩
  · rw [eS] at e; cases e
    exact .inr ⟨d, em, hc, hz, ys, upd_same, m, hs⟩
  · have q := F.sl j t f
    cases t with
    | no => trivial
    | sh d => exact q
    | ow d' =>
      obtain ⟨x, q1, vs', q2, q3, q4, q5⟩ := q
      have ne := (F.notSt q4 s eS).1
      exact ⟨x, q1, vs', by rw [upd_ne ne]; exact q2, q3, q4, q5⟩
    | ob x C ns ds =>
      obtain ⟨x, q1, dx, fs, q2, q3, q4, q5, q6, q7, q8⟩ := q
      exact ⟨x, q1, dx, fs, by rw [upd_ne (F.notSt q6 s eS).1]; exact q2, by rw [upd_ne (F.notSt q7 s eS).1]; exact q3, q4, q5, q6, q7, q8⟩
  · rw [upd_ne (n s eS).1]
    exact F.sm b o q n
theorem known_at {G : Gh} {Z H : Hp} {ρ : Rho} {σ : L2.St} {c i0 : Nat} {C : Addr} {ns : List Str} {ds : List D} {f : Str} {d : D} (F : Fr G Z H ρ σ c) (e : ρ[i0]? = some (.sh (.ins C ns ds))) (l : lookF f ns ds = some (.mem d)) :
    ∃ a dx fs sm xs, σ[i0]? = some (some (.ref a)) ∧ H a = some (.ins C dx fs) ∧ fs.lookup f = some (.ref sm.st) ∧ G.S = some sm ∧ sm.mm = some d ∧ sm.cl = sm.st ∧ Z sm.st = none ∧ H sm.st = some (MeO sm.st xs) ∧ MemOk d H xs ∧ MemHas d xs := by
  obtain ⟨v, ev, r⟩ := F.sl i0 _ e
  rw [Rep] at r
  obtain ⟨a, dx, fs, rfl, hz, _, hn, rs⟩ := r
  rw [hn] at l
  obtain ⟨w, hl, rw'⟩ := lookF_ok rs l
  rw [Rep] at rw'
  obtain ⟨sm, eS, em, rfl⟩ := rw'
  rcases F.st sm eS with ⟨q, _⟩ | ⟨d', q, h0, h1, xs, h2, h3⟩
  · rw [em] at q; cases q
  · rw [em] at q; cases q
    exact ⟨a, dx, fs, sm, xs, ev, F.zh _ _ hz, hl, eS, em, h0, h1, h2, h3⟩
def insAt (ρ : Rho) (i : Nat) : Option (Addr × List Str × List D) := match ρ[i]? with
  | some (.sh (.ins C ns ds)) => some (C, ns, ds)
  | _ => none
theorem insAt_some {ρ : Rho} {i : Nat} {r : Addr × List Str × List D} (h : insAt ρ i = some r) : ρ[i]? = some (.sh (.ins r.1 r.2.1 r.2.2)) := by
  unfold insAt at h
  split at h
  · rename_i e; cases h; exact e
  · cases h
@[simp] def asMem : D → Option D
  | .mem d => some d
  | _ => none
theorem asMem_some {d m : D} (h : asMem d = some m) : d = .mem m := by
  cases d <;> simp [asMem] at h
  rw [h]
@[simp] def isBl (b : Bool) : Vd → Bool
  | .sh (.bl b') => b' == b
  | _ => false
theorem isBl_is {b : Bool} {v : Vd} (h : isBl b v = true) : v = .sh (.bl b) := by
  unfold isBl at h
  split at h
  · rw [eq_of_beq h]
  · cases h
@[simp] def asRet {α : Type} : Cm α → Option α
  | .ret a => some a
  | _ => none
theorem asRet_some {α : Type} {m : Cm α} {a : α} (h : asRet m = some a) : m = .ret a := by
  cases m <;> simp [asRet] at h
  rw [h]
/-- the key is two slots; what is told is what the memo's data tell -/
def eMemo (C : Addr) (f : Str) (i0 i j : Nat) (fe : EE) : ES := fun ρ => opt (insAt ρ i0) fun r => opt (shAt ρ i) fun s => opt (shAt ρ j) fun m => opt ((lookF f r.2.1 r.2.2).bind asMem) fun d => opt (kiD (.tup [s, m])) fun k => opt (memE d k) fun b =>
  req (r.1 = C ∧ k.depth ≤ 8) (opt (asRet (fe ρ)) fun p => req (isBl b p.1 = true ∧ insAt p.2 i0 = some r ∧ shAt p.2 i = some s ∧ shAt p.2 j = some m) (.ret (.rt (.sh (.bl b)))))
theorem dss_memo {X : Cx} {m i0 i j : Nat} {C : Addr} {f : Str} {fe : EE} {kx1 ox1 kx2 ox2 kx3 ox3 ex : Expr} {pos pos1 pos2 pos3 pos4 rpos : Pos} (hu : X.A.units + 9 < cLine) (hC : Cls X.K C) (hn : NoAttr X.K C f)
    (hk1 : PE X kx1 (tTup (tCons (tVar i) (tCons (tVar j) tNil)))) (ho1 : PE X ox1 (tFld X.K (tVar i0) f)) (hk2 : PE X kx2 (tTup (tCons (tVar i) (tCons (tVar j) tNil)))) (ho2 : PE X ox2 (tFld X.K (tVar i0) f)) (hk3 : PE X kx3 (tTup (tCons (tVar i) (tCons (tVar j) tNil)))) (ho3 : PE X ox3 (tFld X.K (tVar i0) f))
    (he : DE X m ex (tE fe)) (hs3 : NoSl kx3) (hb1 : behindInMarks .NotIn ox1 = false := by rfl) (hs2 : swapsWith ex (some (.Subscript ox2 kx2 pos2)) pos3.line X.env = pure false := by rfl) :
    DSs X m [.If (.Compare kx1 [.NotIn] [ox1] pos1) [.Assign [.Subscript ox2 kx2 pos2] ex pos3] [] pos, .Return (some (.Subscript ox3 kx3 pos4)) rpos] (tS (eMemo C f i0 i j fe)) := fun G W tk => by
  have s1 := ps_if (pos := pos) (pt_cmp (pos := pos1) (pc_mnotin hu hk1 ho1) hb1) (pss_one (ps_mput (pos := pos3) (pos' := pos2) hu ho2 hk2 (eex he) hs2)) pss_nil
  have s2 : PS X (.Return (some (.Subscript ox3 kx3 pos4)) rpos) _ := ps_ret (pe_mget (pos := pos4) hu ho3 hk3 hs3)
  refine PSs.weak (pss_cons s1 (pss_one s2)) fun D σ H ⟨Z, ρ, c, Dd, F, hcm, t, kD⟩ => ?_
  obtain ⟨r, e0, t⟩ := opt_sat (show (eMemo C f i0 i j fe ρ).sat (Out.sat Dd) W from t)
  obtain ⟨s, e1, t⟩ := opt_sat t
  obtain ⟨mm, e2, t⟩ := opt_sat t
  obtain ⟨d, e3, t⟩ := opt_sat t
  obtain ⟨k, e4, t⟩ := opt_sat t
  obtain ⟨b, e5, t⟩ := opt_sat t
  obtain ⟨⟨eC, hdep⟩, t2⟩ := req_sat t
  obtain ⟨dm, e6, e7⟩ := Option.bind_eq_some_iff.mp e3
  have e7 := asMem_some e7
  subst e7 eC
  obtain ⟨pv, e8, t2⟩ := opt_sat t2
  obtain ⟨⟨q1, q2, q3, q4⟩, q5⟩ := req_sat t2
  have q5 : Dd.rt (.sh (.bl b)) := q5
  have e8 := asRet_some e8
  -- a key, made anew
  have key : ∀ {Z H : Hp} {ρ : Rho} {c : Nat}, Fr G Z H ρ σ c → shAt ρ i = some s → shAt ρ j = some mm → ∃ vi vj, σ[i]? = some (some vi) ∧ σ[j]? = some (some vj) ∧ ∀ p, H p = none → KAt (upd H p (.tup [vi, vj])) k (.ref p) ∧ numK k = true := by
    intro Z H ρ c F h1 h2
    obtain ⟨vi, g1, r1⟩ := F.sl i _ (shAt_some h1)
    obtain ⟨vj, g2, r2⟩ := F.sl j _ (shAt_some h2)
    refine ⟨vi, vj, g1, g2, fun p hp => ?_⟩
    rw [kiD, Option.map_eq_some_iff] at e4
    obtain ⟨ks, e4, rfl⟩ := e4
    obtain ⟨h3, h4⟩ := kis_at (F.zh.trans (sub_upd hp)) (Reps.cons r1 (Reps.cons r2 Reps.nil)) e4
    exact ⟨by rw [KAt]; exact ⟨p, _, rfl, upd_same, h3⟩, by rw [numK]; exact h4⟩
  -- the end
  have fin : ∀ {Z' H' : Hp} {ρ' : Rho} {c' : Nat} {sm : Stm} {xs : MeL}, Sub Z Z' → c' ≤ c + m → Dd.rt (.sh (.bl b)) → Fr G Z' H' ρ' σ c' → insAt ρ' i0 = some r → shAt ρ' i = some s → shAt ρ' j = some mm → G.S = some sm → sm.mm = some d → H' sm.st = some (MeO sm.st xs) → MemOk d H' xs → (xs.any fun x => decide (x.1 = k)) = true →
      (fun σ H Q => tFld X.K (tVar i0) f σ H fun x H1 => tTup (tCons (tVar i) (tCons (tVar j) tNil)) σ H1 fun y H2 => ∃ a q k xs d b, x = .ref a ∧ y = .ref q ∧ H2 a = some (MeO a xs) ∧ MemOk d H2 xs ∧ KAt H2 k (.ref q) ∧ k.depth ≤ 8 ∧ (xs.any fun x => decide (x.1 = k)) = true ∧ memE d k = some b ∧ Q (.bl b) H2 : TE) σ H' D.rt := by
    intro Z' H' ρ' c' sm xs zz lc hrt F' h0 h1 h2 eS em hx mx hin
    obtain ⟨a, dx, fs, sm2, xs2, g1, g2, g3, g4, g5, g6, g7, g8, g9, g10⟩ := known_at F' (insAt_some h0) e6
    rw [eS] at g4; cases g4
    obtain ⟨vi, vj, k1, k2, kk⟩ := key F' h1 h2
    refine ⟨_, g1, a, _, dx, fs, _, rfl, g2, hC, hn, g3, vi, k1, vj, k2, by rw [sizeLine_eq]; simp, fun p hp => ?_⟩
    have np : sm.st ≠ p := fun z => by rw [z, hp] at hx; cases hx
    refine ⟨sm.st, p, k, xs, d, b, rfl, rfl, by rw [upd_ne np]; exact hx, mx.mono (.sub (sub_upd hp)), (kk p hp).1, hdep, hin, e5, ?_⟩
    exact kD.rt (.sh (.bl b)) ρ' σ Z' _ _ c' zz lc hrt (F'.alloc _ hp) (show Rep _ _ _ _ by rw [Rep])
  obtain ⟨a, dx, fs, sm, xs, g1, g2, g3, g4, g5, g6, g7, g8, g9, g10⟩ := known_at F (insAt_some e0) e6
  obtain ⟨vi, vj, k1, k2, kk⟩ := key F e1 e2
  refine ⟨vi, k1, vj, k2, by rw [sizeLine_eq]; simp, fun p hp => ?_⟩
  have np : sm.st ≠ p := fun z => by rw [z, hp] at g8; cases g8
  have nap : a ≠ p := fun z => by rw [z, hp] at g2; cases g2
  have F1 := F.alloc (.tup [vi, vj]) hp
  have g8' : upd H p (.tup [vi, vj]) sm.st = some (MeO sm.st xs) := by rw [upd_ne np]; exact g8
  have g9' := g9.mono (.sub (sub_upd (o := .tup [vi, vj]) hp))
  refine ⟨_, g1, a, _, dx, fs, _, rfl, by rw [upd_ne nap]; exact g2, hC, hn, g3, sm.st, p, k, xs, d, rfl, rfl, g8', g9', (kk p hp).1, hdep, _, rfl, ?_⟩
  cases hin : xs.any fun x => decide (x.1 = k) with
  | true =>
    rw [if_neg (by decide)]
    refine fin (fun _ _ e => e) (Nat.le_add_right c m) q5 F1 e0 e1 e2 g4 g5 g8' g9' hin
  | false =>
    rw [if_pos (by decide)]
    refine ⟨G, tk.2, Z, ρ, c, fun r' ρ' => r' = pv.1 ∧ ρ' = pv.2, F1, hcm, by show (fe ρ).sat _ _; rw [e8]; exact ⟨rfl, rfl⟩, fun v ρ1 Z1 H1 u c1 z1 l1 q F2 ru => ?_⟩
    obtain ⟨qa, qb⟩ := q
    subst qa qb
    rw [isBl_is q1] at ru
    obtain rfl : u = V.bl b := by have ru : Rep _ _ _ _ := ru; rw [Rep] at ru; exact ru
    obtain ⟨a1, dx1, fs1, sm1, xs1, f1, f2, f3, f4, f5, f6, f7, f8, f9, f10⟩ := known_at F2 (insAt_some q2) e6
    rw [g4] at f4; cases f4
    obtain ⟨wi, wj, w1, w2, ww⟩ := key F2 q3 q4
    refine ⟨_, f1, a1, _, dx1, fs1, _, rfl, f2, hC, hn, f3, wi, w1, wj, w2, by rw [sizeLine_eq]; simp, fun p2 hp2 => ?_⟩
    have np2 : sm.st ≠ p2 := fun z => by rw [z, hp2] at f8; cases f8
    have hx2 : upd H1 p2 (.tup [wi, wj]) sm.st = some (MeO sm.st xs1) := by rw [upd_ne np2]; exact f8
    have mx2 := f9.mono (.sub (sub_upd (o := .tup [wi, wj]) hp2))
    obtain ⟨kk1, kk2⟩ := ww p2 hp2
    refine ⟨sm.st, p2, k, xs1, d, b, rfl, rfl, rfl, hx2, mx2, kk1, kk2, hdep, e5, ?_⟩
    have F3 := F2.alloc (.tup [wi, wj]) hp2
    have mx3 := meS_ok mx2 kk1 kk2 hdep e5
    have F4 := F3.memo g4 g5 f6 f7 hx2 (mx3.mono (.upd hx2 me_ntup)) (meS_has f10)
    exact fin z1 l1 q5 F4 q2 q3 q4 g4 g5 upd_same (mx3.mono (.upd hx2 me_ntup)) meS_any
end DL
set_option Elab.async false
set_option linter.all false
set_option maxRecDepth 100000
set_option maxHeartbeats 4000000
namespace DL
open PySem L2 PyProof.Rows
theorem comp_go {G : Gh} {m k : Nat} {g : DTG} {tt : DTT} {te : DTE} {vs : List Nat} {σ : L2.St} {H1 : Hp} {Q : VK} {T : List (Addr × Str)} {Z1 : Hp} {ρ1 : Rho} {c1 : Nat} {J : It} {ds : List D} {Qd : Vd → Rho → Prop} (hT : G.T = T) (F1 : Fr G Z1 H1 ρ1 σ c1) (J1 : ItOk G.S J Z1 ds) (hc : c1 + sizeLine * (m + k) ≤ G.cm)
    (q : dCompGo g tt te vs Qd ds [] (wipeR ρ1 vs)) (kk : ∀ r ρ' Z' H' v c', Sub Z1 Z' → c' ≤ c1 + sizeLine * (m + k) → Qd r ρ' → Fr G Z' H' ρ' σ c' → VOk G Z' H' ρ' σ r v → Q v H') (H : Hp) :
    tLc (fun _ _ R => R J H1) (gEx g vs) (tEx T m tt) (eEx T k te) vs σ H Q := by
  intro P hP
  have hcost : ∀ i, i ≤ ds.length → c1 + i * (m + k) ≤ c1 + sizeLine * (m + k) := fun i hi => by
    have : i * (m + k) ≤ sizeLine * (m + k) := Nat.mul_le_mul_right _ (Nat.le_trans hi J1.len)
    omega
  have hP0 : G.H0 P = none := F1.free0 hP
  have hPz : G.Z0 P = none := F1.z0n (F1.freeZ hP)
  refine ⟨fun i mm H' => mm = ds.length - i ∧ i ≤ ds.length ∧ ∃ Z2 ρ2 c2 accD accV, Sub Z1 Z2 ∧ Fr G Z2 H' ρ2 (L2.wipe σ vs) c2 ∧ H' P = some (.lst accV) ∧ Z2 P = none ∧ NotOwned ρ2 (L2.wipe σ vs) P ∧ Wiped ρ2 vs ∧ Reps G.S Z2 accD accV ∧ accD.length ≤ i ∧ c2 ≤ c1 + i * (m + k) ∧
    dCompGo g tt te vs Qd (ds.drop i) accD ρ2, ?_, ?_⟩
  · refine ⟨ds.length, by simp, Nat.zero_le _, Z1, wipeR ρ1 vs, c1, [], [], fun _ _ e => e, (F1.alloc _ hP).wipe vs, upd_same, F1.freeZ hP, (NotOwned.of_none F1 hP).wipe, wiped_wipeR _ _, Reps.nil, Nat.le_refl _, by simp, by simpa using q⟩
  rintro i mm H2 ⟨rfl, hi, Z2, ρ2, c2, accD, accV, z2, F2, hD, hDz, hDn, hw, ra, hlen, hc2, q2⟩
  by_cases hlt : i < ds.length
  · refine .inr ⟨J1.go i H2 (z2.trans F2.zh) hlt, _, fun H' z => ⟨ds.length - (i + 1), by omega, rfl, hlt, z⟩, fun x H3 y => ?_⟩
    obtain ⟨hh, Z3, y1, y2, y3, rp⟩ := J1.yld i H2 Z2 x H3 ds[i] z2 F2.zh (by simp [hlt]) y
    rw [drop_cons hlt] at q2
    have FH := F2.hold hD hDz hP0 hDn
    obtain ⟨F3, _⟩ := FH.pur (res := .sh ds[i]) y1 y2 hh y3 rp
    have hcc := hcost (i + 1) hlt
    rw [Nat.add_mul, Nat.one_mul] at hcc
    refine ⟨G.with P (.lst accV), Z3, ρ2, c2, ds[i], _, F3, rp, q2, fun ρ4 σ4 q4 F4 w4 => ⟨by rw [w4]; exact wipe_idem σ vs, ?_⟩⟩
    refine ⟨G.with P (.lst accV), hT, Z3, ρ4, c2, _, F4, by show c2 + m ≤ G.cm; omega, q4, fun b ρ5 Z5 H5 c5 z5 l5 q5 F5 => ?_⟩
    have back : ∀ {ρ6 : Rho} {Z6 H6 : Hp} {c6 : Nat}, Fr (G.with P (.lst accV)) Z6 H6 ρ6 σ4 c6 → Fr G Z6 H6 (wipeR ρ6 vs) (L2.wipe σ vs) c6 ∧ H6 P = some (.lst accV) ∧ Z6 P = none ∧ NotOwned (wipeR ρ6 vs) (L2.wipe σ vs) P := fun {ρ6 Z6 H6 c6} F6 => by
      obtain ⟨G1, G2, G3, G4⟩ := F6.drop F1.gs hP0 hPz
      have e : L2.wipe σ4 vs = L2.wipe σ vs := by rw [w4]; exact wipe_idem σ vs
      rw [← e]
      exact ⟨G1.wipe vs, G2, G3, G4.wipe⟩
    cases b with
    | true =>
      refine ⟨G.with P (.lst accV), hT, Z5, ρ5, c5, _, F5, by show c5 + k ≤ G.cm; omega, q5, fun r ρ6 Z6 H6 v c6 z6 l6 q6 F6 o6 => ?_⟩
      obtain ⟨Z7, z7, F7, r7⟩ := F6.share o6
      obtain ⟨B1, B2, B3, B4⟩ := back F7
      refine ⟨accV, B2, ?_, Z7, wipeR ρ6 vs, c6, accD ++ [r.d], accV ++ [v], z2.trans (y1.trans (z5.trans (z6.trans z7))), B1.tmp B2 B3 hP0 B4, upd_same, B3, B4, wiped_wipeR _ _, ?_, ?_, ?_, q6⟩
      · rw [← ra.length]
        exact Nat.lt_of_le_of_lt hlen (Nat.lt_of_lt_of_le hlt J1.len)
      · exact (ra.mono (y1.trans (z5.trans (z6.trans z7)))).append (Reps.cons r7 Reps.nil)
      · simp; omega
      · rw [Nat.add_mul]; omega
    | false =>
      obtain ⟨B1, B2, B3, B4⟩ := back F5
      refine ⟨Z5, wipeR ρ5 vs, c5, accD, accV, z2.trans (y1.trans z5), B1, B2, B3, B4, wiped_wipeR _ _, ra.mono (y1.trans z5), by omega, by rw [Nat.add_mul]; omega, q5⟩
  · have e : i = ds.length := by omega
    subst e
    rw [List.drop_length] at q2
    have hcc := hcost ds.length (Nat.le_refl _)
    refine .inl ⟨J1.stop H2 (z2.trans F2.zh), ?_⟩
    have F3 := F2.unwipe hw
    exact kk _ ρ2 Z2 H2 _ c2 z2 (by omega) q2 F3 ⟨P, rfl, ⟨_, hD, hDz, hP0, accV, rfl, Nat.le_trans hlen J1.len, ra⟩, hDn.unwipe hw⟩
/-! ### a zip held by a name -/
def extH (H : Hp) : List (Addr × (Heap → Prop)) → Hp
  | [] => H
  | p :: cs => upd (extH H cs) p.1 (.ext p.2)
theorem extH_out {H : Hp} {b : Addr} : ∀ {cs : List (Addr × (Heap → Prop))}, (∀ p ∈ cs, p.1 ≠ b) → extH H cs b = H b
  | [], _ => rfl
  | p :: cs, h => by
    unfold extH
    rw [upd_ne (Ne.symm (h p List.mem_cons_self))]
    exact extH_out fun q hq => h q (List.mem_cons_of_mem _ hq)
theorem extH_in {H : Hp} : ∀ {cs : List (Addr × (Heap → Prop))}, (cs.map (·.1)).Nodup → ∀ p ∈ cs, extH H cs p.1 = some (.ext p.2)
  | [], _, p, hp => by simp at hp
  | q :: cs, nd, p, hp => by
    rw [List.map_cons, List.nodup_cons] at nd
    unfold extH
    rcases List.mem_cons.mp hp with rfl | hp
    · exact upd_same
    · have : p.1 ≠ q.1 := fun e => nd.1 (by rw [← e]; exact List.mem_map_of_mem hp)
      rw [upd_ne this]
      exact extH_in nd.2 p hp
theorem extH_some {H : Hp} {b : Addr} {o : HO} : ∀ {cs : List (Addr × (Heap → Prop))}, extH H cs b = some o → (∃ p ∈ cs, p.1 = b ∧ o = .ext p.2) ∨ H b = some o
  | [], h => .inr h
  | p :: cs, h => by
    unfold extH at h
    by_cases e : b = p.1
    · rw [e, upd_same] at h
      exact .inl ⟨p, List.mem_cons_self, e.symm, (Option.some.inj h).symm⟩
    · rw [upd_ne e] at h
      rcases extH_some h with ⟨q, h1, h2⟩ | h
      · exact .inl ⟨q, List.mem_cons_of_mem _ h1, h2⟩
      · exact .inr h
theorem inv_ext {X : Cx} {pins : List (Addr × Obj)} {σ : L2.St} {H : Hp} {s : Shared} {h' : Heap} {t' : Nat} {cs : List (Addr × (Heap → Prop))} (I : L2.Inv X pins σ H s) (k : ∀ b u, s.heap.get? b = some u → h'.get? b = some u)
    (hp : ∀ p ∈ cs, s.heap.objs.size ≤ p.1) (new : ∀ p ∈ cs, p.2 h' ∧ (∃ o, h'.get? p.1 = some o) ∧ ∀ h1 h2 : Heap, p.2 h1 → (∀ o, h1.get? p.1 = some o → h2.get? p.1 = some o) → p.2 h2) :
    L2.Inv X pins σ (extH H cs) { s with heap := h', toks := t' } := by
  have out : ∀ b u, H b = some u → extH H cs b = some u := fun b u e => by
    rw [extH_out fun p hq z => ?_]
    · exact e
    · have := I.hok.fresh (hp p hq)
      rw [z, e] at this; cases this
  refine I.un ⟨fun b u q _ _ _ => k b u q, fun b u q _ _ _ => ⟨u.slots, k b u q⟩, fun b u q n _ => ?_, fun b u q _ => ⟨u, k b u q⟩, fun b xs q => out b _ q, fun b u xs q => out b _ q, fun b ps q => ⟨#[], by rw [out b _ q]; simp⟩⟩ fun b u e => ?_
  · rw [extH_out fun p hq z => ?_]
    · exact n
    · have := hp p hq
      rw [z] at this
      exact absurd (Nat.lt_of_lt_of_le (Heap.lt_size q) this) (Nat.lt_irrefl _)
  · rcases extH_some e with ⟨p, h1, rfl, rfl⟩ | h
    · exact new p h1
    · exact (I.hok b u h).stay (fun c v _ q => k c v q) (fun c q => out c _ q) fun c xs q => out c _ q
def dropL (H : Hp) : List Addr → Hp
  | [] => H
  | a :: as => ItX.dropH (dropL H as) a
theorem dropL_out {H : Hp} {b : Addr} : ∀ {as : List Addr}, b ∉ as → dropL H as b = H b
  | [], _ => rfl
  | a :: as, h => by
    rw [List.mem_cons, not_or] at h
    unfold dropL
    rw [ItX.dropH_ne h.1]
    exact dropL_out h.2
theorem dropL_in {H : Hp} {b : Addr} : ∀ {as : List Addr}, b ∈ as → dropL H as b = none
  | [], h => by simp at h
  | a :: as, h => by
    unfold dropL
    by_cases e : b = a
    · rw [e]; exact ItX.dropH_same
    · rw [ItX.dropH_ne e]
      exact dropL_in (by simpa [e] using h)
theorem inv_dropL {X : Cx} {pins : List (Addr × Obj)} {σ : L2.St} {H : Hp} {s : Shared} (I : L2.Inv X pins σ H s) : ∀ {as : List Addr}, as.Nodup → (∀ a ∈ as, ∃ φ, H a = some (.ext φ)) → L2.Inv X pins σ (dropL H as) s
  | [], _, _ => I
  | a :: as, nd, h => by
    rw [List.nodup_cons] at nd
    obtain ⟨φ, e⟩ := h a List.mem_cons_self
    exact ItX.inv_drop (φ := φ) (inv_dropL I nd.2 fun b hb => h b (List.mem_cons_of_mem _ hb)) (by rw [dropL_out nd.1]; exact e)
theorem inv_fpL {X : Cx} {pins : List (Addr × Obj)} {σ : L2.St} {H : Hp} {s : Shared} (I : L2.Inv X pins σ H s) {as : List Addr} {a : Addr} {u : HO} (h : H a = some u) (ha : a ∈ as) (hn : X.s_0.heap.objs.size ≤ a) : FpOk X pins (dropL H as) a := by
  obtain ⟨_, f2⟩ := ItX.inv_fp I h hn
  exact ⟨dropL_in ha, f2⟩
/-- the five things of a zip -/
def zipCs (l m : Bool) (a b z TI TO i1 i2 : Addr) (x y : Value) : List (Addr × (Heap → Prop)) :=
  [(z, fun h => IsZip h z TI TO .none), (TI, fun h => IsTupOf2 h TI (.ref i1) (.ref i2)), (TO, fun h => IsTupOf2 h TO x y), (i1, fun h => ItB l h i1 a 0), (i2, fun h => ItB m h i2 b 0)]
def Sq0 (l : Bool) (Z : Hp) (a : Addr) (vs : List V) : Prop := (l = true ∧ Z a = some (.lst vs)) ∨ (l = false ∧ Z a = some (.tup vs))
theorem Sq0.mono {l : Bool} {Z Z' : Hp} {a : Addr} {vs : List V} (h : Sq0 l Z a vs) (zh : Sub Z Z') : Sq0 l Z' a vs := by
  rcases h with ⟨rfl, h⟩ | ⟨rfl, h⟩
  · exact .inl ⟨rfl, zh _ _ h⟩
  · exact .inr ⟨rfl, zh _ _ h⟩
theorem zipCs_nodup {l m : Bool} {a b z TI TO i1 i2 : Addr} {x y : Value} (D : ZipOwn z TI TO i1 i2) : ((zipCs l m a b z TI TO i1 i2 x y).map (·.1)).Nodup := D.d
def tZipV (K : PySem.W.Frag) (n : Nat) (ta : TA) : TE := fun σ H Q => ta σ H fun vs H1 => ∃ l m a b xs ys, vs = [.ref a, .ref b] ∧ SqB l K H1 a xs ∧ SqB m K H1 b ys ∧
  ∀ z TI TO i1 i2 x y, ZipOwn z TI TO i1 i2 → a ≠ TO → b ≠ TO → (∀ p ∈ zipCs l m a b z TI TO i1 i2 x y, n ≤ p.1 ∧ H1 p.1 = none) → Q (.ref z) (extH H1 (zipCs l m a b z TI TO i1 i2 x y))
theorem pe_zipV {X : Cx} {e e2 : Expr} {ta : TA} {p pos : Pos} (hg : Gl X "zip") (hm : X.mg "zip" = none) (ha : PA X [e, e2] ta)
    (hs : starEach [e, e2] X.env = (false, eval e X.env) :: starEach [e2] X.env := by rfl) (hpl : (backTo pos (starEach [e2] X.env)).any (·.1) = false := by rfl) :
    PE X (.Call (.Name "zip" p) [e, e2] [] pos) (tZipV X.K X.s_0.heap.objs.size ta) := by
  refine ⟨fun pins s σ H Q I h => ?_⟩
  refine Call_ (ld_blt I hg hm PyProof.Rows.boot_zip (PyProof.Rows.callWith_type1 (thn (ha.run pos pins s σ H _ I h) fun us s1 ⟨vs, H1, I1, r1, q1⟩ => ?_) hs hpl))
  obtain ⟨l, m, a, b, xs, ys, ex, hqx, hqy, q⟩ := q1
  subst ex
  cases r1 with
  | cons r rr =>
    cases rr with
    | cons r' rr =>
      cases rr
      cases r
      cases r'
      obtain ⟨its, rv, p1, _⟩ := invB I1 hqx
      obtain ⟨its2, rv2, p2, _⟩ := invB I1 hqy
      have la := coB_lt p1
      have lb := coB_lt p2
      refine zip_begins2 (beginsB l a its.toArray) (beginsB m b its2.toArray) p1 p2 fun h' hz hTI hTO h1 h2 hsz hk => ?_
      have D : ZipOwn (s1.heap.objs.size + 4) (s1.heap.objs.size + 2) (s1.heap.objs.size + 3) s1.heap.objs.size (s1.heap.objs.size + 1) := ⟨five_nodup _⟩
      have big : ∀ (x y : Value), ∀ p ∈ zipCs l m a b (s1.heap.objs.size + 4) (s1.heap.objs.size + 2) (s1.heap.objs.size + 3) s1.heap.objs.size (s1.heap.objs.size + 1) x y, s1.heap.objs.size ≤ p.1 := fun x y p hp => by
        simp only [zipCs, List.mem_cons, List.not_mem_nil, or_false] at hp
        rcases hp with rfl | rfl | rfl | rfl | rfl
        · exact Nat.le_add_right _ _
        · exact Nat.le_add_right _ _
        · exact Nat.le_add_right _ _
        · exact Nat.le_refl _
        · exact Nat.le_add_right _ _
      refine ⟨.ref (s1.heap.objs.size + 4), extH H1 (zipCs l m a b (s1.heap.objs.size + 4) (s1.heap.objs.size + 2) (s1.heap.objs.size + 3) s1.heap.objs.size (s1.heap.objs.size + 1) .none .none), inv_ext (t' := s1.toks) I1 hk (big _ _) (fun p hp => ?_), rfl, q _ _ _ _ _ _ _ D (Nat.ne_of_lt (Nat.lt_of_lt_of_le la (Nat.le_add_right _ _))) (Nat.ne_of_lt (Nat.lt_of_lt_of_le lb (Nat.le_add_right _ _))) fun p hp => ⟨Nat.le_trans I1.sz (big _ _ p hp), I1.hok.fresh (big _ _ p hp)⟩⟩
      simp only [zipCs, List.mem_cons, List.not_mem_nil, or_false] at hp
      rcases hp with rfl | rfl | rfl | rfl | rfl
      · exact ⟨hz, ⟨_, hz⟩, fun h1 h2 x k => k _ x⟩
      · exact ⟨hTI, ⟨_, hTI⟩, fun h1 h2 x k => k _ x⟩
      · exact ⟨hTO, ⟨_, hTO⟩, fun h1 h2 x k => k _ x⟩
      · exact ⟨itB_new h1, ⟨_, h1⟩, fun h1 h2 x k => x.at k⟩
      · exact ⟨itB_new h2, ⟨_, h2⟩, fun h1 h2 x k => x.at k⟩
theorem drop_ext {H : Hp} : ∀ {cs : List (Addr × (Heap → Prop))}, (∀ p ∈ cs, H p.1 = none) → dropL (extH H cs) (cs.map (·.1)) = H := fun {cs} hn => by
  funext b
  by_cases hb : b ∈ cs.map (·.1)
  · rw [dropL_in hb]
    obtain ⟨p, hp, rfl⟩ := List.mem_map.mp hb
    exact (hn p hp).symm
  · rw [dropL_out hb, extH_out fun p hp z => hb (by rw [← z]; exact List.mem_map_of_mem hp)]
/-- the walk of a zip that a local holds, unused so far -/
def tItZ (K : PySem.W.Frag) (n0 i : Nat) : TI := fun σ H R => ∃ l m a b z TI TO i1 i2 x y H0 xs ys, σ[i]? = some (some (.ref z)) ∧ H = extH H0 (zipCs l m a b z TI TO i1 i2 x y) ∧ ZipOwn z TI TO i1 i2 ∧ a ≠ TO ∧ b ≠ TO ∧ (∀ p ∈ zipCs l m a b z TI TO i1 i2 x y, n0 ≤ p.1 ∧ H0 p.1 = none) ∧
  SqB l K H0 a xs ∧ SqB m K H0 b ys ∧ R (ItP (srcZ l m K a b)) H0
theorem pi_itZ {X : Cx} {x : Str} {p tpos : Pos} {elts : List Expr} {kk i : Nat} (hv : PE X (.Name x p) (tVar i)) : PI X (.Tuple elts kk tpos) (.Name x p) (tItZ X.K X.s_0.heap.objs.size i) := by
  refine ⟨fun pins s σ H R I h => ?_⟩
  obtain ⟨l, m, a, b, z, TI, TO, i1, i2, x, y, H0, xs, ys, ez, eH, A, h3, h4, h5, h6, h7, q⟩ := h
  subst eH
  refine thn (hv.run pins s σ _ (fun v H1 => v = .ref z ∧ H1 = extH H0 (zipCs l m a b z TI TO i1 i2 x y)) I ⟨_, ez, rfl, rfl⟩) fun v s1 ⟨y', H1, I1, r1, e1, e2⟩ => ?_
  subst e1 e2
  cases r1
  have nd := zipCs_nodup (l := l) (m := m) (a := a) (b := b) (x := x) (y := y) A
  have hx : ∀ p ∈ zipCs l m a b z TI TO i1 i2 x y, extH H0 (zipCs l m a b z TI TO i1 i2 x y) p.1 = some (.ext p.2) := fun p hp => extH_in nd p hp
  have at_ : ∀ p ∈ zipCs l m a b z TI TO i1 i2 x y, p.2 s1.heap := fun p hp => (I1.hok p.1 _ (hx p hp)).1
  have a1 := at_ (z, fun h => IsZip h z TI TO .none) (by simp [zipCs])
  have a2 := at_ (TI, fun h => IsTupOf2 h TI (.ref i1) (.ref i2)) (by simp [zipCs])
  have a3 := at_ (TO, fun h => IsTupOf2 h TO x y) (by simp [zipCs])
  have a4 := at_ (i1, fun h => ItB l h i1 a 0) (by simp [zipCs])
  have a5 := at_ (i2, fun h => ItB m h i2 b 0) (by simp [zipCs])
  refine wpAny_pyIter_zip a1 ?_
  have I2 := inv_dropL I1 nd fun c hc => by
    obtain ⟨p, hp, rfl⟩ := List.mem_map.mp hc
    exact ⟨p.2, hx p hp⟩
  have fp : ∀ c ∈ (zipCs l m a b z TI TO i1 i2 x y).map (·.1), FpOk X pins (dropL (extH H0 (zipCs l m a b z TI TO i1 i2 x y)) ((zipCs l m a b z TI TO i1 i2 x y).map (·.1))) c := fun c hc => by
    obtain ⟨p, hp, rfl⟩ := List.mem_map.mp hc
    exact inv_fpL I1 (hx p hp) hc (h5 p hp).1
  rw [drop_ext fun p hp => (h5 p hp).2] at I2 fp
  exact ⟨z, (zipCs l m a b z TI TO i1 i2 x y).map (·.1), _, _, _, rfl, I2, turn_zipP A h3 h4, ⟨a1, a2, ⟨_, _, a3⟩, a4, a5⟩, fp, q⟩
theorem tsx {X : Cx} {m : Nat} {ifs : List Expr} {tt : DTT} (h : DTs X m ifs tt) : PTs X ifs (tEx (tabsOf X.K) m tt) := ⟨fun pins s' σ H' Q I ⟨G, hG, q⟩ => (h G noW (tkN hG)).run pins s' σ H' Q I q⟩
@[simp] def zip2 : List D → Option (List D)
  | [x, y] => (itemsOf x).bind fun xs => (itemsOf y).map fun ys => zipD xs ys
  | _ => none
theorem zip2_some {l ds : List D} (h : zip2 l = some ds) : ∃ x y xs ys, l = [x, y] ∧ itemsOf x = some xs ∧ itemsOf y = some ys ∧ ds = zipD xs ys := by
  unfold zip2 at h
  split at h
  · rename_i x y
    obtain ⟨xs, e1, h⟩ := Option.bind_eq_some_iff.mp h
    rw [Option.map_eq_some_iff] at h
    obtain ⟨ys, e2, rfl⟩ := h
    exact ⟨x, y, xs, ys, rfl, e1, e2, rfl⟩
  · cases h
/-- x = zip(e, e2); return tuple([elt for .. in x]) -/
def eZipT (i : Nat) (as : EA) (g : EG) (te : EE) (vs : List Nat) : ES := fun ρ => (as ρ).bind fun p => opt (zip2 p.1) fun ds => req (i < p.2.length) ((eCompGo g eYes te vs ds [] (wipeR (p.2.set i .no) vs)).bind fun q => opt (fTuple [q.1.d]) fun r => .ret (.rt r))
theorem dss_zip {X : Cx} {n k i : Nat} {x : Str} {as : EA} {g : EG} {te : EE} {vs : List Nat} {e e2 elt tg iter : Expr} {ifs : List Expr} {scope : Scope} {pz pos pos' spos pt cpos lpos rpos : Pos} (hN : X.N.Nodup) (hi : X.N[i]? = some x) (hx : Loc X.env.scope x)
    (hg : Gl X "zip") (hm : X.mg "zip" = none) (hgt : Gl X "tuple") (hmt : X.mg "tuple" = none) (ha : DA X n [e, e2] (tA as))
    (hlc : PE X (.ListComp elt [⟨tg, iter, ifs, 0⟩] scope lpos) (tLc (tItZ X.K X.s_0.heap.objs.size i) (gEx (tG g) vs) (tEx (tabsOf X.K) 0 (tT eYes)) (eEx (tabsOf X.K) k (tE te)) vs))
    (hs : starEach [e, e2] X.env = (false, eval e X.env) :: starEach [e2] X.env := by rfl) (hpl : (backTo pos (starEach [e2] X.env)).any (·.1) = false := by rfl)
    (hsw : swapsWith (.Call (.Name "zip" pz) [e, e2] [] pos) (some (.Name x pos')) spos.line X.env = pure false := by rfl)
    (hf : X.fn x = true ∨ X.env.scope.names.lookup x = some .local := by first | exact .inl rfl | exact .inr rfl | assumption) :
    DSs X (n + sizeLine * (0 + k)) [.Assign [.Name x pos'] (.Call (.Name "zip" pz) [e, e2] [] pos) spos, .Return (some (.Call (.Name "tuple" pt) [.ListComp elt [⟨tg, iter, ifs, 0⟩] scope lpos] [] cpos)) rpos] (tS (eZipT i as g te vs)) := fun G W tk => by
  obtain ⟨r, hr1, hr2⟩ := (cd_tuple (X := X)).ex
  refine PSs.weak (pss_cons (ps_set hN hi hx (pe_zipV hg hm (ha G W tk) hs hpl) hsw hf) (pss_one (ps_ret (pe_callTy hr1 hgt hmt boot_tuple (pa_cons hlc pa_nil) (by decide) (by decide) rfl rfl)))) fun D σ H ⟨Z, ρ, c, Dd, F, hc, t, kk⟩ => ?_
  refine ⟨Z, ρ, c, fun ds ρ1 => (opt (zip2 ds) fun es => req (i < ρ1.length) ((eCompGo g eYes te vs es [] (wipeR (ρ1.set i .no) vs)).bind fun q => opt (fTuple [q.1.d]) fun r => .ret (Out.rt r))).sat (Out.sat Dd) W, F, by omega, (sat_bind (m := as ρ)).mp t, fun ds ρ1 Z1 H1 vs1 c1 z1 l1 q F1 rs => ?_⟩
  obtain ⟨es, e0, q⟩ := opt_sat q
  obtain ⟨dx, dy, xs, ys, rfl, hx1, hy1, rfl⟩ := zip2_some e0
  obtain ⟨v, w, rfl, r1, r2⟩ := rs.two
  obtain ⟨l, a, us, rfl, hl, ru, sq⟩ := items_sq r1 hx1
  obtain ⟨l', b, us', rfl, hl', ru', sq'⟩ := items_sq r2 hy1
  refine ⟨l, l', a, b, us, us', rfl, sq _ _ F1.zh, sq' _ _ F1.zh, fun z TI TO i1 i2 x y A h1 h2 hb => ?_⟩
  have F2 : Fr G Z1 H1 (ρ1.set i .no) (σ.set i (some (.ref z))) c1 := F1.store (s := .no) trivial fun w => by cases w
  obtain ⟨len, q⟩ := req_sat q
  rw [F1.len] at len
  refine ⟨l, l', a, b, z, TI, TO, i1, i2, x, y, H1, us, us', by rw [List.getElem?_set_self len], rfl, A, h1, h2, hb, sq _ _ F1.zh, sq' _ _ F1.zh, ?_⟩
  refine comp_go (m := 0) (k := k) (Q := fun v H1 => tNil (σ.set i (some (.ref z))) H1 fun xs H2 => r (v :: xs) H2 D.rt) tk.2 F2 (it_zip hl ru ru' (sq X.K) (sq' X.K)) (by omega) (comp_sat (Q := fun r ρ' => (opt (fTuple [r.d]) fun r => .ret (Out.rt r)).sat (Out.sat Dd) W) (sat_bind.mp q)) (fun rr ρ2 Z2 H2 v c2 z2 l2 q2 F3 o3 => ?_) H1
  obtain ⟨Z3, z3, F4, rp⟩ := F3.share o3
  obtain ⟨res, e5, q2⟩ := opt_sat q2
  exact hr2 G.S [v] H2 Z3 _ res D.rt F4.zh (Reps.cons rp Reps.nil) e5 fun Z5 H5 w y1 y2 y3 y4 ro => by
    obtain ⟨F5, o5⟩ := F4.pur y1 y2 y3 y4 ro
    exact kk.rt _ _ _ Z5 H5 w c2 (z1.trans (z2.trans (z3.trans y1))) (by omega) q2 F5 o5
end DL
set_option Elab.async false
set_option linter.all false
set_option maxRecDepth 100000
set_option maxHeartbeats 4000000
namespace DL
open PySem L2 PyProof.Rows
/-! ### an instance that holds a memo -/
mutual
def D.fre : D → Bool
  | .stm => false
  | .mem _ => false
  | .tup ds => D.fres ds
  | .lst ds => D.fres ds
  | .dct _ _ ds => D.fres ds
  | .ins _ _ ds => D.fres ds
  | _ => true
def D.fres : List D → Bool
  | [] => true
  | d :: ds => D.fre d && D.fres ds
end
mutual
theorem Rep.fre {S S' : Option Stm} {Z : Hp} : ∀ {d : D} {v : V}, D.fre d = true → Rep S Z d v → Rep S' Z d v
  | .non, _, _, r => by rw [Rep] at r ⊢; exact r
  | .bl _, _, _, r => by rw [Rep] at r ⊢; exact r
  | .int _, _, _, r => by rw [Rep] at r ⊢; exact r
  | .str _, _, _, r => by rw [Rep] at r ⊢; exact r
  | .ty _, _, _, r => by rw [Rep] at r ⊢; exact r
  | .fn _ _, _, _, r => by rw [Rep] at r ⊢; exact r
  | .stm, _, h, _ => by simp [D.fre] at h
  | .mem _, _, h, _ => by simp [D.fre] at h
  | .tup ds, _, h, r => by
    rw [D.fre] at h
    rw [Rep] at r ⊢
    obtain ⟨a, vs, e1, e2, e3, q⟩ := r
    exact ⟨a, vs, e1, e2, e3, Reps.fre h q⟩
  | .lst ds, _, h, r => by
    rw [D.fre] at h
    rw [Rep] at r ⊢
    obtain ⟨a, vs, e1, e2, e3, q⟩ := r
    exact ⟨a, vs, e1, e2, e3, Reps.fre h q⟩
  | .dct t ks ds, _, h, r => by
    rw [D.fre] at h
    rw [Rep] at r ⊢
    obtain ⟨a, e1, e2, e3, q⟩ := r
    refine ⟨a, e1, e2, e3, ?_⟩
    rcases q with ⟨kvs, q1, q2, q3, q4, q5⟩ | ⟨kvs, q1, q2, q3, q4, q5⟩
    · exact .inl ⟨kvs, q1, q2, q3, q4, Reps.fre h q5⟩
    · exact .inr ⟨kvs, q1, q2, q3, q4, Reps.fre h q5⟩
  | .ins C ns ds, _, h, r => by
    rw [D.fre] at h
    rw [Rep] at r ⊢
    obtain ⟨a, dx, fs, e1, e2, e3, e4, q⟩ := r
    exact ⟨a, dx, fs, e1, e2, e3, e4, Reps.fre h q⟩
theorem Reps.fre {S S' : Option Stm} {Z : Hp} : ∀ {ds : List D} {vs : List V}, D.fres ds = true → Reps S Z ds vs → Reps S' Z ds vs
  | [], [], _, _ => Reps.nil
  | [], _ :: _, _, r => by simp [Reps] at r
  | _ :: _, [], _, r => by simp [Reps] at r
  | d :: ds, v :: vs, h, r => by
    rw [D.fres, Bool.and_eq_true] at h
    rw [Reps] at r ⊢
    exact ⟨Rep.fre h.1 r.1, Reps.fre h.2 r.2⟩
end
theorem Img.fre {S S' : Option Stm} {Z : Hp} {d : D} {o : HO} (h : D.fre d = true) (m : Img S Z d o) : Img S' Z d o := by
  cases d with
  | lst ds =>
    rw [D.fre] at h
    obtain ⟨vs, e, l, r⟩ := m
    exact ⟨vs, e, l, r.fre h⟩
  | dct t ks ds =>
    rw [D.fre] at h
    obtain ⟨l1, l2, m⟩ := m
    rcases m with ⟨kvs, e0, e1, e2, e3, r⟩ | ⟨kvs, e0, e1, e2, e3, r⟩
    · exact ⟨l1, l2, .inl ⟨kvs, e0, e1, e2, e3, r.fre h⟩⟩
    · exact ⟨l1, l2, .inr ⟨kvs, e0, e1, e2, e3, r.fre h⟩⟩
  | _ => exact m.elim
/-! frames that tell of no local -/
def noR (σ : L2.St) : Rho := List.replicate σ.length .no
theorem noR_get {σ : L2.St} {i : Nat} {s : Slot} (h : (noR σ)[i]? = some s) : s = .no := List.eq_of_mem_replicate (List.mem_of_getElem? h)
section
variable {G : Gh} {Z Z' H H' : Hp} {ρ : Rho} {σ : L2.St} {c c' : Nat}
theorem Fr.bare (F : Fr G Z H ρ σ c) : Fr G Z H (noR σ) σ c where
  zh := F.zh
  gs := F.gs
  st := F.st
  len := by simp [noR]
  sl := fun i s e => by rw [noR_get e]; trivial
  ap := fun i j s t _ e _ w _ => by rw [noR_get e] at w; cases w
  sm := F.sm
  fr := F.fr
  z0 := F.z0
  tb := F.tb
theorem Fr.bare' (F : Fr G Z H ρ σ c) (σ' : L2.St) : Fr G Z H (noR σ') σ' c where
  zh := F.zh
  gs := F.gs
  st := F.st
  len := by simp [noR]
  sl := fun i s e => by rw [noR_get e]; trivial
  ap := fun i j s t _ e _ w _ => by rw [noR_get e] at w; cases w
  sm := F.sm
  fr := F.fr
  z0 := F.z0
  tb := F.tb
theorem Fr.poke {y C dx : Addr} {fs fs' : List (Str × V)} (F : Fr G Z H ρ σ c) (h : H y = some (.ins C dx fs)) (hz : Z y = none) (h0 : G.H0 y = none) : Fr G Z (upd H y (.ins C dx fs')) (noR σ) σ c where
  zh := fun b o q => by rw [upd_ne fun z => by rw [z, hz] at q; cases q]; exact F.zh b o q
  gs := F.gs
  st := F.st.keep (fun s e => by
    have n := F.notSt h0 s e
    exact ⟨upd_ne (Ne.symm n.1), upd_ne (Ne.symm n.2)⟩) F.st.noZ (.upd h fun vs z => by cases z)
  len := by simp [noR]
  sl := fun i s e => by rw [noR_get e]; trivial
  ap := fun i j s t _ e _ w _ => by rw [noR_get e] at w; cases w
  sm := fun b o q n => by
    rw [upd_ne fun z => by rw [z, h0] at q; cases q]
    exact F.sm b o q n
  fr := F.fr
  z0 := F.z0
  tb := tabs_upd F.tb h (fun ps z => by cases z) (fun _ _ => code_ins)
/-- an instance of one's own is frozen -/
theorem Fr.frzI {y C dy : Addr} {fs : List (Str × V)} (F : Fr G Z H ρ σ c) (g1 : H y = some (.ins C dy fs)) (g2 : H dy = some (.own y)) (g3 : Z y = none) (g4 : Z dy = none) (y0 : G.H0 y = none) (dy0 : G.H0 dy = none) :
    Sub Z (upd (upd Z dy (.own y)) y (.ins C dy fs)) ∧ Fr G (upd (upd Z dy (.own y)) y (.ins C dy fs)) H (noR σ) σ c := by
  have nyd : dy ≠ y := fun z => by rw [z, g1] at g2; cases g2
  have hz1 : Sub Z (upd Z dy (.own y)) := sub_upd g4
  have hz2 : Sub (upd Z dy (.own y)) (upd (upd Z dy (.own y)) y (.ins C dy fs)) := sub_upd (by rw [upd_ne (Ne.symm nyd)]; exact g3)
  refine ⟨hz1.trans hz2, F.bare.step (hz1.trans hz2) (fun b o e => ?_) (F.st.keep (fun s e => ⟨rfl, rfl⟩) (fun s e => ?_) (.refl _)) (.ofv fun _ _ e => e) F.tb (fun b o e => ?_) (fun b e1 e2 e3 e4 => ?_)⟩
  · by_cases hb : b = y
    · subst hb; rw [upd_same] at e; cases e; exact g1
    · rw [upd_ne hb] at e
      by_cases hb2 : b = dy
      · subst hb2; rw [upd_same] at e; cases e; exact g2
      · rw [upd_ne hb2] at e; exact F.zh b o e
  · have n1 := F.notSt y0 s e
    have n2 := F.notSt dy0 s e
    rw [upd_ne (Ne.symm n1.1), upd_ne (Ne.symm n1.2), upd_ne (Ne.symm n2.1), upd_ne (Ne.symm n2.2)]
    exact F.st.noZ s e
  · by_cases hb : b = y
    · subst hb; rw [upd_same] at e; cases e; exact .inr ⟨.inl y0, fun ps z => by cases z⟩
    · rw [upd_ne hb] at e
      by_cases hb2 : b = dy
      · subst hb2; rw [upd_same] at e; cases e; exact .inr ⟨.inl dy0, fun ps z => by cases z⟩
      · rw [upd_ne hb2] at e; exact .inl e
  · obtain ⟨i, s, e5, e6, _⟩ := e4
    rw [noR_get e5] at e6; cases e6
end
/-! ### {} as a memo -/
def tDNewM : TE := fun _ H Q => ∀ p, H p = none → Q (.ref p) (upd H p (MeO p []))
theorem pe_dnewM {X : Cx} {pos : Pos} : PE X (.Dict [] [] pos) tDNewM := ⟨fun pins s σ H Q I h =>
  wpAny_Dict_empty ⟨.ref s.heap.objs.size, _, I.laid (a := s.heap.objs.size) (o := MeO s.heap.objs.size []) (t' := s.toks) (fun _ _ q => Heap.get?_push_of_some _ q) (Nat.le_refl _)
    (me_ok ⟨Nat.zero_le _, beq_eq_false_iff_ne.mpr (Ne.symm (Nat.ne_of_lt I.big)), _, #[], 0, Heap.get?_push_size _ rfl, ⟨rfl, rfl, rfl⟩, rfl, rfl, List.nodup_nil⟩), rfl, h _ (I.hok.fresh (Nat.le_refl _))⟩⟩
/-- self.f = {} at an __init__'s end -/
def sMe (K : PySem.W.Frag) (f : Str) : TS := sFld K (tVar 0) tDNewM f
def DSc (X : Cx) (n : Nat) (sts : List Stmt) (t : DTS) (K : TS) : Prop := ∀ G W, Tk X G W → PSs X sts (fun D σ H => LS G n t W { D with nx := K D } σ H)
section
variable {X : Cx} {n m : Nat} {st : Stmt} {sts : List Stmt} {t u : DTS} {K : TS}
theorem DSc.imp {ta tb : DTS} (h : DSc X n sts ta K) (k : ∀ D W ρ, tb D W ρ → ta D W ρ) : DSc X n sts tb K := fun G W tk => PSs.weak (h G W tk) fun D σ H ⟨Z, ρ, c, Dd, F, hc, t, q⟩ => ⟨Z, ρ, c, Dd, F, hc, k _ _ _ t, q⟩
theorem dsc_one (hK : PS X st K) : DSc X 0 [st] (tS eSkip) K := fun G W tk => PSs.weak (pss_one hK) fun D σ H ⟨Z, ρ, c, Dd, F, hc, t, k⟩ => k.nx ρ σ Z H c (fun _ _ e => e) (Nat.le_add_right _ _) t F
theorem dsc_cons (h1 : DS X n st t) (h2 : DSc X m sts u K) : DSc X (n + m) (st :: sts) (dSeq t u) K := fun G W tk => PSs.weak (pss_cons (h1 G W tk) (h2 G W tk)) fun D σ H ⟨Z, ρ, c, Dd, F, hc, t, k⟩ => by
  refine ⟨Z, ρ, c, _, F, by omega, t, ⟨fun ρ1 σ1 Z1 H1 c1 z1 l1 q F1 => ⟨Z1, ρ1, c1, Dd, F1, by omega, q, k.mono z1 (by omega)⟩, ?_, ?_, ?_⟩⟩
  · exact fun ρ1 σ1 Z1 H1 c1 z1 l1 q F1 => k.bk ρ1 σ1 Z1 H1 c1 z1 (by omega) q F1
  · exact fun ρ1 σ1 Z1 H1 c1 z1 l1 q F1 => k.ct ρ1 σ1 Z1 H1 c1 z1 (by omega) q F1
  · exact fun r ρ1 σ1 Z1 H1 v c1 z1 l1 q F1 o => k.rt r ρ1 σ1 Z1 H1 v c1 z1 (by omega) q F1 o
theorem DSc.le (h : DSc X n sts t K) (hn : n ≤ m) : DSc X m sts t K := fun G W tk => PSs.weak (h G W tk) fun D σ H ⟨Z, ρ, c, Dd, F, hc, t, k⟩ =>
  ⟨Z, ρ, c, Dd, F, by omega, t, k.mono (fun _ _ e => e) (by omega)⟩
end
def spIM (K : PySem.W.Frag) (C : Addr) (f : Str) (n : Nat) (F : DSpI) : Sp := fun vs H Q E => ∃ H1 x dx S Z c ds us Qd Wd, (∀ b ps, Z b ≠ some (.tbl ps)) ∧ vs = .ref x :: us ∧ H1 x = none ∧ H1 dx = none ∧ dx ≠ x ∧ H = upd (upd H1 dx (.own x)) x (.ins C dx []) ∧ Sub Z H1 ∧ StOk S Z H1 c ∧ c + n ≤ LIM ∧ Reps S Z ds us ∧ F ds Qd Wd ∧ LamX.Tabs (tabsOf K) H1 ∧
  (∀ ns es Z' H' fs dy c' kd, Sub Z Z' → Sub Z' H' → c' ≤ c + n → SameM S (vis H1) H' → (∀ b o, Z' b = some o → Z b = some o ∨ (NewIn (vis H1) b o)) → StOk S Z' H' c' → LamX.Tabs (tabsOf K) H' → H' x = some (.ins C dy (fs ++ [(f, .ref kd)])) → H' dy = some (.own x) → H' kd = some (MeO kd []) → Z' x = none → Z' dy = none → Z' kd = none → vis H1 dy = none → vis H1 kd = none → ns = fs.map (·.1) → Reps S Z' es (fs.map (·.2)) → Qd ns es → Q .non H') ∧
  (∀ y cls d Z' H' c', Sub Z Z' → Sub Z' H' → c' ≤ c + n → SameM S (vis H1) H' → (∀ b o, Z' b = some o → Z b = some o ∨ (NewIn (vis H1) b o)) → StOk S Z' H' c' → LamX.Tabs (tabsOf K) H' → XOk S Z' H' cls d y → Wd y → E cls d H')
theorem putF_new {f : Str} {v : V} : ∀ {fs : List (Str × V)}, f ∉ fs.map (·.1) → putF f v fs = fs ++ [(f, v)]
  | [], _ => by simp [putF]
  | (n, u) :: fs, h => by
    rw [List.map_cons, List.mem_cons, not_or] at h
    simp only [putF, List.cons_append]
    rw [if_neg (Ne.symm h.1), putF_new h.2]
/-- an __init__ that ends with self.f = {} -/
theorem okIM {P : Program} {w : World} {K : PySem.W.Frag} {mg : Str → Option Value} {base : Heap} {x qual : Str} {params : Arguments} {body : List Stmt} {scope : Scope} {dvs : List V} {kws : List (Str × V)} {f C : Addr} {fd : FuncData} {N ps : List Str} {k n : Nat} {F : DSpI} {fnm : Str}
    (Fn : FunD K x qual params body scope dvs kws f fd) (Sc : FnScope N ps scope) (hC : Cls K C) (hNo : NoAttr K C fnm) (len : ∀ ds Q W, F ds Q W → ds.length + 1 = ps.length)
    (h : ∃ t : DTS, (∀ (cdv : Value) (A : Around) (outer : List Env) (s : Shared) (H : Hp) (E : XK), Room k (A.deeper (envOfC qual scope s.heap.objs.size f cdv)) → DSc (cxOf (L2.CX P w) P w K mg base N qual scope f cdv A outer s H E) n body t (sMe K fnm)) ∧
      ∀ y ds Q W, F ds Q W → t { nx := fun ρ => ∃ ns es, ρ[0]? = some (.ob y C ns es) ∧ fnm ∉ ns ∧ ns.length < 1000 ∧ Q ns es, rt := fun _ => False } (fun x _ => W x) (startI C y N ds)) : FnOk P w K mg base (L2.CX P w) (k + 1) f fd ps (spIM K C fnm n F) := by
  obtain ⟨t, hd, ht⟩ := h
  refine Fn.ok Sc (fun vs H Q E ⟨H1, x, dx, S, Z, c, ds, us, Qd, Wd, hzt, e, _, _, _, _, _, _, _, h4, h5, _⟩ => by rw [e, List.length_cons, ← h4.length]; exact len _ _ _ h5) fun cdv A outer s H vs Q E hr ⟨H1, x, dx, S, Z, c, ds, us, Qd, Wd, hzt, e, hx, hdx, ne, eH, h1, h2, h3, h4, h5, ht0, h6, h7⟩ => ?_
  subst e
  have tk0 : Takes (cxOf (L2.CX P w) P w K mg base N qual scope f cdv A outer s H E) (fun cls d _ H' => E cls d H') := takes_of rfl rfl rfl rfl
  have tk : Takes (cxOf (L2.CX P w) P w K mg base N qual scope f cdv A outer s H E) (LW ⟨S, vis H1, Z, c + n, h3, vis_nt, tabsOf K, hzt⟩ fun x _ => Wd x) := tk0.imp fun cls d σ H' ⟨Z', ρ, c', y, F', l, xo, wd⟩ =>
    h7 y cls d Z' H' c' F'.z0 F'.zh l F'.sm F'.fr F'.st F'.tb xo wd
  refine ⟨_, hd cdv A outer s H E hr ⟨S, vis H1, Z, c + n, h3, vis_nt, tabsOf K, hzt⟩ _ ⟨tk, rfl⟩, Z, startI C x N ds, c, _, by rw [eH]; exact start_frI hzt hx hdx ne h1 h2 h4 ht0, Nat.le_refl _, ht x ds Qd Wd h5, ?_, fun _ _ _ _ _ _ _ z => z.elim, fun _ _ _ _ _ _ _ z => z.elim, fun _ _ _ _ _ _ _ _ _ z => z.elim⟩
  intro ρ σ Z' H' c' z l q F'
  obtain ⟨ns, es, e0, hnew, hln, q⟩ := q
  obtain ⟨a, ea, dx', fs, g1, g2, g3, g4, g5, g6, ⟨hax, gns⟩, g8⟩ := F'.sl 0 _ e0
  have hax' := hax.symm
  subst hax'
  subst gns
  refine fun kd hkd => ⟨_, ea, x, C, dx', fs, rfl, by rw [upd_ne fun z => by rw [z, hkd] at g1; cases g1]; exact g1, hC, hNo, by simpa using hln, ?_⟩
  have nka : kd ≠ x := fun z => by rw [z, g1] at hkd; cases hkd
  have nkd : kd ≠ dx' := fun z => by rw [z, g2] at hkd; cases hkd
  have nda : dx' ≠ x := fun z => by rw [z, g1] at g2; cases g2
  have F1 := F'.alloc (MeO kd []) hkd
  have F2 := F1.poke (fs' := putF fnm (.ref kd) fs) (by rw [upd_ne (Ne.symm nka)]; exact g1) g3 g5
  refine h6 _ es Z' _ fs dx' c' kd z F2.zh l F2.sm F2.fr F2.st F2.tb (by rw [upd_same, putF_new hnew]) (by rw [upd_ne nda, upd_ne (Ne.symm nkd)]; exact g2) (by rw [upd_ne nka, upd_same]) g3 g4 (F'.freeZ hkd) g6 (F'.free0 hkd) rfl g8 q
theorem okFIM {P : Program} {w : World} {K : PySem.W.Frag} {mg : Str → Option Value} {base : Heap} {x qual : Str} {params : Arguments} {body : List Stmt} {scope : Scope} {dvs : List V} {kws : List (Str × V)} {f C : Addr} {fd : FuncData} {N ps : List Str} {k n np nn : Nat} {b : ES} {g : FI} {fnm : Str}
    (Fn : FunD K x qual params body scope dvs kws f fd) (Sc : FnScope N ps scope) (hC : Cls K C) (hNo : NoAttr K C fnm) (hp : ps.length = np) (hN : N.length = nn) (hg : ∀ y ds Q (W : XD → Prop), (g ds).sat Q (fun x _ => W x) → (initF C y np nn b ds).sat Q (fun x _ => W x))
    (h : ∀ (cdv : Value) (A : Around) (outer : List Env) (s : Shared) (H : Hp) (E : XK), Room k (A.deeper (envOfC qual scope s.heap.objs.size f cdv)) → DSc (cxOf (L2.CX P w) P w K mg base N qual scope f cdv A outer s H E) n body (tS b) (sMe K fnm)) : FnOk P w K mg base (L2.CX P w) (k + 1) f fd ps (spIM K C fnm n (tFI fun ds => (g ds).bind fun p => req (fnm ∉ p.1 ∧ p.1.length < 1000) (.ret p))) :=
  okIM Fn Sc hC hNo (fun ds Q W t => by rw [hp]; exact (req_sat (hg 0 ds _ _ (sat_bind.mp t))).1) ⟨tS b, h, fun y ds Q W t => by
    obtain ⟨hl, t⟩ := req_sat (hg y ds _ _ (sat_bind.mp t))
    have e : startI C y N ds = startFI C y np nn ds := by unfold startI startFI; rw [hN, hl]
    rw [e]
    refine (sat_bind.mp t).imp fun o t => ?_
    obtain ⟨p, e, t2⟩ := opt_sat t
    obtain ⟨r, e3⟩ := obj_some e
    subst e3
    obtain ⟨⟨n1, n2⟩, t2⟩ := req_sat (show (req _ _).sat _ _ from t2)
    exact ⟨p.1, p.2, rfl, n1, n2, t2⟩⟩
/-! ### y = C(e, ..); what comes behind, by the memo -/
theorem pssx {X : Cx} {n : Nat} {sts : List Stmt} {t : DTS} (h : DSs X n sts t) : PSs X sts (fun D σ H => ∃ G : Gh, G.T = tabsOf X.K ∧ LS G n t noW D σ H) := ⟨fun pins s σ H D I ⟨G, hG, q⟩ => (h G noW (tkN hG)).run pins s σ H D I q⟩
def Slot.fre : Slot → Bool
  | .no => true
  | .sh d => d.fre
  | _ => false
def Vd.fre : Vd → Bool
  | .sh d => d.fre
  | .nw d => d.fre
@[simp] def outRt : Out → Option Vd
  | .rt v => some v
  | _ => none
theorem outRt_some {o : Out} {v : Vd} (h : outRt o = some v) : o = .rt v := by
  cases o <;> simp [outRt] at h
  rw [h]
def eHuntK (i : Nat) (C : Addr) (fnm : Str) (md : List D → D) (b : ES) (q : (List Str × List D) × Rho) : Cm Out := req (q.2.all Slot.fre = true ∧ D.fres q.1.2 = true ∧ (ovK (md q.1.2)).isEmpty = true)
  ((b (q.2.set i (.sh (.ins C (q.1.1 ++ [fnm]) (q.1.2 ++ [.mem (md q.1.2)]))))).noex.bind fun o => opt (outRt o) fun v => req (v.fre = true) (.ret (Out.rt v)))
def eHunt (i : Nat) (C : Addr) (fnm : Str) (f : FI) (md : List D → D) (as : EA) (b : ES) : ES := fun ρ => (as ρ).bind fun p => ((f p.1).at p.2).bind (eHuntK i C fnm md b)
section
variable {X : Cx} {n m k nr i : Nat} {e : Expr} {es : List Expr} {rest : List Stmt} {ra : EA} {pos p py spos : Pos} {g : FI} {f C : Addr} {fd : FuncData} {ps : List Str} {x y fnm : Str} {dvs : List V} {ds : List Value} {dd : List D} {b : ES} {md : List D → D}
theorem dss_hunt (hN : X.N.Nodup) (hi : X.N[i]? = some y) (hx : Loc X.env.scope y) (M : Mk X.K C f) (Fn : FnOk X.prog X.w X.K X.mg X.base (L2.CX X.prog X.w) k f fd ps (spIM X.K C fnm m (tFI g))) (hr : Room (k + 1) X.A) (hg : Gl X x) (hm : X.mg x = some (.ref C)) (hb : L2.Binds X.K fd ps ds) (hd : Vals dvs ds) (hdd : ∀ S Z, Reps S Z dd dvs)
    (ha : DA X n (e :: es) (tA ra)) (hrest : DSs X nr rest (tS b)) (hdb : (x == ("__debug__" : Str)) = false := by decide) (he : starEach (e :: es) X.env = (false, eval e X.env) :: starEach es X.env := by rfl) (hpl : (backTo pos (starEach es X.env)).any (·.1) = false := by rfl)
    (hsw : swapsWith (.Call (.Name x p) (e :: es) [] pos) (some (.Name y py)) spos.line X.env = pure false := by rfl)
    (hf : X.fn y = true ∨ X.env.scope.names.lookup y = some .local := by first | exact .inl rfl | exact .inr rfl | assumption) :
    DSs X (n + m + nr) (.Assign [.Name y py] (.Call (.Name x p) (e :: es) [] pos) spos :: rest) (tS (eHunt i C fnm (fun ds => g (ds ++ dd)) md ra b)) := fun G W tk => by
  refine PSs.weak (pss_cons (ps_set hN hi hx (pe_makeS M Fn hr hg hm hb hd (fun σ => passAt tk.tk σ) (ha G W tk) hdb he hpl) hsw hf) (pssx hrest)) fun D σ H ⟨Z, ρ, c, Dd, F, hc, t, kk⟩ => ?_
  refine ⟨Z, ρ, c, fun xs ρ1 => (((g (xs ++ dd)).at ρ1).bind (eHuntK i C fnm md b)).sat (Out.sat Dd) W, F, by omega, (sat_bind (m := ra ρ)).mp t, fun xs ρ1 Z1 H1 vs c1 z1 l1 q F1 rs => fun y dx hy hdx ne => ?_⟩
  rw [spIM, ← tk.ok]
  refine ⟨H1, y, dx, G.S, Z1, c1, xs ++ dd, vs ++ dvs, fun ns es => (eHuntK i C fnm md b ((ns, es), ρ1)).sat (Out.sat Dd) W, fun x => W x ρ1, F1.zn, rfl, hy, hdx, ne, rfl, F1.zh, F1.st, Nat.le_trans (by omega) G.cml, rs.append (hdd _ _), at_sat.mp (sat_bind.mp q), F1.tb, fun ns es Z' H' fs dy c' kd h1 h2 h3 h4 h5 h6 ht g1 g2 gk g3 g4 gz g5 gk0 gn gr h8 => ⟨rfl, ?_⟩, fun z cls d Z' H' c' h1 h2 h3 h4 h5 h6 ht h7 h8 => ?_⟩
  · obtain ⟨⟨hfr, hes, hov⟩, h8⟩ := req_sat (show (req _ _).sat _ _ from h8)
    have h8 := noex_sat (W' := noW) (sat_bind.mp h8)
    have y0 := F1.free0 hy
    have dy0 := F1.free0v g5
    have kd0 := F1.free0v gk0
    have F2 := F1.call h1 h2 h4 h5 h6 ht
    obtain ⟨hz, F3⟩ := F2.frzI g1 g2 g3 g4 y0 dy0
    have nyd : dy ≠ y := fun z => by rw [z, g1] at g2; cases g2
    have nky : kd ≠ y := fun z => by rw [z, g1] at gk; cases gk
    have nkd : kd ≠ dy := fun z => by rw [z, g2] at gk; cases gk
    have zk : upd (upd Z' dy (.own y)) y (.ins C dy (fs ++ [(fnm, .ref kd)])) kd = none := by rw [upd_ne nky, upd_ne nkd]; exact gz
    generalize eZ : upd (upd Z' dy (.own y)) y (.ins C dy (fs ++ [(fnm, .ref kd)])) = Z2 at hz F3 zk
    have zy : Z2 y = some (.ins C dy (fs ++ [(fnm, .ref kd)])) := by rw [← eZ, upd_same]
    have zdy : Z2 dy = some (.own y) := by rw [← eZ, upd_ne nyd, upd_same]
    have vk : vis H' kd = some (MeO kd []) := vis_of gk me_ntbl
    have F4 : Fr ⟨some ⟨kd, kd, some (md es)⟩, vis H', Z2, G.cm, G.cml, vis_nt, G.T, F3.zn⟩ Z2 H' (ρ1.set i (.sh (.ins C (ns ++ [fnm]) (es ++ [.mem (md es)])))) (σ.set i (some (.ref y))) c' := by
      refine ⟨F3.zh, fun s e => ?_, fun s e => ?_, by simp [F1.len], fun j s e => ?_, fun j l s t nj e1 e2 w1 w2 => ?_, .ofv fun _ _ e => e, fun b o e => .inl e, fun _ _ e => e, F3.tb⟩
      · cases e
        exact ⟨by show vis H' kd ≠ none; rw [vk]; simp, by show vis H' kd ≠ none; rw [vk]; simp⟩
      · cases e
        exact .inr ⟨md es, rfl, rfl, zk, [], gk, (fun x hx => by simp at hx), fun k hk => by rw [List.isEmpty_iff.mp hov] at hk; simp at hk⟩
      · rcases set_get e with ⟨rfl, rfl⟩ | ⟨nj, e⟩
        · have hl : i < σ.length := by
            have := (List.getElem?_eq_some_iff.mp e).1
            rw [List.length_set, F1.len] at this
            exact this
          refine ⟨.ref y, by rw [List.getElem?_set_self hl], ?_⟩
          rw [Rep]
          refine ⟨y, dy, _, rfl, zy, zdy, by rw [List.map_append, gn]; rfl, ?_⟩
          rw [List.map_append]
          refine Reps.append (Reps.fre hes (gr.mono hz)) (Reps.cons ?_ Reps.nil)
          · rw [Rep]
            exact ⟨_, rfl, rfl, rfl⟩
        · have fs := List.all_eq_true.mp hfr s (List.mem_of_getElem? e)
          rw [List.getElem?_set_ne nj]
          have q := F1.sl j s e
          cases s with
          | no => trivial
          | sh d =>
            obtain ⟨v, e1, r⟩ := q
            exact ⟨v, e1, Rep.fre fs (r.mono (h1.trans hz))⟩
          | ow d => cases fs
          | ob x C ns ds => cases fs
      · have on : ∀ (j : Nat) (s : Slot), (ρ1.set i (.sh (.ins C (ns ++ [fnm]) (es ++ [.mem (md es)]))))[j]? = some s → s.owns = true → False := fun j s e w => by
          rcases set_get e with ⟨rfl, rfl⟩ | ⟨nj, e⟩
          · cases w
          · have fs := List.all_eq_true.mp hfr s (List.mem_of_getElem? e)
            cases s <;> first | (cases w; done) | (cases fs; done)
        exact (on _ _ e1 w1).elim
    refine ⟨⟨some ⟨kd, kd, some (md es)⟩, vis H', Z2, G.cm, G.cml, vis_nt, G.T, F3.zn⟩, rfl, Z2, _, c', { nx := fun _ => False, rt := fun v => v.fre = true ∧ Dd.rt v, bk := fun _ => False, ct := fun _ => False }, F4, by show c' + nr ≤ G.cm; omega, h8.imp fun o q => ?_, fun _ _ _ _ _ _ _ z => z.elim, fun _ _ _ _ _ _ _ z => z.elim, fun _ _ _ _ _ _ _ z => z.elim, fun r ρ3 σ3 Z3 H3 v c3 z3 l3 q F5 o => ?_⟩
    · obtain ⟨v, e1, q⟩ := opt_sat q
      obtain ⟨q1, q2⟩ := req_sat q
      rw [outRt_some e1]
      exact ⟨q1, q2⟩
    · obtain ⟨fr, q⟩ := q
      have keep : ∀ b o, H' b = some o → (∀ ps, o ≠ .tbl ps) → b ≠ kd → H3 b = some o := fun b o e n nk => F5.sm b o (vis_of e n) fun s e => by cases e; exact ⟨nk, nk⟩
      have B := F3.bare' σ3
      have F6 : Fr G Z3 H3 (noR σ3) σ3 (c' + nr) := by
        refine ⟨F5.zh, B.gs, (B.st.count (Nat.le_add_right c' nr)).keep (fun s e => ?_) (fun s e => ?_) (fun a vs e => keep a _ e (fun ps z => by cases z) fun z => ?_), by simp [noR], (fun i s e => by rw [noR_get e]; trivial), (fun i j s t _ e _ w _ => by rw [noR_get e] at w; cases w), fun b o e n => ?_, fun b o e => ?_, B.z0.trans z3, F5.tb⟩
        · obtain ⟨⟨o1, e1, t1, n1⟩, o2, e2, t2, n2⟩ := B.st.at_ e
          have n := F2.notSt kd0 s e
          exact ⟨(keep _ _ e1 n1 (Ne.symm n.1)).trans e1.symm, (keep _ _ e2 n2 (Ne.symm n.2)).trans e2.symm⟩
        · obtain ⟨⟨o1, e1, t1, n1⟩, o2, e2, t2, n2⟩ := B.st.at_ e
          have n := F2.notSt kd0 s e
          have nz := B.st.noZ s e
          have off : ∀ b u, Z2 b = none → H' b = some u → (∀ vs, u ≠ .tup vs) → (∀ ps, u ≠ .tbl ps) → b ≠ kd → Z3 b = none := fun b u z0 hb ht hn hk => by
            cases q0 : Z3 b with
            | none => rfl
            | some w =>
              rcases F5.fr b w q0 with q1 | q1
              · exact absurd (z0.symm.trans q1) (by simp)
              · exact (NewIn.off q1 (F5.zh _ _ q0) (vis_of hb hn) (keep b u hb hn hk) ht).elim
          exact ⟨off _ _ nz.1 e1 t1 n1 (Ne.symm n.1), off _ _ nz.2 e2 t2 n2 (Ne.symm n.2)⟩
        · rw [z, gk] at e
          exact me_ntup _ (Option.some.inj e)
        · exact keep b o (B.sm b o e n) (fun ps z => G.nt b ps (by rw [e, z])) fun z => by rw [z, kd0] at e; cases e
        · rcases F5.fr b o e with q1 | q1
          · exact B.fr b o q1
          · exact .inr ⟨q1.at_.imp B.free0v id, q1.nt⟩
      refine kk.rt r (noR σ3) σ3 Z3 H3 v (c' + nr) (z1.trans (h1.trans (hz.trans z3))) (by omega) q F6 ?_
      cases r with
      | sh d => exact Rep.fre fr o
      | nw d =>
        obtain ⟨a, rfl, ⟨o1, q1, q2, q3, q4⟩, _⟩ := o
        exact ⟨a, rfl, ⟨o1, q1, q2, B.free0v q3, Img.fre fr q4⟩, fun i s e w _ => by rw [noR_get e] at w; cases w⟩
  · exact ⟨Z', ρ1, c', z, F1.call h1 h2 h4 h5 h6 ht, by omega, h7, h8⟩
end
end DL
set_option Elab.async false
set_option linter.all false
set_option maxRecDepth 100000
set_option maxHeartbeats 4000000
namespace DL
open PySem L2 PyProof.Rows
/-! ### a memo that is handed on: what is asked for stands in it for the time being -/
def ovD (d kd : D) (v : Bool) : D := match d with
  | .tup (a :: b :: e :: ov) => .tup (a :: b :: e :: .tup [kd, .bl v] :: ov)
  | d => d
theorem memE_form {d : D} {k : NestedKey} {b : Bool} (h : memE d k = some b) : ∃ n most sg ov ks m, d = .tup (.int n :: .int most :: .lst sg :: ov) ∧ k = .tup [.tup ks, .num m] := by
  unfold memE at h
  split at h
  · exact ⟨_, _, _, _, _, _, rfl, rfl⟩
  · cases h
theorem lookO_ne {kd : D} {v : Bool} {ov : List D} {k : NestedKey} (h : ¬ kiD kd = some k) : lookO (.tup [kd, .bl v] :: ov) k = lookO ov k := if_neg h
theorem lookO_eq {kd : D} {v : Bool} {ov : List D} {k : NestedKey} (h : kiD kd = some k) : lookO (.tup [kd, .bl v] :: ov) k = some v := if_pos h
theorem memE_eq (n most : Int) (sg ov : List D) (ks : List NestedKey) (m : Int) : memE (.tup (.int n :: .int most :: .lst sg :: ov)) (.tup [.tup ks, .num m]) = (rowsD sg).bind fun rows => (numsK ks).bind fun st => if smallS st = true ∧ 0 ≤ m ∧ m < 64 then some ((lookO ov (.tup [.tup ks, .num m])).getD (enB n.toNat most rows m.toNat st)) else none := rfl
theorem ov_iff {d kd : D} {v b b0 : Bool} {k k' : NestedKey} (h0 : memE d k = some b0) (hk : kiD kd = some k) (ne : k' ≠ k) : memE (ovD d kd v) k' = some b ↔ memE d k' = some b := by
  obtain ⟨n, most, sg, ov, ks0, m0, rfl, rfl⟩ := memE_form h0
  have eo : ovD (.tup (.int n :: .int most :: .lst sg :: ov)) kd v = .tup (.int n :: .int most :: .lst sg :: .tup [kd, .bl v] :: ov) := rfl
  rw [eo]
  have nk : ¬ kiD kd = some k' := fun z => ne (by rw [hk] at z; exact (Option.some.inj z).symm)
  constructor
  · intro h
    obtain ⟨_, _, _, _, ks, m, _, rfl⟩ := memE_form h
    rw [memE_eq, lookO_ne nk] at h
    rw [memE_eq]
    exact h
  · intro h
    obtain ⟨_, _, _, _, ks, m, _, rfl⟩ := memE_form h
    rw [memE_eq, lookO_ne nk]
    rw [memE_eq] at h
    exact h
theorem ov_at {d kd : D} {v b0 : Bool} {k : NestedKey} (h0 : memE d k = some b0) (hk : kiD kd = some k) : memE (ovD d kd v) k = some v := by
  obtain ⟨n, most, sg, ov, ks, m, rfl, rfl⟩ := memE_form h0
  rw [memE_eq] at h0
  obtain ⟨rows, e1, h0⟩ := Option.bind_eq_some_iff.mp h0
  obtain ⟨st, e2, h0⟩ := Option.bind_eq_some_iff.mp h0
  split at h0
  · rename_i cnd
    show memE (.tup (.int n :: .int most :: .lst sg :: .tup [kd, .bl v] :: ov)) _ = _
    rw [memE_eq, e1]
    show ((numsK ks).bind _) = _
    rw [e2]
    show (if smallS st = true ∧ 0 ≤ m ∧ m < 64 then some ((lookO (.tup [kd, .bl v] :: ov) (.tup [.tup ks, .num m])).getD _) else none) = _
    rw [if_pos cnd, lookO_eq hk]
    rfl
  · cases h0
theorem ov_keys {d kd : D} {v b0 : Bool} {k : NestedKey} (h0 : memE d k = some b0) (hk : kiD kd = some k) : ovK (ovD d kd v) = k :: ovK d := by
  obtain ⟨n, most, sg, ov, ks, m, rfl, rfl⟩ := memE_form h0
  simp [ovD, ovK, hk]
section
variable {d kd : D} {v w b b0 : Bool} {k : NestedKey} {H H' : Hp} {xs : MeL} {q : Addr}
/-- False is put in -/
theorem ov_put (h0 : memE d k = some b0) (hk : kiD kd = some k) (m : MemOk d H xs) (ht : TupsKept H H') (ka : KAt H' k (.ref q)) (hn : numK k = true) (hd : k.depth ≤ 8) : MemOk (ovD d kd v) H' (meS xs k q v) := fun x hx => by
  have at_ := ov_at (v := v) h0 hk
  unfold meS at hx
  split at hx
  · obtain ⟨y, hy, rfl⟩ := List.mem_map.mp hx
    obtain ⟨h1, h2, h3, h4⟩ := m y hy
    by_cases e : y.1 = k
    · rw [if_pos e]
      exact ⟨h1.mono ht, h2, h3, by rw [e]; exact at_⟩
    · rw [if_neg e]
      exact ⟨h1.mono ht, h2, h3, (ov_iff h0 hk e).mpr h4⟩
  · rename_i nn
    rcases List.mem_append.mp hx with hx | hx
    · obtain ⟨h1, h2, h3, h4⟩ := m x hx
      by_cases e : x.1 = k
      · exact ⟨h1.mono ht, h2, h3, by
          have na : (xs.any fun x => decide (x.1 = k)) = true := List.any_eq_true.mpr ⟨x, hx, decide_eq_true e⟩
          exact absurd na nn⟩
      · exact ⟨h1.mono ht, h2, h3, (ov_iff h0 hk e).mpr h4⟩
    · rw [List.mem_singleton.mp hx]
      exact ⟨ka, hn, hd, at_⟩
theorem ov_has (h0 : memE d k = some b0) (hk : kiD kd = some k) (hs : MemHas d xs) : MemHas (ovD d kd v) (meS xs k q w) := fun k' hk' => by
  rw [ov_keys h0 hk] at hk'
  rcases List.mem_cons.mp hk' with rfl | hk'
  · exact meS_any
  · exact meS_any2 (hs k' hk')
/-- then True -/
theorem ov_again (h0 : memE d k = some b0) (hk : kiD kd = some k) (m : MemOk (ovD d kd v) H xs) (ht : TupsKept H H') (ka : KAt H' k (.ref q)) (hn : numK k = true) (hd : k.depth ≤ 8) : MemOk (ovD d kd w) H' (meS xs k q w) := fun x hx => by
  have at_ := ov_at (v := w) h0 hk
  unfold meS at hx
  split at hx
  · obtain ⟨y, hy, rfl⟩ := List.mem_map.mp hx
    obtain ⟨h1, h2, h3, h4⟩ := m y hy
    by_cases e : y.1 = k
    · rw [if_pos e]
      exact ⟨h1.mono ht, h2, h3, by rw [e]; exact at_⟩
    · rw [if_neg e]
      exact ⟨h1.mono ht, h2, h3, (ov_iff h0 hk e).mpr ((ov_iff h0 hk e).mp h4)⟩
  · rename_i nn
    rcases List.mem_append.mp hx with hx | hx
    · obtain ⟨h1, h2, h3, h4⟩ := m x hx
      by_cases e : x.1 = k
      · exact ⟨h1.mono ht, h2, h3, by
          have na : (xs.any fun x => decide (x.1 = k)) = true := List.any_eq_true.mpr ⟨x, hx, decide_eq_true e⟩
          exact absurd na nn⟩
      · exact ⟨h1.mono ht, h2, h3, (ov_iff h0 hk e).mpr ((ov_iff h0 hk e).mp h4)⟩
    · rw [List.mem_singleton.mp hx]
      exact ⟨ka, hn, hd, at_⟩
/-- what stands there is what is to be told -/
theorem ov_done (h0 : memE d k = some b) (hk : kiD kd = some k) (m : MemOk (ovD d kd b) H xs) : MemOk d H xs := fun x hx => by
  obtain ⟨h1, h2, h3, h4⟩ := m x hx
  by_cases e : x.1 = k
  · refine ⟨h1, h2, h3, ?_⟩
    rw [e] at h4 ⊢
    rw [ov_at h0 hk] at h4
    rw [h0]
    exact h4
  · exact ⟨h1, h2, h3, (ov_iff h0 hk e).mp h4⟩
theorem ov_less (h0 : memE d k = some b0) (hk : kiD kd = some k) (hs : MemHas (ovD d kd v) xs) : MemHas d xs ∧ (xs.any fun x => decide (x.1 = k)) = true := by
  have e := ov_keys (v := v) h0 hk
  exact ⟨fun k' h => hs k' (by rw [e]; exact List.mem_cons_of_mem _ h), hs k (by rw [e]; exact List.mem_cons_self)⟩
end
/-! the ghost of a frame, changed with the memo -/
abbrev gS (G : Gh) (a : Addr) (d : D) : Gh := { G with S := some ⟨a, a, some d⟩ }
def Slot.fre2 : Slot → Bool
  | .no => true
  | .sh d => d.fre
  | .ow d => d.fre
  | .ob _ _ _ ds => D.fres ds
theorem Fr.swapM {G : Gh} {Z H : Hp} {ρ : Rho} {σ : L2.St} {c a i : Nat} {d1 d2 : D} {xs ys : MeL} (F : Fr (gS G a d1) Z H ρ σ c) (ei : ρ[i]? = some (.sh (.mem d1))) (hf : (ρ.set i .no).all Slot.fre2 = true) (hH : H a = some (MeO a xs)) (m : MemOk d2 (upd H a (MeO a ys)) ys) (hs : MemHas d2 ys) :
    Fr (gS G a d2) Z (upd H a (MeO a ys)) (ρ.set i (.sh (.mem d2))) σ c := by
  have hz : Z a = none := (F.st.noZ _ rfl).1
  have nz : ∀ b o, Z b = some o → b ≠ a := fun b o q z => by rw [z, hz] at q; cases q
  have fr : ∀ j s, i ≠ j → ρ[j]? = some s → s.fre2 = true := fun j s nj e => List.all_eq_true.mp hf s (List.mem_of_getElem? (by rw [List.getElem?_set_ne nj]; exact e))
  have g0 := F.gs _ rfl
  refine ⟨fun b o q => by rw [upd_ne (nz b o q)]; exact F.zh b o q, fun s e => by cases e; exact g0, fun s e => by cases e; exact .inr ⟨d2, rfl, rfl, hz, ys, upd_same, m, hs⟩, by simp [F.len], fun j s e => ?_, fun j l s t nj e1 e2 w1 w2 => ?_, fun b o e n => ?_, F.fr, F.z0, tabs_upd F.tb hH me_ntbl me_nc⟩
  · rcases set_get e with ⟨rfl, rfl⟩ | ⟨nj, e⟩
    · obtain ⟨v, ev, r⟩ := F.sl i _ ei
      rw [Rep] at r
      obtain ⟨sm, es, em, rfl⟩ := r
      cases es
      exact ⟨_, ev, by rw [Rep]; exact ⟨_, rfl, rfl, rfl⟩⟩
    · have q := F.sl j s e
      have f := fr j s nj e
      cases s with
      | no => trivial
      | sh d =>
        obtain ⟨v, e1, r⟩ := q
        exact ⟨v, e1, Rep.fre f r⟩
      | ow d =>
        obtain ⟨x, q1, o, q2, q3, q4, q5⟩ := q
        exact ⟨x, q1, o, by rw [upd_ne (F.notSt q4 _ rfl).1]; exact q2, q3, q4, Img.fre f q5⟩
      | ob x C ns ds =>
        obtain ⟨x, q1, dx, fs, q2, q3, q4, q5, q6, q7, q8, q9⟩ := q
        exact ⟨x, q1, dx, fs, by rw [upd_ne (F.notSt q6 _ rfl).1]; exact q2, by rw [upd_ne (F.notSt q7 _ rfl).1]; exact q3, q4, q5, q6, q7, q8, Reps.fre f q9⟩
  · rcases set_get e1 with ⟨rfl, rfl⟩ | ⟨n1, e1⟩
    · cases w1
    · rcases set_get e2 with ⟨rfl, rfl⟩ | ⟨n2, e2⟩
      · cases w2
      · exact F.ap j l s t nj e1 e2 w1 w2
  · have n' := n _ rfl
    rw [upd_ne n'.1]
    exact F.sm b o e fun s es => by cases es; exact n'
theorem upd_self {H : Hp} {a : Addr} {o : HO} (h : H a = some o) : upd H a o = H := by
  funext b
  by_cases e : b = a
  · rw [e, upd_same, h]
  · rw [upd_ne e]
end DL
set_option Elab.async false
set_option linter.all false
set_option maxRecDepth 100000
set_option maxHeartbeats 4000000
namespace DL
open PySem L2 PyProof.Rows PySem.W
section
variable {X : Cx} {pins : List (Addr × Obj)} {σ : L2.St} {H : Hp} {s : Shared} {a q : Addr} {xs : MeL} {d d2 : D} {k : NestedKey}
theorem me_setItem2 {A : Around} {E : Value → Shared → Prop} {Q : Unit → Shared → Prop} {b : Bool} (hu : A.units + 9 < cLine) (I : Inv X pins σ H s) (g : H a = some (MeO a xs)) (m : MemOk d H xs) (m2 : MemOk d2 H (meS xs k q b)) (hk : KAt H k (.ref q)) (hd : k.depth ≤ 8)
    (h : ∀ s', Inv X pins σ (upd H a (MeO a (meS xs k q b))) s' → Q () s') : wpAny (model X.prog X.w) A (setItem (.ref a) (.ref q) (.bool b)) Q E s := by
  obtain ⟨z, hs, dd⟩ := me_at I g m
  refine wpAny_setItem_heap (knd := nestedKind X.prog X.w) (hsz := by rw [List.length_map]; exact z) (show A.units + 1 + 8 < cLine from hu) ⟨kat_is I.hok hk rfl, hd⟩ dd fun h' dd' hsb => h _ ?_
  rw [stored_raw] at dd'
  obtain ⟨q', es', ep', g1, g2, g3, g4, _, g5⟩ := dd'
  have g5' : ((meS xs k q b).map (·.1)).Nodup := by rw [List.map_map] at g5; exact g5
  have few := mem_few m2 g5'
  exact d_write I (by rw [g]; exact True.intro) hsb ⟨q', g1⟩ (me_ok ⟨by rw [sizeLine_eq]; omega, hs, q', es', ep', g1, g2, g3, g4.trans (me_ents m2).symm, g5'⟩)
end
section
variable {X : Cx} {i o value : Expr} {pos pos' : Pos} {ty td tv : TE}
def sMput (td ty tv : TE) : TS := fun D σ H => tv σ H fun v H1 => td σ H1 fun x H2 => ty σ H2 fun y H3 => ∃ a q k xs d d2 b, x = .ref a ∧ y = .ref q ∧ v = .bl b ∧ H3 a = some (MeO a xs) ∧ MemOk d H3 xs ∧ MemOk d2 H3 (meS xs k q b) ∧ KAt H3 k (.ref q) ∧ k.depth ≤ 8 ∧ D.nx σ (upd H3 a (MeO a (meS xs k q b)))
theorem ps_mput2 (hu : X.A.units + 9 < cLine) (ho : PE X o td) (hi : PE X i ty) (hv : PE X value tv) (hs : swapsWith value (some (.Subscript o i pos')) pos.line X.env = pure false) :
    PS X (.Assign [.Subscript o i pos'] value pos) (sMput td ty tv) := by
  refine ⟨fun pins s σ H D I h => ?_⟩
  refine wpAny_Assign_Subscript (thn (hv.run pins s σ H _ I h) fun r s1 ⟨v, H1, I1, rv, q1⟩ => thn (ho.run pins s1 σ H1 _ I1 q1) fun u s2 ⟨x, H2, I2, rx, q2⟩ => thn (hi.run pins s2 σ H2 _ I2 q2) fun iv s3 ⟨y, H3, I3, ry, a, q, k, xs, d, d2, b, ex, ey, ev, g, m, m2, hk, hd, q3⟩ => ?_) hs
  subst ex ey ev
  obtain rfl : u = Value.ref a := rx
  obtain rfl : iv = Value.ref q := ry
  obtain rfl : r = Value.bool b := rv
  exact me_setItem2 hu I3 g m m2 hk hd fun s4 I4 => ⟨σ, _, I4, q3⟩
end
def memAtS (ρ : Rho) (i : Nat) : Option D := (shAt ρ i).bind asMem
theorem memAtS_some {ρ : Rho} {i : Nat} {d : D} (h : memAtS ρ i = some d) : ρ[i]? = some (.sh (.mem d)) := by
  obtain ⟨x, e1, e2⟩ := Option.bind_eq_some_iff.mp h
  rw [asMem_some e2] at e1
  exact shAt_some e1
abbrev tK2 (js jm : Nat) : TE := tTup (tCons (tVar js) (tCons (tVar jm) tNil))
abbrev tDs (T : List (Addr × Str)) (n : Nat) (t : DTS) : TS := fun D σ H => ∃ G : Gh, G.T = T ∧ LS G n t noW D σ H
theorem psx1 {X : Cx} {n : Nat} {st : Stmt} {t : DTS} (h : DS X n st t) : PS X st (tDs (tabsOf X.K) n t) := ⟨fun pins s σ H D I ⟨G, hG, q⟩ => (h G noW (tkN hG)).run pins s σ H D I q⟩
/-- the memo's object, by the frame -/
theorem mem_obj {G : Gh} {Z H : Hp} {ρ : Rho} {σ : L2.St} {c a i : Nat} {d : D} (F : Fr (gS G a d) Z H ρ σ c) (e : ρ[i]? = some (.sh (.mem d))) : σ[i]? = some (some (.ref a)) ∧ ∃ xs, H a = some (MeO a xs) ∧ MemOk d H xs ∧ MemHas d xs := by
  obtain ⟨v, ev, r⟩ := F.sl i _ e
  rw [Rep] at r
  obtain ⟨sm, es, em, rfl⟩ := r
  cases es
  rcases F.st _ rfl with ⟨z, _⟩ | ⟨d', z, h1, h2, xs, h3, h4, h5⟩
  · cases z
  · cases z
    exact ⟨ev, xs, h3, h4, h5⟩
/-- the key of two slots, made anew -/
theorem key2 {G : Gh} {Z H : Hp} {ρ : Rho} {σ : L2.St} {c js jm : Nat} {s m : D} {k : NestedKey} (F : Fr G Z H ρ σ c) (e1 : shAt ρ js = some s) (e2 : shAt ρ jm = some m) (hk : kiD (.tup [s, m]) = some k) :
    ∃ vi vj, σ[js]? = some (some vi) ∧ σ[jm]? = some (some vj) ∧ ∀ p, H p = none → KAt (upd H p (.tup [vi, vj])) k (.ref p) ∧ numK k = true := by
  obtain ⟨vi, g1, r1⟩ := F.sl js _ (shAt_some e1)
  obtain ⟨vj, g2, r2⟩ := F.sl jm _ (shAt_some e2)
  refine ⟨vi, vj, g1, g2, fun p hp => ?_⟩
  rw [kiD, Option.map_eq_some_iff] at hk
  obtain ⟨ks, e4, rfl⟩ := hk
  obtain ⟨h3, h4⟩ := kis_at (F.zh.trans (sub_upd hp)) (Reps.cons r1 (Reps.cons r2 Reps.nil)) e4
  exact ⟨by rw [KAt]; exact ⟨p, _, rfl, upd_same, h3⟩, by rw [numK]; exact h4⟩
/-- self-made key, a truth put in -/
theorem put_ok {G : Gh} {Z H : Hp} {ρ : Rho} {σ : L2.St} {c a i js jm : Nat} {d s m : D} {k : NestedKey} {v w b0 : Bool} {D : Ends} (F : Fr (gS G a (ovD d (.tup [s, m]) v)) Z H ρ σ c) (ei : ρ[i]? = some (.sh (.mem (ovD d (.tup [s, m]) v)))) (e1 : shAt ρ js = some s) (e2 : shAt ρ jm = some m) (hk : kiD (.tup [s, m]) = some k) (h0 : memE d k = some b0) (hd : k.depth ≤ 8) (hf : (ρ.set i .no).all Slot.fre2 = true)
    (hD : ∀ H', Fr (gS G a (ovD d (.tup [s, m]) w)) Z H' (ρ.set i (.sh (.mem (ovD d (.tup [s, m]) w)))) σ c → D.nx σ H') : sMput (tVar i) (tK2 js jm) (tC (.bl w)) D σ H := by
  obtain ⟨ea, xs, hx, mx, hs⟩ := mem_obj F ei
  obtain ⟨vi, vj, k1, k2, kk⟩ := key2 F e1 e2 hk
  refine ⟨_, ea, vi, k1, vj, k2, by rw [sizeLine_eq]; simp, fun p hp => ?_⟩
  have np : a ≠ p := fun z => by rw [z, hp] at hx; cases hx
  have F1 := F.alloc (.tup [vi, vj]) hp
  have hx' : upd H p (.tup [vi, vj]) a = some (MeO a xs) := by rw [upd_ne np]; exact hx
  obtain ⟨kk1, kk2⟩ := kk p hp
  have mx' := mx.mono (.sub (sub_upd (o := .tup [vi, vj]) hp))
  have m2 := ov_again (w := w) h0 hk mx' (.refl _) kk1 kk2 hd
  refine ⟨a, p, k, xs, _, _, w, rfl, rfl, rfl, hx', mx', m2, kk1, hd, hD _ ?_⟩
  have hs2 : MemHas (ovD d (.tup [s, m]) w) (meS xs k p w) := fun k' hk' => by
    rw [ov_keys h0 hk] at hk'
    rcases List.mem_cons.mp hk' with rfl | hk'
    · exact meS_any
    · exact meS_any2 (hs k' (by rw [ov_keys h0 hk]; exact List.mem_cons_of_mem _ hk'))
  exact F1.swapM ei hf hx' (m2.mono (.upd hx' me_ntup)) hs2
end DL
set_option Elab.async false
set_option linter.all false
set_option maxRecDepth 100000
set_option maxHeartbeats 4000000
namespace DL
open PySem L2 PyProof.Rows
/-- the walk of what is tried: where a trial is good, True is put in -/
def lmGo (g : EG) (fb : ES) (ft : ET) (i js jm : Nat) (d s m : D) : List D → Bool → Rho → Option (Bool × Rho)
  | [], v, ρ => some (v, ρ)
  | x :: xs, v, ρ => (g x ρ).bind fun ρ1 => match fb ρ1 with
    | .ret (.nx ρ2) => (match ft ρ2 with
      | .ret (t, ρ3) => if memAtS ρ3 i = some (ovD d (.tup [s, m]) v) ∧ shAt ρ3 js = some s ∧ shAt ρ3 jm = some m ∧ (ρ3.set i .no).all Slot.fre2 = true then lmGo g fb ft i js jm d s m xs (v || t) (if t = true then ρ3.set i (.sh (.mem (ovD d (.tup [s, m]) true))) else ρ3) else none
      | _ => none)
    | _ => none
theorem fres_mem : ∀ {ds : List D}, DL.D.fres ds = true → ∀ {d : D}, d ∈ ds → DL.D.fre d = true
  | [], _, _, h => by simp at h
  | x :: ds, h, d, hd => by
    rw [DL.D.fres, Bool.and_eq_true] at h
    rcases List.mem_cons.mp hd with rfl | hd
    · exact h.1
    · exact fres_mem h.2 hd
theorem lm_ok {G : Gh} {a i js jm n0 nb n2 c : Nat} {d s m : D} {k : NestedKey} {b0 b v : Bool} {g : EG} {fb : ES} {ft : ET} {fi : EA} {vs : List Nat} {T : List (Addr × Str)} {σ : L2.St} {H Z : Hp} {ρ ρ0 ρe : Rho} {ds : List D} {D : Ends}
    (hT : G.T = T) (F : Fr (gS G a (ovD d (.tup [s, m]) v)) Z H ρ σ c) (hc : c + (n0 + sizeLine * (nb + n2)) ≤ G.cm) (hit : fi ρ = .ret (ds, ρ0)) (hfd : DL.D.fres ds = true) (hm0 : memAtS ρ0 i = some (ovD d (.tup [s, m]) v)) (hgo : lmGo g fb ft i js jm d s m ds v ρ0 = some (b, ρe))
    (h0 : memE d k = some b0) (hk : kiD (.tup [s, m]) = some k) (hd : k.depth ≤ 8)
    (done : ∀ Z' H' σ' c', Sub Z Z' → c' ≤ c + (n0 + sizeLine * (nb + n2)) → memAtS ρe i = some (ovD d (.tup [s, m]) b) → Fr (gS G a (ovD d (.tup [s, m]) b)) Z' H' ρe σ' c' → D.nx σ' H') :
    tFor (iEx T n0 (tI fi)) (gEx (tG g) vs) (tSeq (tDs T nb (tS fb)) (tIfS (tEx T n2 (tT ft)) (sMput (tVar i) (tK2 js jm) (tC (.bl true))) tNext)) D σ H := by
  refine ⟨gS G a (ovD d (.tup [s, m]) v), hT, Z, ρ, c, fun ds' ρ' => ds' = ds ∧ ρ' = ρ0, F, by show c + n0 ≤ G.cm; omega, by show (fi ρ).sat _ _; rw [hit]; exact ⟨rfl, rfl⟩, fun ds' ρ1 Z1 H1 J c1 z1 l1 q F1 J1 => ?_⟩
  obtain ⟨rfl, rfl⟩ := q
  have hcost : ∀ j, j ≤ ds'.length → c1 + j * (nb + n2) ≤ c + (n0 + sizeLine * (nb + n2)) := fun j hj => by
    have : j * (nb + n2) ≤ sizeLine * (nb + n2) := Nat.mul_le_mul_right _ (Nat.le_trans hj J1.len)
    omega
  refine ⟨fun j mm σ' H' => mm = ds'.length - j ∧ j ≤ ds'.length ∧ ∃ v2 Z2 ρ2 c2, Sub Z1 Z2 ∧ Fr (gS G a (ovD d (.tup [s, m]) v2)) Z2 H' ρ2 σ' c2 ∧ c2 ≤ c1 + j * (nb + n2) ∧ memAtS ρ2 i = some (ovD d (.tup [s, m]) v2) ∧ lmGo g fb ft i js jm d s m (ds'.drop j) v2 ρ2 = some (b, ρe), ⟨ds'.length, by simp, Nat.zero_le _, v, Z1, ρ1, c1, fun _ _ e => e, F1, by simp, hm0, by simpa using hgo⟩, ?_⟩
  rintro j mm σ2 H2 ⟨rfl, hj, v2, Z2, ρ2, c2, z2, F2, hc2, hm2, q2⟩
  by_cases hlt : j < ds'.length
  · refine .inr ⟨J1.go j H2 (z2.trans F2.zh) hlt, _, fun σ' H' z => ⟨ds'.length - (j + 1), by omega, rfl, hlt, z⟩, fun x H3 y => ?_⟩
    obtain ⟨hh, Z3, y1, y2, y3, rp⟩ := J1.yld j H2 Z2 x H3 ds'[j] z2 F2.zh (by simp [hlt]) y
    rw [drop_cons hlt] at q2
    have rp := Rep.fre (S' := (gS G a (ovD d (.tup [s, m]) v2)).S) (fres_mem hfd (List.getElem_mem hlt)) rp
    obtain ⟨F3, _⟩ := F2.pur (res := .sh ds'[j]) y1 y2 hh y3 rp
    have hcc := hcost (j + 1) hlt
    rw [Nat.add_mul, Nat.one_mul] at hcc
    rw [lmGo] at q2
    obtain ⟨ρ3, eg, q2⟩ := Option.bind_eq_some_iff.mp q2
    split at q2
    · rename_i ρ4 efb
      split at q2
      · rename_i t ρ5 eft
        split at q2
        · rename_i cnd
          obtain ⟨m1, m2, m3, m4⟩ := cnd
          refine ⟨gS G a (ovD d (.tup [s, m]) v2), Z3, ρ2, c2, ds'[j], fun ρ' => ρ' = ρ3, F3, rp, ⟨ρ3, eg, rfl⟩, fun ρ' σ' q F4 _ => ?_⟩
          subst q
          refine ⟨gS G a (ovD d (.tup [s, m]) v2), hT, Z3, ρ', c2, { nx := fun r => r = ρ4, rt := fun _ => False, bk := fun _ => False, ct := fun _ => False }, F4, by show c2 + nb ≤ G.cm; omega, by show (fb ρ').sat _ _; rw [efb]; exact rfl, fun r σ3 Z4 H5 c4 z4 l4 q F5 => ?_, fun _ _ _ _ _ _ _ z => z.elim, fun _ _ _ _ _ _ _ z => z.elim, fun _ _ _ _ _ _ _ _ _ z => z.elim⟩
          have q : r = ρ4 := q
          subst q
          refine ⟨gS G a (ovD d (.tup [s, m]) v2), hT, Z4, r, c4, fun b' ρ'' => b' = t ∧ ρ'' = ρ5, F5, by show c4 + n2 ≤ G.cm; omega, by show (ft r).sat _ _; rw [eft]; exact ⟨rfl, rfl⟩, fun b' ρ'' Z5 H6 c5 z5 l5 q F6 => ?_⟩
          obtain ⟨rfl, rfl⟩ := q
          have em := memAtS_some m1
          cases b' with
          | true =>
            rw [if_pos rfl]
            refine put_ok F6 em m2 m3 hk h0 hd m4 fun H7 F7 => ?_
            rw [Bool.or_true, if_pos rfl] at q2
            refine ⟨true, Z5, _, c5, z2.trans (y1.trans (z4.trans z5)), F7, by rw [Nat.add_mul]; omega, ?_, q2⟩
            have hl : i < ρ''.length := (List.getElem?_eq_some_iff.mp em).1
            unfold memAtS shAt
            rw [List.getElem?_set_self hl]
            rfl
          | false =>
            rw [if_neg (by decide)]
            rw [Bool.or_false, if_neg (by decide)] at q2
            exact ⟨v2, Z5, _, c5, z2.trans (y1.trans (z4.trans z5)), F6, by rw [Nat.add_mul]; omega, m1, q2⟩
        · cases q2
      · cases q2
    · cases q2
  · have e : j = ds'.length := by omega
    subst e
    rw [List.drop_length, lmGo] at q2
    injection q2 with q2
    injection q2 with e1 e2
    subst e1 e2
    have hcc := hcost ds'.length (Nat.le_refl _)
    exact .inl ⟨J1.stop H2 (z2.trans F2.zh), done Z2 H2 σ2 c2 (z1.trans z2) (by omega) hm2 F2⟩
end DL
set_option Elab.async false
set_option linter.all false
set_option maxRecDepth 100000
set_option maxHeartbeats 4000000
namespace DL
open PySem L2 PyProof.Rows
@[simp] def intS (ρ : Rho) (i : Nat) : Option Int := (shAt ρ i).bind asInt
theorem intS_some {ρ : Rho} {i : Nat} {j : Int} (h : intS ρ i = some j) : shAt ρ i = some (.int j) := by
  obtain ⟨x, e1, e2⟩ := Option.bind_eq_some_iff.mp h
  rw [asInt_some e2] at e1
  exact e1
/-- if m > 0 and (s, m) not in known: known[(s, m)] = False; for ..: ..; if test: known[(s, m)] = True; return m > 0 and known[(s, m)] -/
def eLMemo (i js jm : Nat) (fi : EA) (g : EG) (fb : ES) (ft : ET) : ES := fun ρ => opt (memAtS ρ i) fun d => opt (shAt ρ js) fun s => opt (intS ρ jm) fun mv =>
  if 0 < mv then opt (kiD (.tup [s, .int mv])) fun k => opt (memE d k) fun b => req (k.depth ≤ 8 ∧ (ρ.set i .no).all Slot.fre2 = true)
    (opt (asRet (fi (ρ.set i (.sh (.mem (ovD d (.tup [s, .int mv]) false)))))) fun r => req (D.fres r.1 = true ∧ memAtS r.2 i = some (ovD d (.tup [s, .int mv]) false))
      (opt (lmGo g fb ft i js jm d s (.int mv) r.1 false r.2) fun e => req (e.1 = b ∧ shAt e.2 js = some s ∧ shAt e.2 jm = some (.int mv) ∧ js ≠ i ∧ jm ≠ i ∧ (e.2.set i .no).all Slot.fre2 = true) (.ret (.rt (.sh (.bl b))))))
  else .ret (.rt (.sh (.bl false)))
abbrev tGt0 (jm : Nat) : TE := tGt (tVar jm) (tC (.int 0))
def tNin (i js jm : Nat) : TE := fun σ H Q => tK2 js jm σ H fun y H1 => tVar i σ H1 fun x H2 => ∃ a q k xs d, x = .ref a ∧ y = .ref q ∧ H2 a = some (MeO a xs) ∧ MemOk d H2 xs ∧ KAt H2 k (.ref q) ∧ k.depth ≤ 8 ∧ Q (.bl (!(xs.any fun x => decide (x.1 = k)))) H2
def tMget (i js jm : Nat) : TE := fun σ H Q => tVar i σ H fun x H1 => tK2 js jm σ H1 fun y H2 => ∃ a q k xs d b, x = .ref a ∧ y = .ref q ∧ H2 a = some (MeO a xs) ∧ MemOk d H2 xs ∧ KAt H2 k (.ref q) ∧ k.depth ≤ 8 ∧ (xs.any fun x => decide (x.1 = k)) = true ∧ memE d k = some b ∧ Q (.bl b) H2
theorem gS_of {G : Gh} {a : Addr} {d : D} (h : G.S = some ⟨a, a, some d⟩) : gS G a d = G := by
  obtain ⟨S, H0, Z0, cm, cml, nt, T, zt⟩ := G
  cases h
  rfl
theorem mget_ok {G : Gh} {Z H : Hp} {ρ : Rho} {σ : L2.St} {c a i js jm : Nat} {d s : D} {mv : Int} {k : NestedKey} {b : Bool} {xs : MeL} {Q : VK} (F : Fr G Z H ρ σ c) (ea : σ[i]? = some (some (.ref a))) (hx : H a = some (MeO a xs)) (mx : MemOk d H xs) (hin : (xs.any fun x => decide (x.1 = k)) = true) (e1 : shAt ρ js = some s) (e2 : shAt ρ jm = some (.int mv)) (hk : kiD (.tup [s, .int mv]) = some k) (h0 : memE d k = some b) (hd : k.depth ≤ 8) (hp : 0 < mv)
    (hQ : ∀ H', Fr G Z H' ρ σ c → Q (.bl b) H') : tAndV (tGt0 jm) (tMget i js jm) σ H Q := by
  obtain ⟨vi, vj, k1, k2, kk⟩ := key2 F e1 e2 hk
  obtain ⟨w, w1, w2⟩ := F.sl jm _ (shAt_some e2)
  rw [Rep] at w2
  subst w2
  refine ⟨_, w1, mv, 0, rfl, rfl, ⟨_, rfl, ?_⟩⟩
  rw [if_pos (decide_eq_true hp)]
  refine ⟨_, ea, vi, k1, vj, k2, by rw [sizeLine_eq]; simp, fun p hp2 => ?_⟩
  have np : a ≠ p := fun z => by rw [z, hp2] at hx; cases hx
  exact ⟨a, p, k, xs, d, b, rfl, rfl, by rw [upd_ne np]; exact hx, mx.mono (.sub (sub_upd hp2)), (kk p hp2).1, hd, hin, h0, hQ _ (F.alloc _ hp2)⟩
section
variable {X : Cx} {n0 nb n2 i js jm j1 j2 : Nat} {fi : EA} {g : EG} {fb : ES} {ft : ET} {vs : List Nat} {e1 e2 kx1 kx2 kx3 kx4 ox1 ox2 ox3 ox4 tg iter t2 : Expr} {st1 : Stmt} {cp bp p2 p3 p4 ap ap' ip ip2 fp bp2 rp q1 q2 : Pos}
theorem dss_lmemo (hu : X.A.units + 9 < cLine) (ht1 : PT X e1 (tB (tGt0 jm))) (he2 : PE X e2 (tGt0 jm)) (hk1 : PE X kx1 (tK2 js jm)) (hk2 : PE X kx2 (tK2 js jm)) (hk3 : PE X kx3 (tK2 js jm)) (hk4 : PE X kx4 (tK2 js jm))
    (ho1 : PE X ox1 (tVar i)) (ho2 : PE X ox2 (tVar i)) (ho3 : PE X ox3 (tVar i)) (ho4 : PE X ox4 (tVar i)) (hp : PassesOwn (model X.prog X.w) X.A X.env X.xe) (hc : X.calm = true) (hi : DI X n0 tg iter (tI fi)) (hg : DG X tg (tG g) vs) (h1 : DS X nb st1 (tS fb)) (h2 : DT X n2 t2 (tT ft)) (hs4 : NoSl kx4)
    (hb1 : behindInMarks .NotIn ox1 = false := by rfl) (hw2 : swapsWith (.Constant (.bool false) j1 q1) (some (.Subscript ox2 kx2 p2)) ap.line X.env = pure false := by rfl) (hw3 : swapsWith (.Constant (.bool true) j2 q2) (some (.Subscript ox3 kx3 p3)) ap'.line X.env = pure false := by rfl) (hs : ∀ x, foldedSetIterable iter X.env x = pure x := by intro _; rfl) :
    DSs X (n0 + sizeLine * (nb + n2)) [.If (.BoolOp .And [e1, .Compare kx1 [.NotIn] [ox1] cp] bp) [.Assign [.Subscript ox2 kx2 p2] (.Constant (.bool false) j1 q1) ap, .For tg iter [st1, .If t2 [.Assign [.Subscript ox3 kx3 p3] (.Constant (.bool true) j2 q2) ap'] [] ip2] [] fp] [] ip, .Return (some (.BoolOp .And [e2, .Subscript ox4 kx4 p4] bp2)) rp] (tS (eLMemo i js jm fi g fb ft)) := fun G W tk => by
  have s1 := ps_if (pos := ip) (pw_and (pos := bp) ht1 (pw_and1 (pos := bp) (pt_cmp (pos := cp) (show PC X .NotIn kx1 ox1 (tNin i js jm) from pc_mnotin hu hk1 ho1) hb1))).pt
    (pss_cons (ps_mput2 (pos := ap) (pos' := p2) hu ho2 hk2 pe_bl hw2) (pss_one (ps_for (pos := fp) hp hc (iex hi) (gex hg) (pss_cons (psx1 h1) (pss_one (ps_if (pos := ip2) (tex h2) (pss_one (ps_mput2 (pos := ap') (pos' := p3) hu ho3 hk3 pe_bl hw3)) pss_nil))) hs))) pss_nil
  have s2 : PS X (.Return (some (.BoolOp .And [e2, .Subscript ox4 kx4 p4] bp2)) rp) (tRet (tAndV (tGt0 jm) (tMget i js jm))) := ps_ret (pe_and he2 (pe_one (pe_mget hu ho4 hk4 hs4)))
  refine PSs.weak (pss_cons s1 (pss_one s2)) fun D σ H ⟨Z, ρ, c, Dd, F, hcm, t, kD⟩ => ?_
  obtain ⟨d, m0, t⟩ := opt_sat (show (eLMemo i js jm fi g fb ft ρ).sat (Out.sat Dd) W from t)
  obtain ⟨s, m1, t⟩ := opt_sat t
  obtain ⟨mv, m2, t⟩ := opt_sat t
  have m2 := intS_some m2
  obtain ⟨w, w1, w2⟩ := F.sl jm _ (shAt_some m2)
  rw [Rep] at w2
  subst w2
  by_cases hpos : 0 < mv
  · rw [if_pos hpos] at t
    obtain ⟨k, hk, t⟩ := opt_sat t
    obtain ⟨b, h0, t⟩ := opt_sat t
    obtain ⟨⟨hd, hf⟩, t⟩ := req_sat t
    obtain ⟨r, er, t⟩ := opt_sat t
    have er := asRet_some er
    obtain ⟨⟨hfd, hm0⟩, t⟩ := req_sat t
    obtain ⟨e, hgo, t⟩ := opt_sat t
    obtain ⟨⟨eb, me1, me2, nji, nmi, hfe⟩, t⟩ := req_sat t
    have hrt : Dd.rt (.sh (.bl b)) := t
    -- the ghost
    have em := memAtS_some m0
    obtain ⟨va, ea, rr⟩ := F.sl i _ em
    rw [Rep] at rr
    obtain ⟨sm, eS, emm, rfl⟩ := rr
    have ecl : sm.cl = sm.st := by
      rcases F.st sm eS with ⟨q, _⟩ | ⟨_, _, q, _⟩
      · rw [emm] at q; cases q
      · exact q
    obtain ⟨a, cl, mm⟩ := sm
    have ecl : cl = a := ecl
    have emm : mm = some d := emm
    subst ecl emm
    have eG := gS_of eS
    rw [← eG] at F
    obtain ⟨ea, xs, hx, mx, hs0⟩ := mem_obj F em
    have fin : ∀ {Z' H' : Hp} {ρ' : Rho} {σ' : L2.St} {c' : Nat} {xs : MeL}, Sub Z Z' → c' ≤ c + (n0 + sizeLine * (nb + n2)) → Fr (gS G cl d) Z' H' ρ' σ' c' → ρ'[i]? = some (.sh (.mem d)) → shAt ρ' js = some s → shAt ρ' jm = some (.int mv) → H' cl = some (MeO cl xs) → MemOk d H' xs → (xs.any fun x => decide (x.1 = k)) = true → tAndV (tGt0 jm) (tMget i js jm) σ' H' D.rt := by
      intro Z' H' ρ' σ' c' xs zz lc F' e0' e1' e2' hx mx hin
      refine mget_ok F' (mem_obj F' e0').1 hx mx hin e1' e2' hk h0 hd hpos fun H'' F'' => ?_
      rw [eG] at F''
      exact kD.rt (.sh (.bl b)) ρ' σ' Z' _ _ c' zz lc hrt F'' (show Rep _ _ _ _ by rw [Rep])
    -- the test
    obtain ⟨vi, vj, k1, k2, kk⟩ := key2 F m1 m2 hk
    refine ⟨_, w1, mv, 0, rfl, rfl, _, rfl, ?_⟩
    show (if decide (0 < mv) = true then _ else _)
    rw [if_pos (decide_eq_true hpos)]
    refine ⟨vi, k1, vj, k2, by rw [sizeLine_eq]; simp, fun p hp2 => ?_⟩
    have np : cl ≠ p := fun z => by rw [z, hp2] at hx; cases hx
    have F1 := F.alloc (.tup [vi, vj]) hp2
    have hx1 : upd H p (.tup [vi, vj]) cl = some (MeO cl xs) := by rw [upd_ne np]; exact hx
    have mx1 := mx.mono (.sub (sub_upd (o := .tup [vi, vj]) hp2))
    refine ⟨_, ea, cl, p, k, xs, d, rfl, rfl, hx1, mx1, (kk p hp2).1, hd, _, rfl, ?_⟩
    cases hin : xs.any fun x => decide (x.1 = k) with
    | true =>
      rw [if_neg (by decide)]
      exact fin (fun _ _ e => e) (Nat.le_add_right _ _) F1 em m1 m2 hx1 mx1 hin
    | false =>
      rw [if_pos (by decide)]
      obtain ⟨vi2, vj2, k3, k4, kk2⟩ := key2 F1 m1 m2 hk
      refine ⟨_, ea, vi2, k3, vj2, k4, by rw [sizeLine_eq]; simp, fun p2 hp3 => ?_⟩
      have np2 : cl ≠ p2 := fun z => by rw [z, hp3] at hx1; cases hx1
      have F2 := F1.alloc (.tup [vi2, vj2]) hp3
      have hx2 : upd (upd H p (.tup [vi, vj])) p2 (.tup [vi2, vj2]) cl = some (MeO cl xs) := by rw [upd_ne np2]; exact hx1
      have mx2 := mx1.mono (.sub (sub_upd (o := .tup [vi2, vj2]) hp3))
      obtain ⟨ka, kn⟩ := kk2 p2 hp3
      have mo := ov_put (v := false) h0 hk mx2 (.refl _) ka kn hd
      refine ⟨cl, p2, k, xs, d, _, false, rfl, rfl, rfl, hx2, mx2, mo, ka, hd, ?_⟩
      have F3 := F2.swapM em hf hx2 (mo.mono (.upd hx2 me_ntup)) (ov_has h0 hk hs0)
      refine lm_ok (G := G) (d := d) (s := s) (m := .int mv) (k := k) (b := b) tk.2 F3 hcm er hfd hm0 (by rw [hgo, ← eb]) h0 hk hd fun Z' H' σ' c' zz lc em2 F4 => ?_
      have em3 := memAtS_some em2
      obtain ⟨ea4, xs4, hx4, mx4, hs4'⟩ := mem_obj F4 em3
      have md := ov_done h0 hk mx4
      obtain ⟨hl1, hl2⟩ := ov_less h0 hk hs4'
      have F5 := F4.swapM (d2 := d) (ys := xs4) em3 hfe hx4 (by rw [upd_self hx4]; exact md) hl1
      rw [upd_self hx4] at F5
      have hl : i < e.2.length := (List.getElem?_eq_some_iff.mp em3).1
      refine fin zz lc F5 (List.getElem?_set_self hl) ?_ ?_ hx4 md hl2
      · unfold shAt
        rw [List.getElem?_set_ne (Ne.symm nji)]
        exact me1
      · unfold shAt
        rw [List.getElem?_set_ne (Ne.symm nmi)]
        exact me2
  · rw [if_neg hpos] at t
    refine ⟨_, w1, mv, 0, rfl, rfl, _, rfl, ?_⟩
    show (if decide (0 < mv) = true then _ else _)
    rw [if_neg (by rw [decide_eq_false hpos]; decide)]
    show (if false = true then _ else _)
    rw [if_neg (by decide)]
    refine ⟨_, w1, mv, 0, rfl, rfl, ⟨_, rfl, ?_⟩⟩
    show (if decide (0 < mv) = true then _ else _)
    rw [if_neg (by rw [decide_eq_false hpos]; decide)]
    exact kD.rt (.sh (.bl false)) ρ σ Z _ _ c (fun _ _ e => e) (Nat.le_add_right _ _) t F (show Rep _ _ _ _ by rw [Rep])
end
end DL
set_option Elab.async false
set_option linter.all false
set_option maxRecDepth 100000
set_option maxHeartbeats 4000000
namespace DL
open PySem L2 PyProof.Rows
/-! ### a new memo for what comes behind -/
abbrev mG (G : Gh) (H Z : Hp) (kd : Addr) (d : D) (zt : ∀ b ps, Z b ≠ some (.tbl ps)) : Gh := ⟨some ⟨kd, kd, some d⟩, vis H, Z, G.cm, G.cml, vis_nt, G.T, zt⟩
theorem to_memo {G : Gh} {Z H : Hp} {ρ : Rho} {σ : L2.St} {c : Nat} {kd : Addr} {d : D} (F : Fr G Z H ρ σ c) (gk : H kd = some (MeO kd [])) (zk : Z kd = none) (hfr : ρ.all Slot.fre = true) (hov : (ovK d).isEmpty = true) (w : Nat) :
    Fr (mG G H Z kd d F.zn) Z H (ρ.set w (.sh (.mem d))) (σ.set w (some (.ref kd))) c := by
  have vk : vis H kd = some (MeO kd []) := vis_of gk me_ntbl
  refine ⟨F.zh, fun s e => ?_, fun s e => ?_, by simp [F.len], fun j s e => ?_, fun j l s t nj e1 e2 w1 w2 => ?_, .ofv fun _ _ e => e, fun b o e => .inl e, fun _ _ e => e, F.tb⟩
  · cases e
    exact ⟨by show vis H kd ≠ none; rw [vk]; simp, by show vis H kd ≠ none; rw [vk]; simp⟩
  · cases e
    exact .inr ⟨d, rfl, rfl, zk, [], gk, (fun x hx => by simp at hx), fun k hk => by rw [List.isEmpty_iff.mp hov] at hk; simp at hk⟩
  · rcases set_get e with ⟨rfl, rfl⟩ | ⟨nj, e⟩
    · have hl : w < σ.length := by
        have := (List.getElem?_eq_some_iff.mp e).1
        rw [List.length_set, F.len] at this
        exact this
      refine ⟨.ref kd, by rw [List.getElem?_set_self hl], ?_⟩
      rw [Rep]
      exact ⟨_, rfl, rfl, rfl⟩
    · have fs := List.all_eq_true.mp hfr s (List.mem_of_getElem? e)
      rw [List.getElem?_set_ne nj]
      have q := F.sl j s e
      cases s with
      | no => trivial
      | sh d =>
        obtain ⟨v, e1, r⟩ := q
        exact ⟨v, e1, Rep.fre fs r⟩
      | ow d => cases fs
      | ob x C ns ds => cases fs
  · have on : ∀ (j : Nat) (s : Slot), (ρ.set w (.sh (.mem d)))[j]? = some s → s.owns = true → False := fun j s e ww => by
      rcases set_get e with ⟨rfl, rfl⟩ | ⟨nj, e⟩
      · cases ww
      · have fs := List.all_eq_true.mp hfr s (List.mem_of_getElem? e)
        cases s <;> first | (cases ww; done) | (cases fs; done)
    exact (on _ _ e1 w1).elim
/-- and back, at the end -/
theorem of_memo {G : Gh} {Z H Z3 H3 : Hp} {ρ ρ3 : Rho} {σ σ3 : L2.St} {c c3 nr : Nat} {kd : Addr} {d : D} {r : Vd} {v : V} (F : Fr G Z H ρ σ c) (kd0 : G.H0 kd = none) (gk : H kd = some (MeO kd [])) (z3 : Sub Z Z3) (F5 : Fr (mG G H Z kd d F.zn) Z3 H3 ρ3 σ3 c3) (o : VOk (mG G H Z kd d F.zn) Z3 H3 ρ3 σ3 r v) (fr : r.fre = true) :
    Fr G Z3 H3 (noR σ3) σ3 (c + nr) ∧ VOk G Z3 H3 (noR σ3) σ3 r v := by
  have keep : ∀ b o, H b = some o → (∀ ps, o ≠ .tbl ps) → b ≠ kd → H3 b = some o := fun b o e n nk => F5.sm b o (vis_of e n) fun s e => by cases e; exact ⟨nk, nk⟩
  have B := F.bare' σ3
  refine ⟨⟨F5.zh, B.gs, (B.st.count (Nat.le_add_right c nr)).keep (fun s e => ?_) (fun s e => ?_) (fun a vs e => keep a _ e (fun ps z => by cases z) fun z => ?_), by simp [noR], (fun i s e => by rw [noR_get e]; trivial), (fun i j s t _ e _ w _ => by rw [noR_get e] at w; cases w), fun b o e n => ?_, fun b o e => ?_, B.z0.trans z3, F5.tb⟩, ?_⟩
  · obtain ⟨⟨o1, e1, t1, n1⟩, o2, e2, t2, n2⟩ := B.st.at_ e
    have n := B.notSt kd0 s e
    exact ⟨(keep _ _ e1 n1 (Ne.symm n.1)).trans e1.symm, (keep _ _ e2 n2 (Ne.symm n.2)).trans e2.symm⟩
  · obtain ⟨⟨o1, e1, t1, n1⟩, o2, e2, t2, n2⟩ := B.st.at_ e
    have n := B.notSt kd0 s e
    have nz := B.st.noZ s e
    have off : ∀ b u, Z b = none → H b = some u → (∀ vs, u ≠ .tup vs) → (∀ ps, u ≠ .tbl ps) → b ≠ kd → Z3 b = none := fun b u z0 hb ht hn hk => by
      cases q0 : Z3 b with
      | none => rfl
      | some w =>
        rcases F5.fr b w q0 with q1 | q1
        · exact absurd (z0.symm.trans q1) (by simp)
        · exact (NewIn.off q1 (F5.zh _ _ q0) (vis_of hb hn) (keep b u hb hn hk) ht).elim
    exact ⟨off _ _ nz.1 e1 t1 n1 (Ne.symm n.1), off _ _ nz.2 e2 t2 n2 (Ne.symm n.2)⟩
  · rw [z, gk] at e
    exact me_ntup _ (Option.some.inj e)
  · exact keep b o (B.sm b o e n) (fun ps z => G.nt b ps (by rw [e, z])) fun z => by rw [z, kd0] at e; cases e
  · rcases F5.fr b o e with q1 | q1
    · exact B.fr b o q1
    · exact .inr ⟨q1.at_.imp B.free0v id, q1.nt⟩
  · cases r with
    | sh d => exact Rep.fre fr o
    | nw d =>
      obtain ⟨a, rfl, ⟨o1, q1, q2, q3, q4⟩, _⟩ := o
      exact ⟨a, rfl, ⟨o1, q1, q2, B.free0v q3, Img.fre fr q4⟩, fun i s e w _ => by rw [noR_get e] at w; cases w⟩
/-- x, y = e, {}; what comes behind, with y as its memo -/
def eNewMemo (i w : Nat) (md : Rho → D) (fe : EE) (b : ES) : ES := fun ρ => (fe ρ).bind fun p => req ((p.2.set i (.sh p.1.d)).all Slot.fre = true ∧ (ovK (md p.2)).isEmpty = true)
  ((b ((p.2.set i (.sh p.1.d)).set w (.sh (.mem (md p.2))))).noex.bind fun o => opt (outRt o) fun v => req (v.fre = true) (.ret (Out.rt v)))
section
variable {X : Cx} {n nr i w : Nat} {e : Expr} {rest : List Stmt} {st : Stmt} {fe : EE} {b : ES} {md : Rho → D}
theorem dss_newmemo {dp : Pos} (hst : ∀ te, PE X e te → PS X st (tPar i w (tCons te (tCons tDNewM tNil)))) (he : DE X n e (tE fe)) (hrest : DSs X nr rest (tS b)) : DSs X (n + nr) (st :: rest) (tS (eNewMemo i w md fe b)) := fun G W tk => by
  refine PSs.weak (pss_cons (hst _ (he G W tk)) (pssx hrest)) fun D σ H ⟨Z, ρ, c, Dd, F, hc, t, kk⟩ => ?_
  refine ⟨Z, ρ, c, fun r ρ1 => (req ((ρ1.set i (.sh r.d)).all Slot.fre = true ∧ (ovK (md ρ1)).isEmpty = true)
    ((b ((ρ1.set i (.sh r.d)).set w (.sh (.mem (md ρ1))))).noex.bind fun o => opt (outRt o) fun v => req (v.fre = true) (.ret (Out.rt v)))).sat (Out.sat Dd) W, F, by omega, (sat_bind (m := fe ρ)).mp t, fun r ρ1 Z1 H1 v c1 z1 l1 q F1 o1 => fun kd hkd => ⟨v, .ref kd, rfl, ?_⟩⟩
  obtain ⟨⟨hfr, hov⟩, q⟩ := req_sat q
  have q := noex_sat (W' := noW) (sat_bind.mp q)
  obtain ⟨Z2, z2, F2, rp⟩ := F1.share o1
  have kd0 := F1.free0 hkd
  have F3 := F2.alloc (MeO kd []) hkd
  have F4 := F3.store (i := i) (s := .sh r.d) ⟨v, rfl, rp⟩ fun z => by cases z
  have zk := F2.freeZ hkd
  have F5 := to_memo F4 upd_same zk hfr hov w
  refine ⟨mG G (upd H1 kd (MeO kd [])) Z2 kd (md ρ1) F4.zn, tk.ok, Z2, _, c1, { nx := fun _ => False, rt := fun v => v.fre = true ∧ Dd.rt v, bk := fun _ => False, ct := fun _ => False }, F5, by show c1 + nr ≤ G.cm; omega, q.imp fun o q => ?_, fun _ _ _ _ _ _ _ z => z.elim, fun _ _ _ _ _ _ _ z => z.elim, fun _ _ _ _ _ _ _ z => z.elim, fun r ρ3 σ3 Z3 H3 v c3 z3 l3 q F6 o => ?_⟩
  · obtain ⟨v, e1, q⟩ := opt_sat q
    obtain ⟨q1, q2⟩ := req_sat q
    rw [outRt_some e1]
    exact ⟨q1, q2⟩
  · obtain ⟨fr, q⟩ := q
    obtain ⟨B1, B2⟩ := of_memo (nr := nr) F4 kd0 upd_same z3 F6 o fr
    exact kk.rt r (noR σ3) σ3 Z3 H3 v (c1 + nr) (z1.trans (z2.trans z3)) (by omega) q B1 B2
end
end DL
set_option Elab.async false
set_option linter.all false
set_option maxRecDepth 100000
set_option maxHeartbeats 4000000
namespace DL
open PySem L2 PyProof.Rows
/-! ### f(e, .., {}): a new memo handed to a def -/
def LAm (G : Gh) (n : Nat) (t : DTA) (W : DX) : TA := fun σ H Q => ∃ Z ρ c Qd, Fr G Z H ρ σ c ∧ c + n ≤ G.cm ∧ t ρ Qd W ∧
  ∀ ds ρ' Z' H' vs c' kd, Sub Z Z' → c' ≤ c + n → Qd ds ρ' → Fr G Z' H' ρ' σ c' → Reps G.S Z' ds vs → H' kd = none → Q (vs ++ [.ref kd]) (upd H' kd (MeO kd []))
def DAm (X : Cx) (n : Nat) (es : List Expr) (t : DTA) : Prop := ∀ G W, Tk X G W → PA X es (LAm G n t W)
section
variable {X : Cx} {n m : Nat} {e : Expr} {es : List Expr} {ta : DTE} {ts : DTA} {fa : EE} {ra : EA}
theorem dam_nil {dp : Pos} : DAm X 0 [.Dict [] [] dp] (tA aNil) := fun G W _ => PA.weak (pa_cons pe_dnewM pa_nil) fun σ H Q ⟨Z, ρ, c, Qd, F, hc, t, k⟩ => fun kd hkd => k [] ρ Z H [] c kd (fun _ _ e => e) (Nat.le_refl _) t F Reps.nil hkd
theorem dam_cons (ha : DE X n e (tE fa)) (hr : DAm X m es (tA ra)) (hs : starEach (e :: es) X.env = (false, eval e X.env) :: starEach es X.env := by rfl) : DAm X (n + m) (e :: es) (tA (aCons fa ra)) := fun G W tk =>
  PA.weak (pa_cons (ha G W tk) (hr G W tk) hs) fun σ H Q ⟨Z, ρ, c, Qd, F, hc, t, k⟩ => by
    refine ⟨Z, ρ, c, fun x ρ1 => (ra ρ1).sat (fun p => Qd (x.d :: p.1) p.2) W, F, by omega, (show tE fa ρ _ W from (sat_bind.mp t).imp fun p t => (sat_bind.mp t)), fun r ρ1 Z1 H1 v c1 z1 hc1 q F1 o => ?_⟩
    obtain ⟨Z2, z2, F2, rp⟩ := F1.share o
    refine ⟨Z2, ρ1, c1, fun xs ρ2 => Qd (r.d :: xs) ρ2, F2, by omega, q, fun ds ρ3 Z3 H3 vs c3 kd z3 hc3 q3 F3 rs hkd => ?_⟩
    exact k _ _ Z3 H3 (v :: vs) c3 kd (z1.trans (z2.trans z3)) (by omega) q3 F3 (Reps.cons (rp.mono z3) rs) hkd
end
def eCallM (md : List D → D) (F : FN) (as : EA) : EE := fun ρ => (as ρ).bind fun p => req (D.fres p.1 = true ∧ (ovK (md p.1)).isEmpty = true) (((F (p.1 ++ [DL.D.mem (md p.1)])).at p.2).noex.bind fun r => req (r.1.fre = true) (.ret r))
section
variable {X : Cx} {n m k : Nat} {e : Expr} {es : List Expr} {as : EA} {F : FN} {f : Addr} {fd : FuncData} {ps : List Str} {x : Str} {p pos : Pos} {md : List D → D}
theorem de_callM (Fn : FnOk X.prog X.w X.K X.mg X.base (L2.CX X.prog X.w) k f fd ps (spD X.K m (tF F))) (hr : Room k X.A) (hg : Gl X x) (hm : X.mg x = some (.ref f)) (hk : PySem.W.keepIn X.K (.ref f) = true) (hb : Binds X.K fd ps [])
    (ha : DAm X n (e :: es) (tA as)) (hdb : (x == ("__debug__" : Str)) = false := by decide) (he : starEach (e :: es) X.env = (false, eval e X.env) :: starEach es X.env := by rfl) (hpl : (backTo pos (starEach es X.env)).any (·.1) = false := by rfl) :
    DE X (n + m) (.Call (.Name x p) (e :: es) [] pos) (tE (eCallM md F as)) := fun G W tk =>
  PE.weak (pe_callSD Fn hr hg hm hk hb .nil (fun σ => passAt tk.tk σ) (ha G W tk) hdb he hpl) fun σ H Q ⟨Z, ρ, c, Qd, F0, hc, t, kk⟩ => by
    refine ⟨Z, ρ, c, fun xs ρ1 => (req (D.fres xs = true ∧ (ovK (md xs)).isEmpty = true) (((F (xs ++ [DL.D.mem (md xs)])).at ρ1).noex.bind fun r => req (r.1.fre = true) (.ret r))).sat (fun q => Qd q.1 q.2) W, F0, by omega, (sat_bind (m := as ρ)).mp t, fun xs ρ1 Z1 H1 vs c1 kd z1 l1 q F1 rs hkd => ?_⟩
    obtain ⟨⟨hfr, hov⟩, q⟩ := req_sat q
    have q := noex_sat (W' := noW) (sat_bind.mp q)
    have q := at_sat.mp q
    have kd0 := F1.free0 hkd
    have zk := F1.freeZ hkd
    have F2 := F1.alloc (MeO kd []) hkd
    have vk : vis (upd H1 kd (MeO kd [])) kd = some (MeO kd []) := vis_of upd_same me_ntbl
    rw [List.append_nil, spD, ← tk.ok]
    refine ⟨some ⟨kd, kd, some (md xs)⟩, Z1, c1, xs ++ [DL.D.mem (md xs)], fun r => (req (r.fre = true) (.ret (r, ρ1))).sat (fun q => Qd q.1 q.2) W, fun _ => False, F1.zn, F2.zh, fun s e => ?_, Nat.le_trans (by omega) G.cml, (Reps.fre hfr rs).append (Reps.cons (by rw [Rep]; exact ⟨_, rfl, rfl, rfl⟩) Reps.nil), q.mono (fun r z => z) (fun _ _ z => z), F2.tb, fun r Z' H' v c' h1 h2 h3 h4 h5 h6 ht h7 h8 => ?_, fun _ _ _ _ _ _ _ _ _ _ _ _ _ _ z => z.elim⟩
    · cases e
      exact .inr ⟨md xs, rfl, rfl, zk, [], upd_same, (fun x hx => by simp at hx), fun k hk => by rw [List.isEmpty_iff.mp hov] at hk; simp at hk⟩
    · obtain ⟨fr, hq⟩ := req_sat h8
      have vis2 : ∀ b o, vis H1 b = some o → vis (upd H1 kd (MeO kd [])) b = some o ∧ b ≠ kd := fun b o e => by
        have e2 := vis_some e
        have nb : b ≠ kd := fun z => by rw [z, hkd] at e2; cases e2
        exact ⟨vis_of (by rw [upd_ne nb]; exact e2) fun ps z => vis_nt b ps (by rw [e, z]), nb⟩
      have vis0 : ∀ b, vis (upd H1 kd (MeO kd [])) b = none → vis H1 b = none := fun b e => by
        cases q : vis H1 b with
        | none => rfl
        | some o => rw [(vis2 b o q).1] at e; cases e
      have keep : ∀ b o, vis H1 b = some o → H' b = some o := fun b o e => h4 b o (vis2 b o e).1 fun s es => by cases es; exact ⟨(vis2 b o e).2, (vis2 b o e).2⟩
      have nin : ∀ b o, Z' b = some o → Z1 b = some o ∨ NewIn (vis H1) b o := fun b o e => (h5 b o e).imp id fun q => ⟨q.at_.imp (vis0 b) id, q.nt⟩
      have st : StOk G.S Z' H' (c1 + m) := (F1.st.count (Nat.le_add_right c1 m)).keep (fun s e => by
        obtain ⟨⟨o1, e1, t1, n1⟩, o2, e2, t2, n2⟩ := F1.st.at_ e
        exact ⟨(keep _ _ (vis_of e1 n1)).trans e1.symm, (keep _ _ (vis_of e2 n2)).trans e2.symm⟩) (fun s e => by
        obtain ⟨⟨o1, e1, t1, n1⟩, o2, e2, t2, n2⟩ := F1.st.at_ e
        have nz := F1.st.noZ s e
        have off : ∀ b u, Z1 b = none → H1 b = some u → (∀ vs, u ≠ .tup vs) → (∀ ps, u ≠ .tbl ps) → Z' b = none := fun b u z0 hb ht hn => by
          cases q0 : Z' b with
          | none => rfl
          | some w =>
            rcases nin b w q0 with q1 | q1
            · exact absurd (z0.symm.trans q1) (by simp)
            · exact (NewIn.off q1 (h2 _ _ q0) (vis_of hb hn) (keep b u (vis_of hb hn)) ht).elim
        exact ⟨off _ _ nz.1 e1 t1 n1, off _ _ nz.2 e2 t2 n2⟩) (fun a vs e => keep a _ (vis_of e fun ps z => by cases z))
      have F3 := F1.call h1 h2 (fun b o e _ => keep b o e) nin st ht
      refine kk r ρ1 Z' H' v (c1 + m) (z1.trans h1) (by omega) hq F3 ?_
      cases r with
      | sh d => exact Rep.fre fr h7
      | nw d =>
        obtain ⟨a, o, rfl, q1, q2, q3, q4⟩ := h7
        have q3 := vis0 a q3
        exact ⟨a, rfl, ⟨o, q1, q2, F1.free0v q3, Img.fre fr q4⟩, NotOwned.of_vis F1 q3⟩
end
end DL
set_option Elab.async false
set_option linter.all false
set_option maxRecDepth 100000
set_option maxHeartbeats 4000000
namespace DL
open PySem L2 PyProof.Rows
/-! ### return f(C(e, ..)): an instance with a memo, made in place -/
def eRetHuntK (C : Addr) (fnm : Str) (md : List D → D) (F : FN) (q : (List Str × List D) × Rho) : Cm Out := req (D.fres q.1.2 = true ∧ (ovK (md q.1.2)).isEmpty = true)
  ((F [.ins C (q.1.1 ++ [fnm]) (q.1.2 ++ [DL.D.mem (md q.1.2)])]).noex.bind fun r => req (r.fre = true) (.ret (Out.rt r)))
def eRetHunt (C : Addr) (fnm : Str) (g : FI) (md : List D → D) (as : EA) (F : FN) : ES := fun ρ => (as ρ).bind fun p => ((g p.1).at p.2).bind (eRetHuntK C fnm md F)
section
variable {X : Cx} {n m m2 k kI : Nat} {e : Expr} {es : List Expr} {ra : EA} {pos pos1 p p1 rp : Pos} {g : FI} {F : FN} {f fI C : Addr} {fd fdI : FuncData} {ps psI : List Str} {x y fnm : Str} {md : List D → D}
theorem dss_retHunt (M : Mk X.K C fI) (FnI : FnOk X.prog X.w X.K X.mg X.base (L2.CX X.prog X.w) kI fI fdI psI (spIM X.K C fnm m (tFI g))) (hrI : Room (kI + 1) X.A) (hgI : Gl X x) (hmI : X.mg x = some (.ref C)) (hbI : L2.Binds X.K fdI psI [])
    (Fn : FnOk X.prog X.w X.K X.mg X.base (L2.CX X.prog X.w) k f fd ps (spD X.K m2 (tF F))) (hr : Room k X.A) (hg : Gl X y) (hm : X.mg y = some (.ref f)) (hk : PySem.W.keepIn X.K (.ref f) = true) (hb : L2.Binds X.K fd ps [])
    (ha : DA X n (e :: es) (tA ra)) (hdb : (x == ("__debug__" : Str)) = false := by decide) (he : starEach (e :: es) X.env = (false, eval e X.env) :: starEach es X.env := by rfl) (hpl : (backTo pos (starEach es X.env)).any (·.1) = false := by rfl)
    (hdb1 : (y == ("__debug__" : Str)) = false := by decide) (he1 : starEach [.Call (.Name x p) (e :: es) [] pos] X.env = (false, eval (.Call (.Name x p) (e :: es) [] pos) X.env) :: starEach [] X.env := by rfl) (hpl1 : (backTo pos1 (starEach [] X.env)).any (·.1) = false := by rfl) :
    DSs X (n + m + m2) [.Return (some (.Call (.Name y p1) [.Call (.Name x p) (e :: es) [] pos] [] pos1)) rp] (tS (eRetHunt C fnm g md ra F)) := fun G W tk => by
  refine PSs.weak (pss_one (ps_ret (pe_callSD Fn hr hg hm hk hb .nil (fun σ => passAt tk.tk σ) (pa_cons (pe_makeS M FnI hrI hgI hmI hbI .nil (fun σ => passAt tk.tk σ) (ha G W tk) hdb he hpl) pa_nil he1) hdb1 he1 hpl1))) fun D σ H ⟨Z, ρ, c, Dd, F0, hc, t, kk⟩ => ?_
  refine ⟨Z, ρ, c, fun xs ρ1 => (((g xs).at ρ1).bind (eRetHuntK C fnm md F)).sat (Out.sat Dd) W, F0, by omega, (sat_bind (m := ra ρ)).mp t, fun xs ρ1 Z1 H1 vs c1 z1 l1 q F1 rs => fun y dx hy hdx ne => ?_⟩
  rw [spIM, ← tk.ok, List.append_nil]
  refine ⟨H1, y, dx, G.S, Z1, c1, xs, vs, fun ns es => (eRetHuntK C fnm md F ((ns, es), ρ1)).sat (Out.sat Dd) W, fun x => W x ρ1, F1.zn, rfl, hy, hdx, ne, rfl, F1.zh, F1.st, Nat.le_trans (by omega) G.cml, rs, at_sat.mp (sat_bind.mp q), F1.tb, fun ns es Z' H' fs dy c' kd h1 h2 h3 h4 h5 h6 ht g1 g2 gk g3 g4 gz g5 gk0 gn gr h8 => ⟨rfl, ?_⟩, fun z cls d Z' H' c' h1 h2 h3 h4 h5 h6 ht h7 h8 => ?_⟩
  · obtain ⟨⟨hes, hov⟩, h8⟩ := req_sat (show (req _ _).sat _ _ from h8)
    have h8 := noex_sat (W' := noW) (sat_bind.mp h8)
    have y0 := F1.free0 hy
    have dy0 := F1.free0v g5
    have kd0 := F1.free0v gk0
    have F2 := F1.call h1 h2 h4 h5 h6 ht
    obtain ⟨hz, F3⟩ := F2.frzI g1 g2 g3 g4 y0 dy0
    have nyd : dy ≠ y := fun z => by rw [z, g1] at g2; cases g2
    have nky : kd ≠ y := fun z => by rw [z, g1] at gk; cases gk
    have nkd : kd ≠ dy := fun z => by rw [z, g2] at gk; cases gk
    have zk : upd (upd Z' dy (.own y)) y (.ins C dy (fs ++ [(fnm, .ref kd)])) kd = none := by rw [upd_ne nky, upd_ne nkd]; exact gz
    generalize eZ : upd (upd Z' dy (.own y)) y (.ins C dy (fs ++ [(fnm, .ref kd)])) = Z2 at hz F3 zk
    have zy : Z2 y = some (.ins C dy (fs ++ [(fnm, .ref kd)])) := by rw [← eZ, upd_same]
    have zdy : Z2 dy = some (.own y) := by rw [← eZ, upd_ne nyd, upd_same]
    have vk : vis H' kd = some (MeO kd []) := vis_of gk me_ntbl
    have hst : StOk (some ⟨kd, kd, some (md es)⟩) Z2 H' c' := fun s e => by
      cases e
      exact .inr ⟨md es, rfl, rfl, zk, [], gk, (fun x hx => by simp at hx), fun k hk => by rw [List.isEmpty_iff.mp hov] at hk; simp at hk⟩
    have ri : Rep (some ⟨kd, kd, some (md es)⟩) Z2 (.ins C (ns ++ [fnm]) (es ++ [DL.D.mem (md es)])) (.ref y) := by
      rw [Rep]
      refine ⟨y, dy, _, rfl, zy, zdy, by rw [List.map_append, gn]; rfl, ?_⟩
      rw [List.map_append]
      refine Reps.append (Reps.fre hes (gr.mono hz)) (Reps.cons ?_ Reps.nil)
      rw [Rep]
      exact ⟨_, rfl, rfl, rfl⟩
    show spD X.K m2 (tF F) [.ref y] H' D.rt _
    rw [spD, ← tk.ok]
    refine ⟨some ⟨kd, kd, some (md es)⟩, Z2, c', [.ins C (ns ++ [fnm]) (es ++ [DL.D.mem (md es)])], fun r => (req (r.fre = true) (.ret (Out.rt r))).sat (Out.sat Dd) W, fun _ => False, F3.zn, F3.zh, hst, Nat.le_trans (by omega) G.cml, Reps.cons ri Reps.nil, h8, F3.tb, fun r Z3 H3 v c3 k1 k2 k3 k4 k5 k6 kt k7 k8 => ?_, fun _ _ _ _ _ _ _ _ _ _ _ _ _ _ z => z.elim⟩
    obtain ⟨fr, hq⟩ := req_sat k8
    have F5 : Fr (mG G H' Z2 kd (md es) F3.zn) Z3 H3 (noR σ) σ c3 := ⟨k2, fun s e => by cases e; exact ⟨by show vis H' kd ≠ none; rw [vk]; simp, by show vis H' kd ≠ none; rw [vk]; simp⟩, k6, by simp [noR], (fun i s e => by rw [noR_get e]; trivial), (fun i j s t _ e _ w _ => by rw [noR_get e] at w; cases w), k4, k5, k1, kt⟩
    have o : VOk (mG G H' Z2 kd (md es) F3.zn) Z3 H3 (noR σ) σ r v := by
      cases r with
      | sh d => exact k7
      | nw d =>
        obtain ⟨a, o1, rfl, q1, q2, q3, q4⟩ := k7
        exact ⟨a, rfl, ⟨o1, q1, q2, q3, q4⟩, fun i s e w _ => by rw [noR_get e] at w; cases w⟩
    obtain ⟨B1, B2⟩ := of_memo (nr := m2) F3 kd0 gk k1 F5 o fr
    exact kk.rt r (noR σ) σ Z3 H3 v (c' + m2) (z1.trans (h1.trans (hz.trans k1))) (by omega) hq B1 B2
  · exact ⟨Z', ρ1, c', z, F1.call h1 h2 h4 h5 h6 ht, by omega, h7, h8⟩
end
end DL
set_option Elab.async false
set_option linter.all false
set_option maxRecDepth 100000
set_option maxHeartbeats 4000000
namespace DL
open PySem L2 PyProof.Rows
def b_l_same (fp : FN) : ES := (eSeq (eIf (eTest (eOpN fIsi (aCons (eVar 1) (aCons (eTup (aCons (eC (.ty "list")) (aCons (eC (.ty "tuple")) aNil))) aNil)))) (eSeq (eIf (eOr (eTest (eOp2 fNe (eOpN fIsi (aCons (eVar 0) (aCons (eC (.ty "list")) aNil))) (eOpN fIsi (aCons (eVar 1) (aCons (eC (.ty "list")) aNil))))) (eTest (eOp2 fNe (eOpN fIsi (aCons (eVar 0) (aCons (eC (.ty "tuple")) aNil))) (eOpN fIsi (aCons (eVar 1) (aCons (eC (.ty "tuple")) aNil)))))) (eRet (eC (.bl false))) eSkip)
    (eRet (eAndV (eOp2 fEq (eOpN fLenS (aCons (eVar 0) aNil)) (eOpN fLenS (aCons (eVar 1) aNil))) (eOpN fAll (aCons (eComp (iZip (aCons (eVar 0) (aCons (eVar 1) aNil))) (gT (gsC (gN 2) (gsC (gN 3) gsN))) eYes (eCall fp [] (aCons (eVar 2) (aCons (eVar 3) aNil))) [2, 3]) aNil))))) eSkip)
    (eSeq (eIf (eTest (eOpN fIsi (aCons (eVar 1) (aCons (eC (.ty "dict")) aNil)))) eNever eSkip)
    (eSeq (eIf (eTest (eOpN fIsi (aCons (eVar 1) (aCons (eC (.ty "int")) aNil)))) (eRet (eAndV (eOpN fIsi (aCons (eVar 0) (aCons (eC (.ty "int")) aNil))) (eAndV (eOp2 fEq (eOpN fIsi (aCons (eVar 0) (aCons (eC (.ty "bool")) aNil))) (eOpN fIsi (aCons (eVar 1) (aCons (eC (.ty "bool")) aNil)))) (eOp2 fEq (eVar 0) (eVar 1))))) eSkip)
    (eRet (eAndV (eNotV (eOpN fIsi (aCons (eVar 0) (aCons (eTup (aCons (eC (.ty "int")) (aCons (eC (.ty "list")) (aCons (eC (.ty "tuple")) (aCons (eC (.ty "dict")) aNil))))) aNil)))) (eOp2 fEq (eVar 0) (eVar 1)))))))
def f_l_same : Nat → FN
  | 0 => fun _ => .bad
  | m + 1 => defF 2 4 (b_l_same (f_l_same m))
def b_l_pick : ES := (eRet (eOp2 fIx (eVar 1) (eCall f_l_draw [] (aCons (eVar 0) (aCons (eOpN fLenS (aCons (eVar 1) aNil)) aNil)))))
def f_l_pick : FN := defF 2 2 b_l_pick
def b_l_mixed : ES := (eSeq (eSet 2 (eOpN fList (aCons (eVar 1) aNil)))
    (eRet (eComp (iRng1 (aCons (eBor [2] (eOpN fLenS (aCons (eVar 2) aNil))) aNil)) (gN 3) eYes (eMut 2 fPop (aCons (eCall f_l_draw [] (aCons (eVar 0) (aCons (eBor [2] (eOpN fLenS (aCons (eVar 2) aNil))) aNil))) aNil)) [3])))
def f_l_mixed : FN := defF 2 4 b_l_mixed
def b_is_list : ES := (eRet (eOpN fIsi (aCons (eVar 0) (aCons (eTup (aCons (eC (.ty "list")) (aCons (eC (.ty "tuple")) aNil))) aNil))))
def f_is_list : FN := defF 1 1 b_is_list
def b_is_integer : ES := (eRet (eAndV (eOpN fIsi (aCons (eVar 0) (aCons (eC (.ty "int")) aNil))) (eNotV (eOpN fIsi (aCons (eVar 0) (aCons (eC (.ty "bool")) aNil))))))
def f_is_integer : FN := defF 1 1 b_is_integer
def b_is_name : ES := (eSeq (eIf (eOr (eNot (eTest (eOpN fIsi (aCons (eVar 0) (aCons (eC (.ty "str")) aNil))))) (eOr (eNot (eTest (eChain (fInt2 fun a b => .bl (decide (a ≤ b))) (fInt2 fun a b => .bl (decide (a ≤ b))) (eC (.int 1)) (eOpN fLenS (aCons (eVar 0) aNil)) (eC (.int 12))))) (eTest (eOp2 (fInB true) (eOp2 fIx (eVar 0) (eC (.int 0))) (eC (.str "abcdefghijklmnopqrstuvwxyz")))))) (eRet (eC (.bl false))) eSkip)
    (eRet (eOpN fAll (aCons (eComp (iSigns (eVar 0)) (gN 1) eYes (eOrV (eOp2 (fInB false) (eVar 1) (eC (.str "abcdefghijklmnopqrstuvwxyz"))) (eOp2 (fInB false) (eVar 1) (eC (.str "0123456789")))) [1]) aNil))))
def f_is_name : FN := defF 1 2 b_is_name
end DL
set_option Elab.async false
set_option linter.all false
set_option maxRecDepth 100000
set_option maxHeartbeats 4000000
namespace DL
open PySem L2 PyProof.Rows
noncomputable section
def mdH : List D → D
  | [.lst os, .int m, .lst sg] => .tup [.int os.length, .int m, .lst sg]
  | _ => .non
def mdL : D → D → D → D
  | .lst ns, .lst ks, l => .tup [.int ns.length, l, .lst (ks.map fun k => match k with
    | .lst xs => .lst (ns.map fun n => .bl (xs.any fun x => D.eqv x n))
    | _ => .non)]
  | _, _, _ => .non
def mdA : List D → D
  | n :: k :: l :: _ => mdL n k l
  | _ => .non
def mdR (a b l : Nat) : Rho → D := fun ρ => match shAt ρ a, shAt ρ b, shAt ρ l with
  | some n, some k, some m => mdL n k m
  | _, _, _ => .non
def cs_l (c : Str → Addr) : List Addr := [c "BadAnswers", c "BadAskings", c "BadLies", c "BadSuspects"]
def b_l_m_suspects : ES := (eSeq (eSet 2 (eSl (eCall f_l_mixed [] (aCons (eVar 0) (aCons (eLst (aCons (eC (.str "a")) (aCons (eC (.str "b")) (aCons (eC (.str "c1")) (aCons (eC (.str "d")) (aCons (eC (.str "zed")) (aCons (eC (.str "m9")) (aCons (eC (.str "k")) aNil)))))))) aNil))) oNone (oSome (eOp2 fAdd (eC (.int 1)) (eCall f_l_draw [] (aCons (eVar 0) (aCons (eVar 1) aNil)))))))
    (eSeq (ePar2 3 4 (vCons (eLst aNil) (vCons (eCall f_l_draw [] (aCons (eVar 0) (aCons (eC (.int 4)) aNil))) vNil)))
    (eSeq (eIf (eTest (eOp2 fEq (eVar 4) (eC (.int 0)))) (eSet 3 (eComp (iRng2 (aCons (eC (.int 1)) (aCons (eOpN fLenS (aCons (eVar 2) aNil)) aNil))) (gN 5) eYes (eSl (eVar 2) oNone (oSome (eVar 5))) [5])) eSkip)
    (eSeq (eFor (iRng1 (aCons (eOp2 fAdd (eC (.int 1)) (eCall f_l_draw [] (aCons (eVar 0) (aCons (eC (.int 4)) aNil)))) aNil)) (gN 6) (eDrop (eMut 3 fAppend (aCons (eComp (iItems (eCall f_l_mixed [] (aCons (eVar 0) (aCons (eVar 2) aNil)))) (gN 7) (eTest (eOp2 fEq (eCall f_l_draw [] (aCons (eVar 0) (aCons (eC (.int 2)) aNil))) (eC (.int 0)))) (eVar 7) [7]) aNil))) [6])
    (eSeq (eIf (eTest (eOp2 fEq (eVar 4) (eC (.int 1)))) (eStoreIx 3 (eOp2 fAdd (eIxO 3 (eOp1 fNeg (eC (.int 1)))) (eLst (aCons (eC (.str "stranger")) aNil))) (eOp1 fNeg (eC (.int 1)))) eSkip)
    (eRet (eTup (aCons (eVar 2) (aCons (eSl (eCall f_l_mixed [] (aCons (eVar 0) (aCons (eVar 3) aNil))) oNone (oSome (eC (.int 5)))) aNil)))))))))
def f_l_m_suspects : FN := defF 2 8 b_l_m_suspects
def b_Hunt_left_ones_e (c : Str → Addr) : ES := (eRet (eComp (iZip (aCons (eFld (c "Hunt") "ones" (eVar 0)) (aCons (eVar 1) aNil))) (gT (gsC (gN 2) (gsC (gN 3) gsN))) (eTest (eOp2 (fInt2 fun a b => .bl (decide (a ≤ b))) (eVar 3) (eFld (c "Hunt") "most" (eVar 0)))) (eVar 2) [2, 3]))
def f_Hunt_left_ones_e (c : Str → Addr) : FN := defF 2 4 (b_Hunt_left_ones_e c)
def b_Hunt_behind_answer_e (c : Str → Addr) : ES := (eZipT 4 (aCons (eVar 1) (aCons (eOp2 fIx (eFld (c "Hunt") "signs" (eVar 0)) (eVar 2)) aNil)) (gT (gsC (gN 5) (gsC (gN 6) gsN))) (eOpN (fInt2 fun a b => .int (min a b)) (aCons (eOp2 fAdd (eVar 5) (eOpN fInt (aCons (eOp2 fNe (eVar 6) (eVar 3)) aNil))) (aCons (eOp2 fAdd (eFld (c "Hunt") "most" (eVar 0)) (eC (.int 1))) aNil))) [5, 6])
def f_Hunt_behind_answer_e (c : Str → Addr) : FN := defF 4 7 (b_Hunt_behind_answer_e c)
def b_Hunt_is_right_e (c : Str → Addr) (fe : FN) : ES := (eSeq (eIf (eNot (eTest (eMeth (c "Hunt") "is_enough" fe [] (eVar 0) (aCons (eMeth (c "Hunt") "behind_answer" (f_Hunt_behind_answer_e c) [] (eVar 0) (aCons (eVar 1) (aCons (eVar 2) (aCons (eC (.bl true)) aNil)))) (aCons (eOp2 (fInt2 fun a b => .int (a - b)) (eVar 3) (eC (.int 1))) aNil))))) (eRet (eC (.bl false))) eSkip)
    (eRet (eMeth (c "Hunt") "is_enough" fe [] (eVar 0) (aCons (eMeth (c "Hunt") "behind_answer" (f_Hunt_behind_answer_e c) [] (eVar 0) (aCons (eVar 1) (aCons (eVar 2) (aCons (eC (.bl false)) aNil)))) (aCons (eOp2 (fInt2 fun a b => .int (a - b)) (eVar 3) (eC (.int 1))) aNil)))))
def f_Hunt_is_right_e (c : Str → Addr) (fe : FN) : FN := defF 4 4 (b_Hunt_is_right_e c fe)
def b_Hunt_is_enough_e (c : Str → Addr) (fe : FN) : ES := (eSeq (eIf (eTest (eOp2 (fInt2 fun a b => .bl (decide (a < b))) (eOpN fLenS (aCons (eMeth (c "Hunt") "left_ones" (f_Hunt_left_ones_e c) [] (eVar 0) (aCons (eVar 1) aNil)) aNil)) (eC (.int 2)))) (eRet (eC (.bl true))) eSkip)
    (eSeq (eIf (eTest (eOp2 fEq (eVar 2) (eC (.int 0)))) (eRet (eC (.bl false))) eSkip)
    (eMemo (c "Hunt") "known" 0 1 2 (eOpN fAny (aCons (eComp (iRng1 (aCons (eOpN fLenS (aCons (eFld (c "Hunt") "signs" (eVar 0)) aNil)) aNil)) (gN 3) eYes (eMeth (c "Hunt") "is_right" (f_Hunt_is_right_e c fe) [] (eVar 0) (aCons (eVar 1) (aCons (eVar 3) (aCons (eVar 2) aNil)))) [3]) aNil)))))
def f_Hunt_is_enough_e (c : Str → Addr) : Nat → FN
  | 0 => fun _ => .bad
  | m + 1 => defF 3 4 (b_Hunt_is_enough_e c (f_Hunt_is_enough_e c m))
def b_Hunt_fewest_from_e (c : Str → Addr) : ES := (eSeq (eSet 2 (eOp2 fMul (eOp2 fAdd (eC (.int 1)) (eOp2 fMul (eC (.int 2)) (eFld (c "Hunt") "most" (eVar 0)))) (eOpN fLenS (aCons (eFld (c "Hunt") "ones" (eVar 0)) aNil))))
    (eSeq (eFor (iRng1 (aCons (eOp2 fAdd (eVar 2) (eC (.int 1))) aNil)) (gN 3) (eIf (eTest (eMeth (c "Hunt") "is_enough" (f_Hunt_is_enough_e c 20) [] (eVar 0) (aCons (eVar 1) (aCons (eVar 3) aNil)))) (eRet (eMove 3)) eSkip) [3])
    (eRet (eC .non))))
def f_Hunt_fewest_from_e (c : Str → Addr) : FN := defF 2 4 (b_Hunt_fewest_from_e c)
def b_Hunt_unparted_e (c : Str → Addr) : ES := (eSeq (eFor (iEnum (aCons (eFld (c "Hunt") "ones" (eVar 0)) aNil)) (gT (gsC (gN 1) (gsC (gN 2) gsN))) (eFor (iRng2 (aCons (eOp2 fAdd (eVar 1) (eC (.int 1))) (aCons (eOpN fLenS (aCons (eFld (c "Hunt") "ones" (eVar 0)) aNil)) aNil))) (gN 3) (eIf (eTest (eOpN fAll (aCons (eComp (iItems (eFld (c "Hunt") "signs" (eVar 0))) (gN 4) eYes (eOp2 fEq (eOp2 fIx (eVar 4) (eVar 1)) (eOp2 fIx (eVar 4) (eVar 3))) [4]) aNil))) (eRet (eTup (aCons (eVar 2) (aCons (eOp2 fIx (eFld (c "Hunt") "ones" (eVar 0)) (eVar 3)) aNil)))) eSkip) [3]) [1, 2, 3])
    (eRet (eC .non)))
def f_Hunt_unparted_e (c : Str → Addr) : FN := defF 1 5 (b_Hunt_unparted_e c)
def b_Hunt_begun_e (c : Str → Addr) : ES := (eRet (eOp2 fMul (eTup (aCons (eC (.int 0)) aNil)) (eOpN fLenS (aCons (eFld (c "Hunt") "ones" (eVar 0)) aNil))))
def f_Hunt_begun_e (c : Str → Addr) : FN := defF 1 1 (b_Hunt_begun_e c)
def b_fewest_of_e (c : Str → Addr) : ES := (eRet (eIfE (eTest (eOp2 (fIsN false) (eMeth (c "Hunt") "unparted" (f_Hunt_unparted_e c) [] (eVar 0) aNil) (eC .non))) (eMeth (c "Hunt") "fewest_from" (f_Hunt_fewest_from_e c) [] (eVar 0) (aCons (eMeth (c "Hunt") "begun" (f_Hunt_begun_e c) [] (eVar 0) aNil) aNil)) (eC .non)))
def f_fewest_of_e (c : Str → Addr) : FN := defF 1 1 (b_fewest_of_e c)
def b_checked_suspects_e (c : Str → Addr) : ES := (eSeq (eIf (eOr (eNot (eTest (eCall f_is_list [] (aCons (eVar 0) aNil)))) (eTest (eOp2 fEq (eOpN fLenS (aCons (eVar 0) aNil)) (eC (.int 0))))) (eRaise (c "BadSuspects") ["index"] (aCons (eC (.int 0)) aNil)) eSkip)
    (eSeq (eFor (iEnum (aCons (eVar 0) aNil)) (gT (gsC (gN 1) (gsC (gN 2) gsN))) (eIf (eOr (eNot (eTest (eCall f_is_name [] (aCons (eVar 2) aNil)))) (eTest (eOp2 (fInB false) (eVar 2) (eSl (eVar 0) oNone (oSome (eVar 1)))))) (eRaise (c "BadSuspects") ["index"] (aCons (eVar 1) aNil)) eSkip) [1, 2])
    (eRet (eOpN fList (aCons (eVar 0) aNil)))))
def f_checked_suspects_e (c : Str → Addr) : FN := defF 1 3 (b_checked_suspects_e c)
def b_are_names : ES := (eSeq (eIf (eOr (eNot (eTest (eCall f_is_list [] (aCons (eVar 0) aNil)))) (eNot (eTest (eOpN fAll (aCons (eComp (iItems (eVar 0)) (gN 1) eYes (eCall f_is_name [] (aCons (eVar 1) aNil)) [1]) aNil))))) (eRet (eC (.bl false))) eSkip)
    (eRet (eOp2 fEq (eLenSet (eVar 0)) (eOpN fLenS (aCons (eVar 0) aNil)))))
def f_are_names : FN := defF 1 2 b_are_names
def b_checked_askings_e (c : Str → Addr) : ES := (eSeq (eIf (eOr (eNot (eTest (eCall f_is_list [] (aCons (eVar 0) aNil)))) (eTest (eOp2 fEq (eOpN fLenS (aCons (eVar 0) aNil)) (eC (.int 0))))) (eRaise (c "BadAskings") ["index"] (aCons (eC (.int 0)) aNil)) eSkip)
    (eSeq (eFor (iEnum (aCons (eVar 0) aNil)) (gT (gsC (gN 1) (gsC (gN 2) gsN))) (eIf (eNot (eTest (eCall f_are_names [] (aCons (eVar 2) aNil)))) (eRaise (c "BadAskings") ["index"] (aCons (eVar 1) aNil)) eSkip) [1])
    (eRet (eComp (iItems (eVar 0)) (gN 2) eYes (eOpN fList (aCons (eVar 2) aNil)) [2]))))
def f_checked_askings_e (c : Str → Addr) : FN := defF 1 3 (b_checked_askings_e c)
def b_checked_lies_e (c : Str → Addr) : ES := (eSeq (eIf (eOr (eNot (eTest (eCall f_is_integer [] (aCons (eVar 0) aNil)))) (eTest (eOp2 (fInB true) (eVar 0) (eTup (aCons (eC (.int 0)) (aCons (eC (.int 1)) aNil)))))) (eRaise (c "BadLies") ["thing"] (aCons (eVar 0) aNil)) eSkip)
    (eRet (eMove 0)))
def f_checked_lies_e (c : Str → Addr) : FN := defF 1 1 (b_checked_lies_e c)
def b_Hunt_init_e (c : Str → Addr) : ES := (eSeq (eSetF 0 (c "Hunt") "ones" (eCall (f_checked_suspects_e c) [] (aCons (eVar 1) aNil)))
    (eSeq (eSet 4 (eCall (f_checked_askings_e c) [] (aCons (eVar 2) aNil)))
    (eSeq (eSetF 0 (c "Hunt") "most" (eCall (f_checked_lies_e c) [] (aCons (eVar 3) aNil)))
    (eSeq (eSetF 0 (c "Hunt") "signs" (eComp (iItems (eVar 4)) (gN 5) eYes (eComp (iItems (eFldO 0 (c "Hunt") "ones")) (gN 6) eYes (eOp2 (fInB false) (eVar 6) (eVar 5)) [6]) [5]))
    eSkip))))
def f_Hunt_init_e (c : Str → Addr) : FI := yF (c "Hunt") 4 7 (b_Hunt_init_e c)
def f_Hunt_init_m (c : Str → Addr) : FI := fun ds => (f_Hunt_init_e c ds).bind fun p => req (("known" : Str) ∉ p.1 ∧ p.1.length < 1000) (.ret p)
def b_fewest_askings_e (c : Str → Addr) : ES := (eRetHunt (c "Hunt") "known" (f_Hunt_init_m c) mdH (aCons (eVar 0) (aCons (eVar 1) (aCons (eVar 2) aNil))) (f_fewest_of_e c))
def f_fewest_askings_e (c : Str → Addr) : FN := defF 3 3 (b_fewest_askings_e c)
def b_l_m_left : ES := (eRet (eComp (iZip (aCons (eVar 0) (aCons (eVar 1) aNil))) (gT (gsC (gN 3) (gsC (gN 4) gsN))) (eTest (eOp2 (fInt2 fun a b => .bl (decide (a ≤ b))) (eVar 4) (eVar 2))) (eVar 3) [3, 4]))
def f_l_m_left : FN := defF 3 5 b_l_m_left
def b_l_m_after : ES := (eRet (eOpN fTuple (aCons (eComp (iZip (aCons (eVar 0) (aCons (eVar 2) aNil))) (gT (gsC (gN 5) (gsC (gN 6) gsN))) eYes (eOp2 fAdd (eVar 6) (eOpN fInt (aCons (eOp2 fNe (eOp2 (fInB false) (eVar 5) (eOp2 fIx (eVar 1) (eVar 3))) (eVar 4)) aNil))) [5, 6]) aNil)))
def f_l_m_after : FN := defF 5 7 b_l_m_after
def b_l_m_is_enough (fe : FN) : ES := (eSeq (eIf (eTest (eOp2 (fInt2 fun a b => .bl (decide (a < b))) (eOpN fLenS (aCons (eCall f_l_m_left [] (aCons (eVar 0) (aCons (eVar 3) (aCons (eVar 2) aNil)))) aNil)) (eC (.int 2)))) (eRet (eC (.bl true))) eSkip)
    (eSeq (eSet 3 (eOpN fTuple (aCons (eComp (iItems (eVar 3)) (gN 6) eYes (eOpN (fInt2 fun a b => .int (min a b)) (aCons (eVar 6) (aCons (eOp2 fAdd (eVar 2) (eC (.int 1))) aNil))) [6]) aNil)))
    (eLMemo 5 3 4 (iRng1 (aCons (eOpN fLenS (aCons (eVar 1) aNil)) aNil)) (gN 7) (eSet 8 (eComp (iItems (eTup (aCons (eC (.bl true)) (aCons (eC (.bl false)) aNil)))) (gN 9) eYes (eCall f_l_m_after [] (aCons (eVar 0) (aCons (eVar 1) (aCons (eVar 3) (aCons (eVar 7) (aCons (eVar 9) aNil)))))) [9])) (eTest (eOpN fAll (aCons (eComp (iItems (eVar 8)) (gN 10) eYes (eCall fe [] (aCons (eVar 0) (aCons (eVar 1) (aCons (eVar 2) (aCons (eVar 10) (aCons (eOp2 (fInt2 fun a b => .int (a - b)) (eVar 4) (eC (.int 1))) (aCons (eVar 5) aNil))))))) [10]) aNil))))))
def f_l_m_is_enough : Nat → FN
  | 0 => fun _ => .bad
  | m + 1 => defF 6 11 (b_l_m_is_enough  (f_l_m_is_enough  m))
def b_l_m_fewest : ES := (eNewMemo 4 5 (mdR 0 1 2) (eCall f_l_m_left [] (aCons (eVar 0) (aCons (eVar 3) (aCons (eVar 2) aNil))))
    (eSeq (eSet 6 (eComp (iItems (eVar 4)) (gN 7) eYes (eComp (iItems (eVar 1)) (gN 8) eYes (eOp2 (fInB false) (eVar 7) (eVar 8)) [8]) [7]))
    (eSeq (eIf (eTest (eOpN fAny (aCons (eComp (iEnum (aCons (eVar 6) aNil)) (gT (gsC (gN 9) (gsC (gN 10) gsN))) eYes (eOp2 (fInB false) (eVar 10) (eSl (eVar 6) oNone (oSome (eVar 9)))) [9, 10]) aNil))) (eRet (eC .non)) eSkip)
    (eSeq (eSet 11 (eC (.int 0)))
    (eSeq (eWhile 17 (eNot (eTest (eCall (f_l_m_is_enough 20) [] (aCons (eVar 0) (aCons (eVar 1) (aCons (eVar 2) (aCons (eVar 3) (aCons (eVar 11) (aCons (eVar 5) aNil))))))))) (eSet 11 (eOp2 fAdd (eVar 11) (eC (.int 1)))))
    (eRet (eMove 11)))))))
def f_l_m_fewest : FN := defF 4 12 b_l_m_fewest
def b_l_due : ES := (eSeq (eSet 4 (eCall f_l_m_fewest [] (aCons (eVar 0) (aCons (eVar 1) (aCons (eVar 2) (aCons (eVar 3) aNil))))))
    (eSeq (eIf (eOr (eTest (eOp2 (fIsN false) (eVar 4) (eC .non))) (eTest (eOp2 fEq (eVar 4) (eC (.int 0))))) (eRet (eC .non)) eSkip)
    (eSeq (eFor (iRng1 (aCons (eOpN fLenS (aCons (eVar 1) aNil)) aNil)) (gN 5) (eSeq (eSet 6 (eComp (iItems (eTup (aCons (eC (.bl true)) (aCons (eC (.bl false)) aNil)))) (gN 7) eYes (eCall f_l_m_after [] (aCons (eVar 0) (aCons (eVar 1) (aCons (eVar 3) (aCons (eVar 5) (aCons (eVar 7) aNil)))))) [7]))
    (eIf (eTest (eOpN fAll (aCons (eComp (iItems (eVar 6)) (gN 8) eYes (eCallM mdA (f_l_m_is_enough 20) (aCons (eVar 0) (aCons (eVar 1) (aCons (eVar 2) (aCons (eVar 8) (aCons (eOp2 (fInt2 fun a b => .int (a - b)) (eVar 4) (eC (.int 1))) aNil)))))) [8]) aNil))) (eRet (eMove 5)) eSkip)) [5, 6])
    (eRet (eC .non)))))
def f_l_due : FN := defF 4 9 b_l_due
def b_Hunt_behind_all_e (c : Str → Addr) : ES := (eSeq (eSet 2 (eMeth (c "Hunt") "begun" (f_Hunt_begun_e c) [] (eVar 0) aNil))
    (eSeq (eFor (iItems (eVar 1)) (gT (gsC (gN 3) (gsC (gN 4) gsN))) (eSet 2 (eMeth (c "Hunt") "behind_answer" (f_Hunt_behind_answer_e c) [] (eVar 0) (aCons (eVar 2) (aCons (eVar 3) (aCons (eVar 4) aNil))))) [3, 4])
    (eRet (eMove 2))))
def f_Hunt_behind_all_e (c : Str → Addr) : FN := defF 2 5 (b_Hunt_behind_all_e c)
def b_checked_answers_e (c : Str → Addr) : ES := (eSeq (eIf (eNot (eTest (eCall f_is_list [] (aCons (eVar 0) aNil)))) (eRaise (c "BadAnswers") ["index"] (aCons (eC (.int 0)) aNil)) eSkip)
    (eSeq (eFor (iEnum (aCons (eVar 0) aNil)) (gT (gsC (gN 2) (gsC (gN 3) gsN))) (eSeq (eIf (eOr (eNot (eTest (eCall f_is_list [] (aCons (eVar 3) aNil)))) (eOr (eTest (eOp2 fNe (eOpN fLenS (aCons (eVar 3) aNil)) (eC (.int 2)))) (eOr (eNot (eTest (eCall f_is_integer [] (aCons (eOp2 fIx (eVar 3) (eC (.int 0))) aNil)))) (eNot (eTest (eOpN fIsi (aCons (eOp2 fIx (eVar 3) (eC (.int 1))) (aCons (eC (.ty "bool")) aNil)))))))) (eRaise (c "BadAnswers") ["index"] (aCons (eVar 2) aNil)) eSkip)
    (eIf (eNot (eTest (eChain (fInt2 fun a b => .bl (decide (a ≤ b))) (fInt2 fun a b => .bl (decide (a < b))) (eC (.int 0)) (eOp2 fIx (eVar 3) (eC (.int 0))) (eVar 1)))) (eRaise (c "BadAnswers") ["index"] (aCons (eVar 2) aNil)) eSkip)) [2])
    (eRet (eComp (iItems (eVar 0)) (gN 3) eYes (eTup (aCons (eOp2 fIx (eVar 3) (eC (.int 0))) (aCons (eOp2 fIx (eVar 3) (eC (.int 1))) aNil))) [3]))))
def f_checked_answers_e (c : Str → Addr) : FN := defF 2 4 (b_checked_answers_e c)
def b_first_right_e (c : Str → Addr) : ES := (eRet (eOp2 fIx (eComp (iRng1 (aCons (eOpN fLenS (aCons (eFld (c "Hunt") "signs" (eVar 0)) aNil)) aNil)) (gN 3) (eTest (eMeth (c "Hunt") "is_right" (f_Hunt_is_right_e c (f_Hunt_is_enough_e c 20)) [] (eVar 0) (aCons (eVar 1) (aCons (eVar 3) (aCons (eVar 2) aNil))))) (eVar 3) [3]) (eC (.int 0))))
def f_first_right_e (c : Str → Addr) : FN := defF 3 4 (b_first_right_e c)
def b_ask_next_e (c : Str → Addr) : ES := (eHunt 4 (c "Hunt") "known" (fun ds => (f_Hunt_init_m c) (ds ++ [])) mdH (aCons (eVar 0) (aCons (eVar 1) (aCons (eVar 3) aNil)))
    (eSeq (eSet 5 (eMeth (c "Hunt") "behind_all" (f_Hunt_behind_all_e c) [] (eVar 4) (aCons (eCall (f_checked_answers_e c) [] (aCons (eVar 2) (aCons (eOpN fLenS (aCons (eVar 1) aNil)) aNil))) aNil)))
    (eSeq (eSet 6 (eMeth (c "Hunt") "fewest_from" (f_Hunt_fewest_from_e c) [] (eVar 4) (aCons (eVar 5) aNil)))
    (eRet (eIfE (eOr (eTest (eOp2 (fIsN false) (eVar 6) (eC .non))) (eTest (eOp2 fEq (eVar 6) (eC (.int 0))))) (eC .non) (eCall (f_first_right_e c) [] (aCons (eVar 4) (aCons (eVar 5) (aCons (eVar 6) aNil)))))))))
def f_ask_next_e (c : Str → Addr) : FN := defF 4 7 (b_ask_next_e c)
def b_possible_ones_e (c : Str → Addr) : ES := (eHunt 4 (c "Hunt") "known" (fun ds => (f_Hunt_init_m c) (ds ++ [])) mdH (aCons (eVar 0) (aCons (eVar 1) (aCons (eVar 3) aNil)))
    (eRet (eMeth (c "Hunt") "left_ones" (f_Hunt_left_ones_e c) [] (eVar 4) (aCons (eMeth (c "Hunt") "behind_all" (f_Hunt_behind_all_e c) [] (eVar 4) (aCons (eCall (f_checked_answers_e c) [] (aCons (eVar 2) (aCons (eOpN fLenS (aCons (eVar 1) aNil)) aNil))) aNil)) aNil))))
def f_possible_ones_e (c : Str → Addr) : FN := defF 4 5 (b_possible_ones_e c)
def b_l_hunted_e (c : Str → Addr) : ES := (eSeq (ePar2 5 6 (vCons (eLst aNil) (vCons (eCall (f_ask_next_e c) [] (aCons (eVar 0) (aCons (eVar 1) (aCons (eLst aNil) (aCons (eVar 2) aNil))))) vNil)))
    (eSeq (eWhile 41 (eAnd (eTest (eOp2 (fIsN true) (eVar 6) (eC .non))) (eTest (eOp2 (fInt2 fun a b => .bl (decide (a < b))) (eBor [5] (eOpN fLenS (aCons (eVar 5) aNil))) (eC (.int 40))))) (eSeq (eSet 7 (eOp2 (fInB false) (eVar 3) (eOp2 fIx (eVar 1) (eVar 6))))
    (eSeq (eDrop (eMut 5 fAppend (aCons (eTup (aCons (eVar 6) (aCons (eIfE (eTest (eOp2 fNe (eBor [5] (eOpN fLenS (aCons (eVar 5) aNil))) (eVar 4))) (eVar 7) (eNotV (eVar 7))) aNil))) aNil)))
    (eSet 6 (eBor [0, 1, 5, 2] (eCall (f_ask_next_e c) [] (aCons (eVar 0) (aCons (eVar 1) (aCons (eVar 5) (aCons (eVar 2) aNil))))))))))
    (eRet (eIfE (eTest (eOp2 fEq (eCall (f_possible_ones_e c) [] (aCons (eVar 0) (aCons (eVar 1) (aCons (eVar 5) (aCons (eVar 2) aNil))))) (eLst (aCons (eVar 3) aNil)))) (eOpN fLenS (aCons (eVar 5) aNil)) (eC .non)))))
def f_l_hunted_e (c : Str → Addr) : FN := defF 5 8 (b_l_hunted_e c)
def bl_0 (c : Str → Addr) : ES := (eAsg (gT (gsC (gN 3) (gsC (gN 4) gsN))) (eCall f_l_m_suspects [] (aCons (eVar 1) (aCons (eC (.int 4)) aNil))))
def bl_1 (c : Str → Addr) : ES := (ePar2 5 4 (vCons (eCall f_l_draw [] (aCons (eVar 1) (aCons (eC (.int 2)) aNil))) (vCons (eSl (eVar 4) oNone (oSome (eC (.int 4)))) vNil)))
def bl_2 (c : Str → Addr) : ES := (eSet 6 (eCall (f_fewest_askings_e c) [] (aCons (eVar 3) (aCons (eVar 4) (aCons (eVar 5) aNil)))))
def bl_3 (c : Str → Addr) : ES := (eFor (iRng1 (aCons (eC (.int 4)) aNil)) (gN 7) (eSeq (ePar2 8 9 (vCons (eLst aNil) (vCons (eOp2 fMul (eTup (aCons (eC (.int 0)) aNil)) (eOpN fLenS (aCons (eVar 3) aNil))) vNil)))
    (eSeq (eFor (iRng1 (aCons (eCall f_l_draw [] (aCons (eVar 1) (aCons (eC (.int 4)) aNil))) aNil)) (gN 10) (eSeq (eDrop (eMut 8 fAppend (aCons (eTup (aCons (eCall f_l_draw [] (aCons (eVar 1) (aCons (eOpN fLenS (aCons (eVar 4) aNil)) aNil))) (aCons (eOp2 fEq (eCall f_l_draw [] (aCons (eVar 1) (aCons (eC (.int 2)) aNil))) (eC (.int 0))) aNil))) aNil)))
    (eSet 9 (eCall f_l_m_after [] (aCons (eVar 3) (aCons (eVar 4) (aCons (eVar 9) (aCons (eOp2 fIx (eIxO 8 (eOp1 fNeg (eC (.int 1)))) (eC (.int 0))) (aCons (eOp2 fIx (eIxO 8 (eOp1 fNeg (eC (.int 1)))) (eC (.int 1))) aNil)))))))) [10])
    (eSeq (eSet 11 (eCall f_l_due [] (aCons (eVar 3) (aCons (eVar 4) (aCons (eVar 5) (aCons (eVar 9) aNil))))))
    (eSeq (eSet 12 (eCall f_l_pick [] (aCons (eVar 1) (aCons (eLst (aCons (eVar 8) (aCons (eOpN fTuple (aCons (eVar 8) aNil)) aNil))) aNil))))
    (eIf (eNot (eTest (eCall (f_l_same 6) [] (aCons (eLst (aCons (eCall (f_ask_next_e c) [] (aCons (eVar 3) (aCons (eOpN fTuple (aCons (eVar 4) aNil)) (aCons (eVar 12) (aCons (eVar 5) aNil))))) aNil)) (aCons (eLst (aCons (eVar 11) aNil)) aNil))))) (eRet (eC (.bl false))) eSkip))))) [7, 8, 9, 10, 11, 12])
def bl_4 (c : Str → Addr) : ES := (eIf (eTest (eOp2 (fIsN true) (eVar 6) (eC .non))) (eFor (iItems (eVar 3)) (gN 13) (eFor (iItems (eOp2 fAdd (eLst (aCons (eOp1 fNeg (eC (.int 1))) aNil)) (eSl (eCall f_l_mixed [] (aCons (eVar 1) (aCons (eOp1 fRgL (eVar 6)) aNil))) oNone (oSome (eOp2 fMul (eC (.int 2)) (eVar 5)))))) (gN 14) (eSeq (eSet 15 (eCall (f_l_hunted_e c) [] (aCons (eVar 3) (aCons (eVar 4) (aCons (eVar 5) (aCons (eVar 13) (aCons (eVar 14) aNil)))))))
    (eIf (eOr (eTest (eOp2 (fIsN false) (eVar 15) (eC .non))) (eTest (eOp2 (fInt2 fun a b => .bl (decide (b < a))) (eVar 15) (eVar 6)))) (eRet (eC (.bl false))) eSkip)) [14, 15]) [13, 14, 15]) eSkip)
def bs_4 (c : Str → Addr) : ES := bl_4 c
def bs_3 (c : Str → Addr) : ES := eSeq (bl_3 c) (bs_4 c)
def bs_2 (c : Str → Addr) : ES := eSeq (bl_2 c) (bs_3 c)
def bs_1 (c : Str → Addr) : ES := eSeq (bl_1 c) (bs_2 c)
def bs_0 (c : Str → Addr) : ES := eSeq (bl_0 c) (bs_1 c)
@[irreducible] def bq_1 (c : Str → Addr) : ES := (eFor (iRng1 (aCons (eC (.int 3)) aNil)) (gN 2) (bs_0 c) [2, 3, 4, 5, 6, 7, 8, 9, 10, 11, 12, 13, 14, 15])
theorem bq_eq_1 (c : Str → Addr) : bq_1 c = (eFor (iRng1 (aCons (eC (.int 3)) aNil)) (gN 2) (bs_0 c) [2, 3, 4, 5, 6, 7, 8, 9, 10, 11, 12, 13, 14, 15]) := by unfold bq_1; rfl
def bq_2 (c : Str → Addr) : ES := (eRet (eC (.bl true)))
def b_law_e (c : Str → Addr) : ES := eSeq (bq_1 c) (bq_2 c)
end
end DL
set_option Elab.async false
set_option linter.all false
set_option maxRecDepth 100000
set_option maxHeartbeats 0
namespace HD
open PySem PySem.Spec PyProof.Rows L2
def top (i : Nat) : Stmt := PySem.Challenge.pw_patchlots_k81_whole_next_ones_asked.main.body.getD i (.Pass ⟨0, 0, 0, 0⟩)
def inClass (s : Stmt) (i : Nat) : Stmt := match s with
  | .ClassDef _ _ _ b .. => b.getD i (.Pass ⟨0, 0, 0, 0⟩)
  | _ => .Pass ⟨0, 0, 0, 0⟩
abbrev s_l_start : Stmt := top 30
abbrev s_l_draw : Stmt := top 31
abbrev s_l_same : Stmt := top 34
abbrev s_l_mixed : Stmt := top 33
abbrev s_l_m_suspects : Stmt := top 25
abbrev s_Hunt_left_ones : Stmt := inClass (top 18) 4
abbrev s_Hunt_behind_answer : Stmt := inClass (top 18) 2
abbrev s_Hunt_is_right : Stmt := inClass (top 18) 6
abbrev s_Hunt_is_enough : Stmt := inClass (top 18) 5
abbrev s_Hunt_fewest_from : Stmt := inClass (top 18) 8
abbrev s_Hunt_unparted : Stmt := inClass (top 18) 7
abbrev s_Hunt_begun : Stmt := inClass (top 18) 1
abbrev s_fewest_of : Stmt := top 20
abbrev s_is_list : Stmt := top 9
abbrev s_is_name : Stmt := top 11
abbrev s_checked_suspects : Stmt := top 14
abbrev s_are_names : Stmt := top 13
abbrev s_checked_askings : Stmt := top 15
abbrev s_is_integer : Stmt := top 10
abbrev s_checked_lies : Stmt := top 16
abbrev s_Hunt_init : Stmt := inClass (top 18) 0
abbrev s_fewest_askings : Stmt := top 21
abbrev s_l_m_left : Stmt := top 27
abbrev s_l_m_after : Stmt := top 26
abbrev s_l_m_is_enough : Stmt := top 28
abbrev s_l_m_fewest : Stmt := top 29
abbrev s_l_due : Stmt := top 35
abbrev s_l_pick : Stmt := top 32
abbrev s_Hunt_behind_all : Stmt := inClass (top 18) 3
abbrev s_checked_answers : Stmt := top 17
abbrev s_first_right : Stmt := top 22
abbrev s_ask_next : Stmt := top 23
abbrev s_possible_ones : Stmt := top 19
abbrev s_l_hunted : Stmt := top 36
abbrev s_law : Stmt := top 37
abbrev s_BadAnswers : Stmt := inClass (top 2) 0
abbrev s_BadAskings : Stmt := inClass (top 3) 0
abbrev s_BadLies : Stmt := inClass (top 4) 0
abbrev s_BadSuspects : Stmt := inClass (top 5) 0
def d_l_start : He.DefD := ⟨("_law_start", none), "_law_start", "_law_start", defArgs s_l_start, defBody s_l_start, defScope s_l_start, [], []⟩
def d_l_draw : He.DefD := ⟨("_law_draw", none), "_law_draw", "_law_draw", defArgs s_l_draw, defBody s_l_draw, defScope s_l_draw, [], []⟩
def d_l_same : He.DefD := ⟨("_law_same", none), "_law_same", "_law_same", defArgs s_l_same, defBody s_l_same, defScope s_l_same, [], []⟩
def d_l_mixed : He.DefD := ⟨("_law_mixed", none), "_law_mixed", "_law_mixed", defArgs s_l_mixed, defBody s_l_mixed, defScope s_l_mixed, [], []⟩
def d_l_m_suspects : He.DefD := ⟨("_law_m_suspects", none), "_law_m_suspects", "_law_m_suspects", defArgs s_l_m_suspects, defBody s_l_m_suspects, defScope s_l_m_suspects, [], []⟩
def d_Hunt_left_ones : He.DefD := ⟨("Hunt", some "left_ones"), "left_ones", "Hunt.left_ones", defArgs s_Hunt_left_ones, defBody s_Hunt_left_ones, defScope s_Hunt_left_ones, [], []⟩
def d_Hunt_behind_answer : He.DefD := ⟨("Hunt", some "behind_answer"), "behind_answer", "Hunt.behind_answer", defArgs s_Hunt_behind_answer, defBody s_Hunt_behind_answer, defScope s_Hunt_behind_answer, [], []⟩
def d_Hunt_is_right : He.DefD := ⟨("Hunt", some "is_right"), "is_right", "Hunt.is_right", defArgs s_Hunt_is_right, defBody s_Hunt_is_right, defScope s_Hunt_is_right, [], []⟩
def d_Hunt_is_enough : He.DefD := ⟨("Hunt", some "is_enough"), "is_enough", "Hunt.is_enough", defArgs s_Hunt_is_enough, defBody s_Hunt_is_enough, defScope s_Hunt_is_enough, [], []⟩
def d_Hunt_fewest_from : He.DefD := ⟨("Hunt", some "fewest_from"), "fewest_from", "Hunt.fewest_from", defArgs s_Hunt_fewest_from, defBody s_Hunt_fewest_from, defScope s_Hunt_fewest_from, [], []⟩
def d_Hunt_unparted : He.DefD := ⟨("Hunt", some "unparted"), "unparted", "Hunt.unparted", defArgs s_Hunt_unparted, defBody s_Hunt_unparted, defScope s_Hunt_unparted, [], []⟩
def d_Hunt_begun : He.DefD := ⟨("Hunt", some "begun"), "begun", "Hunt.begun", defArgs s_Hunt_begun, defBody s_Hunt_begun, defScope s_Hunt_begun, [], []⟩
def d_fewest_of : He.DefD := ⟨("fewest_of", none), "fewest_of", "fewest_of", defArgs s_fewest_of, defBody s_fewest_of, defScope s_fewest_of, [], []⟩
def d_is_list : He.DefD := ⟨("is_list", none), "is_list", "is_list", defArgs s_is_list, defBody s_is_list, defScope s_is_list, [], []⟩
def d_is_name : He.DefD := ⟨("is_name", none), "is_name", "is_name", defArgs s_is_name, defBody s_is_name, defScope s_is_name, [], []⟩
def d_checked_suspects : He.DefD := ⟨("checked_suspects", none), "checked_suspects", "checked_suspects", defArgs s_checked_suspects, defBody s_checked_suspects, defScope s_checked_suspects, [], []⟩
def d_are_names : He.DefD := ⟨("are_names", none), "are_names", "are_names", defArgs s_are_names, defBody s_are_names, defScope s_are_names, [], []⟩
def d_checked_askings : He.DefD := ⟨("checked_askings", none), "checked_askings", "checked_askings", defArgs s_checked_askings, defBody s_checked_askings, defScope s_checked_askings, [], []⟩
def d_is_integer : He.DefD := ⟨("is_integer", none), "is_integer", "is_integer", defArgs s_is_integer, defBody s_is_integer, defScope s_is_integer, [], []⟩
def d_checked_lies : He.DefD := ⟨("checked_lies", none), "checked_lies", "checked_lies", defArgs s_checked_lies, defBody s_checked_lies, defScope s_checked_lies, [], []⟩
def d_Hunt_init : He.DefD := ⟨("Hunt", some "__init__"), "__init__", "Hunt.__init__", defArgs s_Hunt_init, defBody s_Hunt_init, defScope s_Hunt_init, [], []⟩
def d_fewest_askings : He.DefD := ⟨("fewest_askings", none), "fewest_askings", "fewest_askings", defArgs s_fewest_askings, defBody s_fewest_askings, defScope s_fewest_askings, [.int 0], []⟩
def d_l_m_left : He.DefD := ⟨("_law_m_left", none), "_law_m_left", "_law_m_left", defArgs s_l_m_left, defBody s_l_m_left, defScope s_l_m_left, [], []⟩
def d_l_m_after : He.DefD := ⟨("_law_m_after", none), "_law_m_after", "_law_m_after", defArgs s_l_m_after, defBody s_l_m_after, defScope s_l_m_after, [], []⟩
def d_l_m_is_enough : He.DefD := ⟨("_law_m_is_enough", none), "_law_m_is_enough", "_law_m_is_enough", defArgs s_l_m_is_enough, defBody s_l_m_is_enough, defScope s_l_m_is_enough, [], []⟩
def d_l_m_fewest : He.DefD := ⟨("_law_m_fewest", none), "_law_m_fewest", "_law_m_fewest", defArgs s_l_m_fewest, defBody s_l_m_fewest, defScope s_l_m_fewest, [], []⟩
def d_l_due : He.DefD := ⟨("_law_due", none), "_law_due", "_law_due", defArgs s_l_due, defBody s_l_due, defScope s_l_due, [], []⟩
def d_l_pick : He.DefD := ⟨("_law_pick", none), "_law_pick", "_law_pick", defArgs s_l_pick, defBody s_l_pick, defScope s_l_pick, [], []⟩
def d_Hunt_behind_all : He.DefD := ⟨("Hunt", some "behind_all"), "behind_all", "Hunt.behind_all", defArgs s_Hunt_behind_all, defBody s_Hunt_behind_all, defScope s_Hunt_behind_all, [], []⟩
def d_checked_answers : He.DefD := ⟨("checked_answers", none), "checked_answers", "checked_answers", defArgs s_checked_answers, defBody s_checked_answers, defScope s_checked_answers, [], []⟩
def d_first_right : He.DefD := ⟨("first_right", none), "first_right", "first_right", defArgs s_first_right, defBody s_first_right, defScope s_first_right, [], []⟩
def d_ask_next : He.DefD := ⟨("ask_next", none), "ask_next", "ask_next", defArgs s_ask_next, defBody s_ask_next, defScope s_ask_next, [.int 0], []⟩
def d_possible_ones : He.DefD := ⟨("possible_ones", none), "possible_ones", "possible_ones", defArgs s_possible_ones, defBody s_possible_ones, defScope s_possible_ones, [.int 0], []⟩
def d_l_hunted : He.DefD := ⟨("_law_hunted", none), "_law_hunted", "_law_hunted", defArgs s_l_hunted, defBody s_l_hunted, defScope s_l_hunted, [], []⟩
def d_law : He.DefD := ⟨("law", none), "law", "law", defArgs s_law, defBody s_law, defScope s_law, [], []⟩
def d_BadAnswers : He.DefD := ⟨("BadAnswers", some "__init__"), "__init__", "BadAnswers.__init__", defArgs s_BadAnswers, defBody s_BadAnswers, defScope s_BadAnswers, [], []⟩
def d_BadAskings : He.DefD := ⟨("BadAskings", some "__init__"), "__init__", "BadAskings.__init__", defArgs s_BadAskings, defBody s_BadAskings, defScope s_BadAskings, [], []⟩
def d_BadLies : He.DefD := ⟨("BadLies", some "__init__"), "__init__", "BadLies.__init__", defArgs s_BadLies, defBody s_BadLies, defScope s_BadLies, [], []⟩
def d_BadSuspects : He.DefD := ⟨("BadSuspects", some "__init__"), "__init__", "BadSuspects.__init__", defArgs s_BadSuspects, defBody s_BadSuspects, defScope s_BadSuspects, [], []⟩
def fn : List He.DefD := [d_l_start, d_l_draw, d_l_same, d_l_mixed, d_l_m_suspects, d_Hunt_left_ones, d_Hunt_behind_answer, d_Hunt_is_right, d_Hunt_is_enough, d_Hunt_fewest_from, d_Hunt_unparted, d_Hunt_begun, d_fewest_of, d_is_list, d_is_name, d_checked_suspects, d_are_names, d_checked_askings, d_is_integer, d_checked_lies, d_Hunt_init, d_fewest_askings, d_l_m_left, d_l_m_after, d_l_m_is_enough, d_l_m_fewest, d_l_due, d_l_pick, d_Hunt_behind_all, d_checked_answers, d_first_right, d_ask_next, d_possible_ones, d_l_hunted, d_law, d_BadAnswers, d_BadAskings, d_BadLies, d_BadSuspects]
def fa : List He.Fa := [.glo "_law_start", .glo "_law_draw", .glo "_law_same", .glo "_law_mixed", .glo "_law_m_suspects", .glo "fewest_of", .glo "is_list", .glo "is_name", .glo "checked_suspects", .glo "are_names", .glo "checked_askings", .glo "is_integer", .glo "checked_lies", .glo "fewest_askings", .glo "_law_m_left", .glo "_law_m_after", .glo "_law_m_is_enough", .glo "_law_m_fewest", .glo "_law_due", .glo "_law_pick", .glo "checked_answers", .glo "first_right", .glo "ask_next", .glo "possible_ones", .glo "_law_hunted", .glo "law", .glo "Hunt", .cls "Hunt", .mkr "Hunt", .noat "Hunt" "ones", .noat "Hunt" "most", .noat "Hunt" "signs", .noat "Hunt" "known", .meth "Hunt" "left_ones", .meth "Hunt" "behind_answer", .meth "Hunt" "is_right", .meth "Hunt" "is_enough", .meth "Hunt" "fewest_from", .meth "Hunt" "unparted", .meth "Hunt" "begun", .meth "Hunt" "behind_all", .glo "BadAnswers", .glo "BadAskings", .glo "BadLies", .glo "BadSuspects", .free "all", .free "any", .free "bool", .free "dict", .free "enumerate", .free "int", .free "isinstance", .free "len", .free "list", .free "min", .free "range", .free "set", .free "str", .free "tuple", .free "zip", .str "SMALL" "abcdefghijklmnopqrstuvwxyz", .str "FIGURES" "0123456789"]
def tf : List He.Defn := ([("BadAnswers", some "__init__"), ("BadAskings", some "__init__"), ("BadLies", some "__init__"), ("BadSuspects", some "__init__"), ("is_list", none), ("is_integer", none), ("is_name", none), ("are_names", none), ("checked_suspects", none), ("checked_askings", none), ("checked_lies", none), ("checked_answers", none)] : List He.Defn) ++ ([("Hunt", some "__init__"), ("Hunt", some "begun"), ("Hunt", some "behind_answer"), ("Hunt", some "behind_all"), ("Hunt", some "left_ones"), ("Hunt", some "is_enough"), ("Hunt", some "is_right"), ("Hunt", some "unparted"), ("Hunt", some "fewest_from"), ("possible_ones", none), ("fewest_of", none), ("fewest_askings", none)] : List He.Defn) ++ ([("first_right", none), ("ask_next", none), ("_law_m_suspects", none), ("_law_m_after", none), ("_law_m_left", none), ("_law_m_is_enough", none), ("_law_m_fewest", none), ("_law_start", none), ("_law_draw", none), ("_law_pick", none), ("_law_mixed", none), ("_law_same", none)] : List He.Defn) ++ ([("_law_due", none), ("_law_hunted", none), ("law", none)] : List He.Defn)
def es : List (Str × List Str) := [("BadAnswers", ["index"]), ("BadAskings", ["index"]), ("BadLies", ["thing"]), ("BadSuspects", ["index"])]
def ls : List (He.Defn × Str) := []
abbrev R : PySem.W.OpenRow := PySem.W.OpenLaw.row PySem.Challenge.rw_patchlots_k81_whole_next_ones_asked
abbrev ex : PySem.W.Frag → Bool := DL.exE tf es ls
abbrev hk : PySem.W.Hook := He.hookX 6 fa fn [] tf ex
def ob (s : PySem.W.SharedT) : He.AlX := He.obsX 6 fa fn [] tf ex (HandSHeadRun.getT s)
theorem ob_eq (s : PySem.W.SharedT) : ob s = hk.obs s.abs := He.obsX_eq (HandSHeadRun.getT_eq s)
def loose : List PySem.Str := (["__name__", "PatchError", "BadAnswers", "BadAskings", "BadLies", "BadSuspects", "SMALL", "FIGURES", "is_list", "is_integer", "is_name", "are_names"] : List PySem.Str) ++ (["checked_suspects", "checked_askings", "checked_lies", "checked_answers", "Hunt", "possible_ones", "fewest_of", "fewest_askings", "first_right", "ask_next", "_law_m_suspects", "_law_m_after"] : List PySem.Str) ++ (["_law_m_left", "_law_m_is_enough", "_law_m_fewest", "_law_start", "_law_draw", "_law_pick", "_law_mixed", "_law_same", "_law_due", "_law_hunted"] : List PySem.Str)
theorem run (w : World) : HandSHeadRun.RunEq R (PySem.W.view R.prog [37]) hk ob 4000 loose w := by
  intro os
  kernel_rfl
end HD
set_option Elab.async false
set_option linter.all false
set_option maxRecDepth 100000
set_option maxHeartbeats 4000000
namespace DL
open PySem L2 PyProof.Rows HD
structure MF (K : PySem.W.Frag) (mg : Str → Option Value) where
  fd_l_start : FuncData
  F_l_start : FunD K "_law_start" "_law_start" (defArgs s_l_start) (defBody s_l_start) (defScope s_l_start) [] [] (He.fAd K ("_law_start", none)) fd_l_start
  g_l_start : mg "_law_start" = some (.ref (He.fAd K ("_law_start", none)))
  fd_l_draw : FuncData
  F_l_draw : FunD K "_law_draw" "_law_draw" (defArgs s_l_draw) (defBody s_l_draw) (defScope s_l_draw) [] [] (He.fAd K ("_law_draw", none)) fd_l_draw
  g_l_draw : mg "_law_draw" = some (.ref (He.fAd K ("_law_draw", none)))
  fd_l_same : FuncData
  F_l_same : FunD K "_law_same" "_law_same" (defArgs s_l_same) (defBody s_l_same) (defScope s_l_same) [] [] (He.fAd K ("_law_same", none)) fd_l_same
  g_l_same : mg "_law_same" = some (.ref (He.fAd K ("_law_same", none)))
  fd_l_mixed : FuncData
  F_l_mixed : FunD K "_law_mixed" "_law_mixed" (defArgs s_l_mixed) (defBody s_l_mixed) (defScope s_l_mixed) [] [] (He.fAd K ("_law_mixed", none)) fd_l_mixed
  g_l_mixed : mg "_law_mixed" = some (.ref (He.fAd K ("_law_mixed", none)))
  fd_l_m_suspects : FuncData
  F_l_m_suspects : FunD K "_law_m_suspects" "_law_m_suspects" (defArgs s_l_m_suspects) (defBody s_l_m_suspects) (defScope s_l_m_suspects) [] [] (He.fAd K ("_law_m_suspects", none)) fd_l_m_suspects
  g_l_m_suspects : mg "_law_m_suspects" = some (.ref (He.fAd K ("_law_m_suspects", none)))
  fd_Hunt_left_ones : FuncData
  F_Hunt_left_ones : FunD K "left_ones" "Hunt.left_ones" (defArgs s_Hunt_left_ones) (defBody s_Hunt_left_ones) (defScope s_Hunt_left_ones) [] [] (He.fAd K ("Hunt", some "left_ones")) fd_Hunt_left_ones
  me_Hunt_left_ones : Meth K (He.ga K "Hunt") "left_ones" (He.fAd K ("Hunt", some "left_ones"))
  fd_Hunt_behind_answer : FuncData
  F_Hunt_behind_answer : FunD K "behind_answer" "Hunt.behind_answer" (defArgs s_Hunt_behind_answer) (defBody s_Hunt_behind_answer) (defScope s_Hunt_behind_answer) [] [] (He.fAd K ("Hunt", some "behind_answer")) fd_Hunt_behind_answer
  me_Hunt_behind_answer : Meth K (He.ga K "Hunt") "behind_answer" (He.fAd K ("Hunt", some "behind_answer"))
  fd_Hunt_is_right : FuncData
  F_Hunt_is_right : FunD K "is_right" "Hunt.is_right" (defArgs s_Hunt_is_right) (defBody s_Hunt_is_right) (defScope s_Hunt_is_right) [] [] (He.fAd K ("Hunt", some "is_right")) fd_Hunt_is_right
  me_Hunt_is_right : Meth K (He.ga K "Hunt") "is_right" (He.fAd K ("Hunt", some "is_right"))
  fd_Hunt_is_enough : FuncData
  F_Hunt_is_enough : FunD K "is_enough" "Hunt.is_enough" (defArgs s_Hunt_is_enough) (defBody s_Hunt_is_enough) (defScope s_Hunt_is_enough) [] [] (He.fAd K ("Hunt", some "is_enough")) fd_Hunt_is_enough
  me_Hunt_is_enough : Meth K (He.ga K "Hunt") "is_enough" (He.fAd K ("Hunt", some "is_enough"))
  fd_Hunt_fewest_from : FuncData
  F_Hunt_fewest_from : FunD K "fewest_from" "Hunt.fewest_from" (defArgs s_Hunt_fewest_from) (defBody s_Hunt_fewest_from) (defScope s_Hunt_fewest_from) [] [] (He.fAd K ("Hunt", some "fewest_from")) fd_Hunt_fewest_from
  me_Hunt_fewest_from : Meth K (He.ga K "Hunt") "fewest_from" (He.fAd K ("Hunt", some "fewest_from"))
  fd_Hunt_unparted : FuncData
  F_Hunt_unparted : FunD K "unparted" "Hunt.unparted" (defArgs s_Hunt_unparted) (defBody s_Hunt_unparted) (defScope s_Hunt_unparted) [] [] (He.fAd K ("Hunt", some "unparted")) fd_Hunt_unparted
  me_Hunt_unparted : Meth K (He.ga K "Hunt") "unparted" (He.fAd K ("Hunt", some "unparted"))
  fd_Hunt_begun : FuncData
  F_Hunt_begun : FunD K "begun" "Hunt.begun" (defArgs s_Hunt_begun) (defBody s_Hunt_begun) (defScope s_Hunt_begun) [] [] (He.fAd K ("Hunt", some "begun")) fd_Hunt_begun
  me_Hunt_begun : Meth K (He.ga K "Hunt") "begun" (He.fAd K ("Hunt", some "begun"))
  fd_fewest_of : FuncData
  F_fewest_of : FunD K "fewest_of" "fewest_of" (defArgs s_fewest_of) (defBody s_fewest_of) (defScope s_fewest_of) [] [] (He.fAd K ("fewest_of", none)) fd_fewest_of
  g_fewest_of : mg "fewest_of" = some (.ref (He.fAd K ("fewest_of", none)))
  fd_is_list : FuncData
  F_is_list : FunD K "is_list" "is_list" (defArgs s_is_list) (defBody s_is_list) (defScope s_is_list) [] [] (He.fAd K ("is_list", none)) fd_is_list
  g_is_list : mg "is_list" = some (.ref (He.fAd K ("is_list", none)))
  fd_is_name : FuncData
  F_is_name : FunD K "is_name" "is_name" (defArgs s_is_name) (defBody s_is_name) (defScope s_is_name) [] [] (He.fAd K ("is_name", none)) fd_is_name
  g_is_name : mg "is_name" = some (.ref (He.fAd K ("is_name", none)))
  fd_checked_suspects : FuncData
  F_checked_suspects : FunD K "checked_suspects" "checked_suspects" (defArgs s_checked_suspects) (defBody s_checked_suspects) (defScope s_checked_suspects) [] [] (He.fAd K ("checked_suspects", none)) fd_checked_suspects
  g_checked_suspects : mg "checked_suspects" = some (.ref (He.fAd K ("checked_suspects", none)))
  fd_are_names : FuncData
  F_are_names : FunD K "are_names" "are_names" (defArgs s_are_names) (defBody s_are_names) (defScope s_are_names) [] [] (He.fAd K ("are_names", none)) fd_are_names
  g_are_names : mg "are_names" = some (.ref (He.fAd K ("are_names", none)))
  fd_checked_askings : FuncData
  F_checked_askings : FunD K "checked_askings" "checked_askings" (defArgs s_checked_askings) (defBody s_checked_askings) (defScope s_checked_askings) [] [] (He.fAd K ("checked_askings", none)) fd_checked_askings
  g_checked_askings : mg "checked_askings" = some (.ref (He.fAd K ("checked_askings", none)))
  fd_is_integer : FuncData
  F_is_integer : FunD K "is_integer" "is_integer" (defArgs s_is_integer) (defBody s_is_integer) (defScope s_is_integer) [] [] (He.fAd K ("is_integer", none)) fd_is_integer
  g_is_integer : mg "is_integer" = some (.ref (He.fAd K ("is_integer", none)))
  fd_checked_lies : FuncData
  F_checked_lies : FunD K "checked_lies" "checked_lies" (defArgs s_checked_lies) (defBody s_checked_lies) (defScope s_checked_lies) [] [] (He.fAd K ("checked_lies", none)) fd_checked_lies
  g_checked_lies : mg "checked_lies" = some (.ref (He.fAd K ("checked_lies", none)))
  fd_Hunt_init : FuncData
  F_Hunt_init : FunD K "__init__" "Hunt.__init__" (defArgs s_Hunt_init) (defBody s_Hunt_init) (defScope s_Hunt_init) [] [] (He.fAd K ("Hunt", some "__init__")) fd_Hunt_init
  fd_fewest_askings : FuncData
  F_fewest_askings : FunD K "fewest_askings" "fewest_askings" (defArgs s_fewest_askings) (defBody s_fewest_askings) (defScope s_fewest_askings) [.int 0] [] (He.fAd K ("fewest_askings", none)) fd_fewest_askings
  g_fewest_askings : mg "fewest_askings" = some (.ref (He.fAd K ("fewest_askings", none)))
  fd_l_m_left : FuncData
  F_l_m_left : FunD K "_law_m_left" "_law_m_left" (defArgs s_l_m_left) (defBody s_l_m_left) (defScope s_l_m_left) [] [] (He.fAd K ("_law_m_left", none)) fd_l_m_left
  g_l_m_left : mg "_law_m_left" = some (.ref (He.fAd K ("_law_m_left", none)))
  fd_l_m_after : FuncData
  F_l_m_after : FunD K "_law_m_after" "_law_m_after" (defArgs s_l_m_after) (defBody s_l_m_after) (defScope s_l_m_after) [] [] (He.fAd K ("_law_m_after", none)) fd_l_m_after
  g_l_m_after : mg "_law_m_after" = some (.ref (He.fAd K ("_law_m_after", none)))
  fd_l_m_is_enough : FuncData
  F_l_m_is_enough : FunD K "_law_m_is_enough" "_law_m_is_enough" (defArgs s_l_m_is_enough) (defBody s_l_m_is_enough) (defScope s_l_m_is_enough) [] [] (He.fAd K ("_law_m_is_enough", none)) fd_l_m_is_enough
  g_l_m_is_enough : mg "_law_m_is_enough" = some (.ref (He.fAd K ("_law_m_is_enough", none)))
  fd_l_m_fewest : FuncData
  F_l_m_fewest : FunD K "_law_m_fewest" "_law_m_fewest" (defArgs s_l_m_fewest) (defBody s_l_m_fewest) (defScope s_l_m_fewest) [] [] (He.fAd K ("_law_m_fewest", none)) fd_l_m_fewest
  g_l_m_fewest : mg "_law_m_fewest" = some (.ref (He.fAd K ("_law_m_fewest", none)))
  fd_l_due : FuncData
  F_l_due : FunD K "_law_due" "_law_due" (defArgs s_l_due) (defBody s_l_due) (defScope s_l_due) [] [] (He.fAd K ("_law_due", none)) fd_l_due
  g_l_due : mg "_law_due" = some (.ref (He.fAd K ("_law_due", none)))
  fd_l_pick : FuncData
  F_l_pick : FunD K "_law_pick" "_law_pick" (defArgs s_l_pick) (defBody s_l_pick) (defScope s_l_pick) [] [] (He.fAd K ("_law_pick", none)) fd_l_pick
  g_l_pick : mg "_law_pick" = some (.ref (He.fAd K ("_law_pick", none)))
  fd_Hunt_behind_all : FuncData
  F_Hunt_behind_all : FunD K "behind_all" "Hunt.behind_all" (defArgs s_Hunt_behind_all) (defBody s_Hunt_behind_all) (defScope s_Hunt_behind_all) [] [] (He.fAd K ("Hunt", some "behind_all")) fd_Hunt_behind_all
  me_Hunt_behind_all : Meth K (He.ga K "Hunt") "behind_all" (He.fAd K ("Hunt", some "behind_all"))
  fd_checked_answers : FuncData
  F_checked_answers : FunD K "checked_answers" "checked_answers" (defArgs s_checked_answers) (defBody s_checked_answers) (defScope s_checked_answers) [] [] (He.fAd K ("checked_answers", none)) fd_checked_answers
  g_checked_answers : mg "checked_answers" = some (.ref (He.fAd K ("checked_answers", none)))
  fd_first_right : FuncData
  F_first_right : FunD K "first_right" "first_right" (defArgs s_first_right) (defBody s_first_right) (defScope s_first_right) [] [] (He.fAd K ("first_right", none)) fd_first_right
  g_first_right : mg "first_right" = some (.ref (He.fAd K ("first_right", none)))
  fd_ask_next : FuncData
  F_ask_next : FunD K "ask_next" "ask_next" (defArgs s_ask_next) (defBody s_ask_next) (defScope s_ask_next) [.int 0] [] (He.fAd K ("ask_next", none)) fd_ask_next
  g_ask_next : mg "ask_next" = some (.ref (He.fAd K ("ask_next", none)))
  fd_possible_ones : FuncData
  F_possible_ones : FunD K "possible_ones" "possible_ones" (defArgs s_possible_ones) (defBody s_possible_ones) (defScope s_possible_ones) [.int 0] [] (He.fAd K ("possible_ones", none)) fd_possible_ones
  g_possible_ones : mg "possible_ones" = some (.ref (He.fAd K ("possible_ones", none)))
  fd_l_hunted : FuncData
  F_l_hunted : FunD K "_law_hunted" "_law_hunted" (defArgs s_l_hunted) (defBody s_l_hunted) (defScope s_l_hunted) [] [] (He.fAd K ("_law_hunted", none)) fd_l_hunted
  g_l_hunted : mg "_law_hunted" = some (.ref (He.fAd K ("_law_hunted", none)))
  fd_law : FuncData
  F_law : FunD K "law" "law" (defArgs s_law) (defBody s_law) (defScope s_law) [] [] (He.fAd K ("law", none)) fd_law
  g_law : mg "law" = some (.ref (He.fAd K ("law", none)))
  fd_BadAnswers : FuncData
  F_BadAnswers : FunD K "__init__" "BadAnswers.__init__" (defArgs s_BadAnswers) (defBody s_BadAnswers) (defScope s_BadAnswers) [] [] (He.fAd K ("BadAnswers", some "__init__")) fd_BadAnswers
  g_BadAnswers : mg "BadAnswers" = some (.ref (He.ga K "BadAnswers"))
  e_BadAnswers : ErrK K "BadAnswers" ["index"]
  fd_BadAskings : FuncData
  F_BadAskings : FunD K "__init__" "BadAskings.__init__" (defArgs s_BadAskings) (defBody s_BadAskings) (defScope s_BadAskings) [] [] (He.fAd K ("BadAskings", some "__init__")) fd_BadAskings
  g_BadAskings : mg "BadAskings" = some (.ref (He.ga K "BadAskings"))
  e_BadAskings : ErrK K "BadAskings" ["index"]
  fd_BadLies : FuncData
  F_BadLies : FunD K "__init__" "BadLies.__init__" (defArgs s_BadLies) (defBody s_BadLies) (defScope s_BadLies) [] [] (He.fAd K ("BadLies", some "__init__")) fd_BadLies
  g_BadLies : mg "BadLies" = some (.ref (He.ga K "BadLies"))
  e_BadLies : ErrK K "BadLies" ["thing"]
  fd_BadSuspects : FuncData
  F_BadSuspects : FunD K "__init__" "BadSuspects.__init__" (defArgs s_BadSuspects) (defBody s_BadSuspects) (defScope s_BadSuspects) [] [] (He.fAd K ("BadSuspects", some "__init__")) fd_BadSuspects
  g_BadSuspects : mg "BadSuspects" = some (.ref (He.ga K "BadSuspects"))
  e_BadSuspects : ErrK K "BadSuspects" ["index"]
  cls_Hunt : Cls K (He.ga K "Hunt")
  mk_Hunt : Mk K (He.ga K "Hunt") (He.fAd K ("Hunt", some "__init__"))
  g_Hunt : mg "Hunt" = some (.ref (He.ga K "Hunt"))
  noat_Hunt_ones : NoAttr K (He.ga K "Hunt") "ones"
  noat_Hunt_most : NoAttr K (He.ga K "Hunt") "most"
  noat_Hunt_signs : NoAttr K (He.ga K "Hunt") "signs"
  noat_Hunt_known : NoAttr K (He.ga K "Hunt") "known"
  errs : Errs K (cs_l (He.ga K))
  free_all : mg "all" = none
  free_any : mg "any" = none
  free_bool : mg "bool" = none
  free_dict : mg "dict" = none
  free_enumerate : mg "enumerate" = none
  free_int : mg "int" = none
  free_isinstance : mg "isinstance" = none
  free_len : mg "len" = none
  free_list : mg "list" = none
  free_min : mg "min" = none
  free_range : mg "range" = none
  free_set : mg "set" = none
  free_str : mg "str" = none
  free_tuple : mg "tuple" = none
  free_zip : mg "zip" = none
  c_SMALL : ∃ t, mg "SMALL" = some (.str "abcdefghijklmnopqrstuvwxyz" t)
  c_FIGURES : ∃ t, mg "FIGURES" = some (.str "0123456789" t)
theorem sc_l_start : FnScope ["_law_script"] ["_law_script"] (defScope s_l_start) := ⟨rfl, rfl, rfl, by decide +kernel, rfl, by decide +kernel, by decide +kernel⟩
theorem sc_l_draw : FnScope ["_law_stream", "_law_many", "_law_cell", "_law_digit", "_law_mixed_here"] ["_law_stream", "_law_many"] (defScope s_l_draw) := ⟨rfl, rfl, rfl, by decide +kernel, rfl, by decide +kernel, by decide +kernel⟩
theorem sc_l_same : FnScope ["_law_found", "_law_due_here", "_law_x", "_law_y"] ["_law_found", "_law_due_here"] (defScope s_l_same) := ⟨rfl, rfl, rfl, by decide +kernel, rfl, by decide +kernel, by decide +kernel⟩
theorem sc_l_mixed : FnScope ["_law_stream", "_law_some", "_law_left", "_law_k"] ["_law_stream", "_law_some"] (defScope s_l_mixed) := ⟨rfl, rfl, rfl, by decide +kernel, rfl, by decide +kernel, by decide +kernel⟩
theorem sc_l_m_suspects : FnScope ["_law_stream", "_law_most", "_law_names", "_law_askings", "_law_way", "_law_at", "_law_k", "_law_name"] ["_law_stream", "_law_most"] (defScope s_l_m_suspects) := ⟨rfl, rfl, rfl, by decide +kernel, rfl, by decide +kernel, by decide +kernel⟩
theorem sc_Hunt_left_ones : FnScope ["self", "state", "one", "wrong"] ["self", "state"] (defScope s_Hunt_left_ones) := ⟨rfl, rfl, rfl, by decide +kernel, rfl, by decide +kernel, by decide +kernel⟩
theorem sc_Hunt_behind_answer : FnScope ["self", "state", "index", "answer", "pairs", "wrong", "sign"] ["self", "state", "index", "answer"] (defScope s_Hunt_behind_answer) := ⟨rfl, rfl, rfl, by decide +kernel, rfl, by decide +kernel, by decide +kernel⟩
theorem sc_Hunt_is_right : FnScope ["self", "state", "index", "many"] ["self", "state", "index", "many"] (defScope s_Hunt_is_right) := ⟨rfl, rfl, rfl, by decide +kernel, rfl, by decide +kernel, by decide +kernel⟩
theorem sc_Hunt_is_enough : FnScope ["self", "state", "many", "index"] ["self", "state", "many"] (defScope s_Hunt_is_enough) := ⟨rfl, rfl, rfl, by decide +kernel, rfl, by decide +kernel, by decide +kernel⟩
theorem sc_Hunt_fewest_from : FnScope ["self", "state", "top", "many"] ["self", "state"] (defScope s_Hunt_fewest_from) := ⟨rfl, rfl, rfl, by decide +kernel, rfl, by decide +kernel, by decide +kernel⟩
theorem sc_Hunt_unparted : FnScope ["self", "at", "one", "to", "row"] ["self"] (defScope s_Hunt_unparted) := ⟨rfl, rfl, rfl, by decide +kernel, rfl, by decide +kernel, by decide +kernel⟩
theorem sc_Hunt_begun : FnScope ["self"] ["self"] (defScope s_Hunt_begun) := ⟨rfl, rfl, rfl, by decide +kernel, rfl, by decide +kernel, by decide +kernel⟩
theorem sc_fewest_of : FnScope ["hunt"] ["hunt"] (defScope s_fewest_of) := ⟨rfl, rfl, rfl, by decide +kernel, rfl, by decide +kernel, by decide +kernel⟩
theorem sc_is_list : FnScope ["thing"] ["thing"] (defScope s_is_list) := ⟨rfl, rfl, rfl, by decide +kernel, rfl, by decide +kernel, by decide +kernel⟩
theorem sc_is_name : FnScope ["thing", "sign"] ["thing"] (defScope s_is_name) := ⟨rfl, rfl, rfl, by decide +kernel, rfl, by decide +kernel, by decide +kernel⟩
theorem sc_checked_suspects : FnScope ["thing", "index", "one"] ["thing"] (defScope s_checked_suspects) := ⟨rfl, rfl, rfl, by decide +kernel, rfl, by decide +kernel, by decide +kernel⟩
theorem sc_are_names : FnScope ["thing", "one"] ["thing"] (defScope s_are_names) := ⟨rfl, rfl, rfl, by decide +kernel, rfl, by decide +kernel, by decide +kernel⟩
theorem sc_checked_askings : FnScope ["thing", "index", "some"] ["thing"] (defScope s_checked_askings) := ⟨rfl, rfl, rfl, by decide +kernel, rfl, by decide +kernel, by decide +kernel⟩
theorem sc_is_integer : FnScope ["thing"] ["thing"] (defScope s_is_integer) := ⟨rfl, rfl, rfl, by decide +kernel, rfl, by decide +kernel, by decide +kernel⟩
theorem sc_checked_lies : FnScope ["thing"] ["thing"] (defScope s_checked_lies) := ⟨rfl, rfl, rfl, by decide +kernel, rfl, by decide +kernel, by decide +kernel⟩
theorem sc_Hunt_init : FnScope ["self", "suspects", "askings", "lies", "some", "row", "one"] ["self", "suspects", "askings", "lies"] (defScope s_Hunt_init) := ⟨rfl, rfl, rfl, by decide +kernel, rfl, by decide +kernel, by decide +kernel⟩
theorem sc_fewest_askings : FnScope ["suspects", "askings", "lies"] ["suspects", "askings", "lies"] (defScope s_fewest_askings) := ⟨rfl, rfl, rfl, by decide +kernel, rfl, by decide +kernel, by decide +kernel⟩
theorem sc_l_m_left : FnScope ["_law_names", "_law_state", "_law_lies", "_law_name", "_law_many"] ["_law_names", "_law_state", "_law_lies"] (defScope s_l_m_left) := ⟨rfl, rfl, rfl, by decide +kernel, rfl, by decide +kernel, by decide +kernel⟩
theorem sc_l_m_after : FnScope ["_law_names", "_law_askings", "_law_state", "_law_index", "_law_answer", "_law_name", "_law_many"] ["_law_names", "_law_askings", "_law_state", "_law_index", "_law_answer"] (defScope s_l_m_after) := ⟨rfl, rfl, rfl, by decide +kernel, rfl, by decide +kernel, by decide +kernel⟩
theorem sc_l_m_is_enough : FnScope ["_law_names", "_law_askings", "_law_lies", "_law_state", "_law_many", "_law_known", "_law_one", "_law_index", "_law_ends", "_law_answer", "_law_end"] ["_law_names", "_law_askings", "_law_lies", "_law_state", "_law_many", "_law_known"] (defScope s_l_m_is_enough) := ⟨rfl, rfl, rfl, by decide +kernel, rfl, by decide +kernel, by decide +kernel⟩
theorem sc_l_m_fewest : FnScope ["_law_names", "_law_askings", "_law_lies", "_law_state", "_law_left", "_law_known", "_law_signs", "_law_name", "_law_row", "_law_at", "_law_sign", "_law_many"] ["_law_names", "_law_askings", "_law_lies", "_law_state"] (defScope s_l_m_fewest) := ⟨rfl, rfl, rfl, by decide +kernel, rfl, by decide +kernel, by decide +kernel⟩
theorem sc_l_due : FnScope ["_law_names", "_law_askings", "_law_lies", "_law_state", "_law_few", "_law_index", "_law_ends", "_law_answer", "_law_end"] ["_law_names", "_law_askings", "_law_lies", "_law_state"] (defScope s_l_due) := ⟨rfl, rfl, rfl, by decide +kernel, rfl, by decide +kernel, by decide +kernel⟩
theorem sc_l_pick : FnScope ["_law_stream", "_law_some"] ["_law_stream", "_law_some"] (defScope s_l_pick) := ⟨rfl, rfl, rfl, by decide +kernel, rfl, by decide +kernel, by decide +kernel⟩
theorem sc_Hunt_behind_all : FnScope ["self", "answers", "state", "index", "answer"] ["self", "answers"] (defScope s_Hunt_behind_all) := ⟨rfl, rfl, rfl, by decide +kernel, rfl, by decide +kernel, by decide +kernel⟩
theorem sc_checked_answers : FnScope ["thing", "many", "index", "pair"] ["thing", "many"] (defScope s_checked_answers) := ⟨rfl, rfl, rfl, by decide +kernel, rfl, by decide +kernel, by decide +kernel⟩
theorem sc_first_right : FnScope ["hunt", "state", "many", "index"] ["hunt", "state", "many"] (defScope s_first_right) := ⟨rfl, rfl, rfl, by decide +kernel, rfl, by decide +kernel, by decide +kernel⟩
theorem sc_ask_next : FnScope ["suspects", "askings", "answers", "lies", "hunt", "state", "many"] ["suspects", "askings", "answers", "lies"] (defScope s_ask_next) := ⟨rfl, rfl, rfl, by decide +kernel, rfl, by decide +kernel, by decide +kernel⟩
theorem sc_possible_ones : FnScope ["suspects", "askings", "answers", "lies", "hunt"] ["suspects", "askings", "answers", "lies"] (defScope s_possible_ones) := ⟨rfl, rfl, rfl, by decide +kernel, rfl, by decide +kernel, by decide +kernel⟩
theorem sc_l_hunted : FnScope ["_law_names", "_law_askings", "_law_lies", "_law_one", "_law_late", "_law_answers", "_law_index", "_law_answer"] ["_law_names", "_law_askings", "_law_lies", "_law_one", "_law_late"] (defScope s_l_hunted) := ⟨rfl, rfl, rfl, by decide +kernel, rfl, by decide +kernel, by decide +kernel⟩
theorem sc_law : FnScope ["_law_script", "_law_stream", "_law_turn", "_law_names", "_law_askings", "_law_lies", "_law_few", "_law_again", "_law_answers", "_law_state", "_law_k", "_law_due_here", "_law_handed", "_law_one", "_law_late", "_law_many"] ["_law_script"] (defScope s_law) := ⟨rfl, rfl, rfl, by decide +kernel, rfl, by decide +kernel, by decide +kernel⟩
theorem sc_BadAnswers : FnScope ["self", "index"] ["self", "index"] (defScope s_BadAnswers) := ⟨rfl, rfl, rfl, by decide +kernel, rfl, by decide +kernel, by decide +kernel⟩
theorem sc_BadAskings : FnScope ["self", "index"] ["self", "index"] (defScope s_BadAskings) := ⟨rfl, rfl, rfl, by decide +kernel, rfl, by decide +kernel, by decide +kernel⟩
theorem sc_BadLies : FnScope ["self", "thing"] ["self", "thing"] (defScope s_BadLies) := ⟨rfl, rfl, rfl, by decide +kernel, rfl, by decide +kernel, by decide +kernel⟩
theorem sc_BadSuspects : FnScope ["self", "index"] ["self", "index"] (defScope s_BadSuspects) := ⟨rfl, rfl, rfl, by decide +kernel, rfl, by decide +kernel, by decide +kernel⟩
section
variable {P : Program} {w : World} {K : PySem.W.Frag} {mg : Str → Option Value} {base : Heap}
theorem bi_l_start (M : MF K mg) : Binds K M.fd_l_start ["_law_script"] [] := M.F_l_start.bindsN fun _ _ _ _ _ _ us hl => match us, hl with | [_], _ => rfl
theorem bi_l_draw (M : MF K mg) : Binds K M.fd_l_draw ["_law_stream", "_law_many"] [] := M.F_l_draw.bindsN fun _ _ _ _ _ _ us hl => match us, hl with | [_, _], _ => rfl
theorem bi_l_same (M : MF K mg) : Binds K M.fd_l_same ["_law_found", "_law_due_here"] [] := M.F_l_same.bindsN fun _ _ _ _ _ _ us hl => match us, hl with | [_, _], _ => rfl
theorem bi_l_mixed (M : MF K mg) : Binds K M.fd_l_mixed ["_law_stream", "_law_some"] [] := M.F_l_mixed.bindsN fun _ _ _ _ _ _ us hl => match us, hl with | [_, _], _ => rfl
theorem bi_l_m_suspects (M : MF K mg) : Binds K M.fd_l_m_suspects ["_law_stream", "_law_most"] [] := M.F_l_m_suspects.bindsN fun _ _ _ _ _ _ us hl => match us, hl with | [_, _], _ => rfl
theorem bi_Hunt_left_ones (M : MF K mg) : Binds K M.fd_Hunt_left_ones ["self", "state"] [] := M.F_Hunt_left_ones.bindsN fun _ _ _ _ _ _ us hl => match us, hl with | [_, _], _ => rfl
theorem bi_Hunt_behind_answer (M : MF K mg) : Binds K M.fd_Hunt_behind_answer ["self", "state", "index", "answer"] [] := M.F_Hunt_behind_answer.bindsN fun _ _ _ _ _ _ us hl => match us, hl with | [_, _, _, _], _ => rfl
theorem bi_Hunt_is_right (M : MF K mg) : Binds K M.fd_Hunt_is_right ["self", "state", "index", "many"] [] := M.F_Hunt_is_right.bindsN fun _ _ _ _ _ _ us hl => match us, hl with | [_, _, _, _], _ => rfl
theorem bi_Hunt_is_enough (M : MF K mg) : Binds K M.fd_Hunt_is_enough ["self", "state", "many"] [] := M.F_Hunt_is_enough.bindsN fun _ _ _ _ _ _ us hl => match us, hl with | [_, _, _], _ => rfl
theorem bi_Hunt_fewest_from (M : MF K mg) : Binds K M.fd_Hunt_fewest_from ["self", "state"] [] := M.F_Hunt_fewest_from.bindsN fun _ _ _ _ _ _ us hl => match us, hl with | [_, _], _ => rfl
theorem bi_Hunt_unparted (M : MF K mg) : Binds K M.fd_Hunt_unparted ["self"] [] := M.F_Hunt_unparted.bindsN fun _ _ _ _ _ _ us hl => match us, hl with | [_], _ => rfl
theorem bi_Hunt_begun (M : MF K mg) : Binds K M.fd_Hunt_begun ["self"] [] := M.F_Hunt_begun.bindsN fun _ _ _ _ _ _ us hl => match us, hl with | [_], _ => rfl
theorem bi_fewest_of (M : MF K mg) : Binds K M.fd_fewest_of ["hunt"] [] := M.F_fewest_of.bindsN fun _ _ _ _ _ _ us hl => match us, hl with | [_], _ => rfl
theorem bi_is_list (M : MF K mg) : Binds K M.fd_is_list ["thing"] [] := M.F_is_list.bindsN fun _ _ _ _ _ _ us hl => match us, hl with | [_], _ => rfl
theorem bi_is_name (M : MF K mg) : Binds K M.fd_is_name ["thing"] [] := M.F_is_name.bindsN fun _ _ _ _ _ _ us hl => match us, hl with | [_], _ => rfl
theorem bi_checked_suspects (M : MF K mg) : Binds K M.fd_checked_suspects ["thing"] [] := M.F_checked_suspects.bindsN fun _ _ _ _ _ _ us hl => match us, hl with | [_], _ => rfl
theorem bi_are_names (M : MF K mg) : Binds K M.fd_are_names ["thing"] [] := M.F_are_names.bindsN fun _ _ _ _ _ _ us hl => match us, hl with | [_], _ => rfl
theorem bi_checked_askings (M : MF K mg) : Binds K M.fd_checked_askings ["thing"] [] := M.F_checked_askings.bindsN fun _ _ _ _ _ _ us hl => match us, hl with | [_], _ => rfl
theorem bi_is_integer (M : MF K mg) : Binds K M.fd_is_integer ["thing"] [] := M.F_is_integer.bindsN fun _ _ _ _ _ _ us hl => match us, hl with | [_], _ => rfl
theorem bi_checked_lies (M : MF K mg) : Binds K M.fd_checked_lies ["thing"] [] := M.F_checked_lies.bindsN fun _ _ _ _ _ _ us hl => match us, hl with | [_], _ => rfl
theorem bi_Hunt_init (M : MF K mg) : Binds K M.fd_Hunt_init ["self", "suspects", "askings", "lies"] [] := M.F_Hunt_init.bindsN fun _ _ _ _ _ _ us hl => match us, hl with | [_, _, _, _], _ => rfl
theorem bi_l_m_left (M : MF K mg) : Binds K M.fd_l_m_left ["_law_names", "_law_state", "_law_lies"] [] := M.F_l_m_left.bindsN fun _ _ _ _ _ _ us hl => match us, hl with | [_, _, _], _ => rfl
theorem bi_l_m_after (M : MF K mg) : Binds K M.fd_l_m_after ["_law_names", "_law_askings", "_law_state", "_law_index", "_law_answer"] [] := M.F_l_m_after.bindsN fun _ _ _ _ _ _ us hl => match us, hl with | [_, _, _, _, _], _ => rfl
theorem bi_l_m_is_enough (M : MF K mg) : Binds K M.fd_l_m_is_enough ["_law_names", "_law_askings", "_law_lies", "_law_state", "_law_many", "_law_known"] [] := M.F_l_m_is_enough.bindsN fun _ _ _ _ _ _ us hl => match us, hl with | [_, _, _, _, _, _], _ => rfl
theorem bi_l_m_fewest (M : MF K mg) : Binds K M.fd_l_m_fewest ["_law_names", "_law_askings", "_law_lies", "_law_state"] [] := M.F_l_m_fewest.bindsN fun _ _ _ _ _ _ us hl => match us, hl with | [_, _, _, _], _ => rfl
theorem bi_l_due (M : MF K mg) : Binds K M.fd_l_due ["_law_names", "_law_askings", "_law_lies", "_law_state"] [] := M.F_l_due.bindsN fun _ _ _ _ _ _ us hl => match us, hl with | [_, _, _, _], _ => rfl
theorem bi_l_pick (M : MF K mg) : Binds K M.fd_l_pick ["_law_stream", "_law_some"] [] := M.F_l_pick.bindsN fun _ _ _ _ _ _ us hl => match us, hl with | [_, _], _ => rfl
theorem bi_Hunt_behind_all (M : MF K mg) : Binds K M.fd_Hunt_behind_all ["self", "answers"] [] := M.F_Hunt_behind_all.bindsN fun _ _ _ _ _ _ us hl => match us, hl with | [_, _], _ => rfl
theorem bi_checked_answers (M : MF K mg) : Binds K M.fd_checked_answers ["thing", "many"] [] := M.F_checked_answers.bindsN fun _ _ _ _ _ _ us hl => match us, hl with | [_, _], _ => rfl
theorem bi_first_right (M : MF K mg) : Binds K M.fd_first_right ["hunt", "state", "many"] [] := M.F_first_right.bindsN fun _ _ _ _ _ _ us hl => match us, hl with | [_, _, _], _ => rfl
theorem bi_l_hunted (M : MF K mg) : Binds K M.fd_l_hunted ["_law_names", "_law_askings", "_law_lies", "_law_one", "_law_late"] [] := M.F_l_hunted.bindsN fun _ _ _ _ _ _ us hl => match us, hl with | [_, _, _, _, _], _ => rfl
theorem bi_BadAnswers (M : MF K mg) : Binds K M.fd_BadAnswers ["self", "index"] [] := M.F_BadAnswers.bindsN fun _ _ _ _ _ _ us hl => match us, hl with | [_, _], _ => rfl
theorem ok_i_BadAnswers (M : MF K mg) : FnOk P w K mg base (L2.CX P w) 1 (He.fAd K ("BadAnswers", some "__init__")) M.fd_BadAnswers ["self", "index"] (spX1 (He.ga K "BadAnswers") "index") := okX1 M.F_BadAnswers rfl sc_BadAnswers M.e_BadAnswers.T (M.e_BadAnswers.no _ (by simp)) (fun _ _ _ _ _ _ => pv 0) (fun _ _ _ _ _ _ => pv 1)
theorem bi_BadAskings (M : MF K mg) : Binds K M.fd_BadAskings ["self", "index"] [] := M.F_BadAskings.bindsN fun _ _ _ _ _ _ us hl => match us, hl with | [_, _], _ => rfl
theorem ok_i_BadAskings (M : MF K mg) : FnOk P w K mg base (L2.CX P w) 1 (He.fAd K ("BadAskings", some "__init__")) M.fd_BadAskings ["self", "index"] (spX1 (He.ga K "BadAskings") "index") := okX1 M.F_BadAskings rfl sc_BadAskings M.e_BadAskings.T (M.e_BadAskings.no _ (by simp)) (fun _ _ _ _ _ _ => pv 0) (fun _ _ _ _ _ _ => pv 1)
theorem bi_BadLies (M : MF K mg) : Binds K M.fd_BadLies ["self", "thing"] [] := M.F_BadLies.bindsN fun _ _ _ _ _ _ us hl => match us, hl with | [_, _], _ => rfl
theorem ok_i_BadLies (M : MF K mg) : FnOk P w K mg base (L2.CX P w) 1 (He.fAd K ("BadLies", some "__init__")) M.fd_BadLies ["self", "thing"] (spX1 (He.ga K "BadLies") "thing") := okX1 M.F_BadLies rfl sc_BadLies M.e_BadLies.T (M.e_BadLies.no _ (by simp)) (fun _ _ _ _ _ _ => pv 0) (fun _ _ _ _ _ _ => pv 1)
theorem bi_BadSuspects (M : MF K mg) : Binds K M.fd_BadSuspects ["self", "index"] [] := M.F_BadSuspects.bindsN fun _ _ _ _ _ _ us hl => match us, hl with | [_, _], _ => rfl
theorem ok_i_BadSuspects (M : MF K mg) : FnOk P w K mg base (L2.CX P w) 1 (He.fAd K ("BadSuspects", some "__init__")) M.fd_BadSuspects ["self", "index"] (spX1 (He.ga K "BadSuspects") "index") := okX1 M.F_BadSuspects rfl sc_BadSuspects M.e_BadSuspects.T (M.e_BadSuspects.no _ (by simp)) (fun _ _ _ _ _ _ => pv 0) (fun _ _ _ _ _ _ => pv 1)
theorem db_ask_next_4 (M : MF K mg) : ∃ ds, Vals ([] : List V) ds ∧ Binds K M.fd_ask_next ["suspects", "askings", "answers", "lies"] ds := M.F_ask_next.binds1 4 1 (by simp) rfl fun T kV doc pm an cdv ct us its hu hi => match us, hu, its, hi with | [_, _, _, _], _, [_], _ => ⟨_, rfl, rfl⟩
theorem db_fewest_askings_3 (M : MF K mg) : ∃ ds, Vals ([] : List V) ds ∧ Binds K M.fd_fewest_askings ["suspects", "askings", "lies"] ds := M.F_fewest_askings.binds1 3 1 (by simp) rfl fun T kV doc pm an cdv ct us its hu hi => match us, hu, its, hi with | [_, _, _], _, [_], _ => ⟨_, rfl, rfl⟩
theorem db_possible_ones_4 (M : MF K mg) : ∃ ds, Vals ([] : List V) ds ∧ Binds K M.fd_possible_ones ["suspects", "askings", "answers", "lies"] ds := M.F_possible_ones.binds1 4 1 (by simp) rfl fun T kV doc pm an cdv ct us its hu hi => match us, hu, its, hi with | [_, _, _, _], _, [_], _ => ⟨_, rfl, rfl⟩
end
end DL
set_option Elab.async false
set_option linter.all false
set_option maxRecDepth 100000
set_option maxHeartbeats 4000000
namespace DL
open PySem L2 PyProof.Rows HD
section
variable {P : Program} {w : World} {K : PySem.W.Frag} {mg : Str → Option Value} {base : Heap}
theorem ok_l_draw0 (M : MF K mg) : FnOk P w K mg base (L2.CX P w) 1 (He.fAd K ("_law_draw", none)) M.fd_l_draw ["_law_stream", "_law_many"] (spD K 1 FDraw) := by
  have F := M.F_l_draw
  have gI := M.free_int
  refine F.ok sc_l_draw (fun vs H Q E ⟨S, Z, c, ds, Qd, Wd, _, _, _, _, rs, hF, _⟩ => by rw [← rs.length]; exact FDrawLen _ _ _ hF) (fun cdv A outer s H vs Q E hr h => ?_)
  obtain ⟨s0, cells, r, m, k, n, rfl, sh, hn, hn2, hk, fin⟩ := draw_of h
  refine ⟨_, PSs.nox (pss_cons (ps_asg (pe_op op_add (pe_ix ix_list (pv 0) pe_int (fun _ _ => rfl)) pe_int) (pg_sub (pv 0) pe_int set_list))
    (pss_cons (ps_while PassesOwn.never (PW.pt (pw_and (pt_cmpR op_eq (pe_ix ix_list (pv 0) pe_int (fun _ _ => rfl)) pe_int (nomark _)) (pw_and1 (pt_cmpR (op_neD hr.units) (pe_ix ix_list (pv 0) pe_int (fun _ _ => rfl)) (pe_lst pa_nil) (nomark _)))))
      (pss_cons (ps_set (i := 2) sc_l_draw.nd rfl (Or.inl rfl) (pe_bm PySem.F.plainAttrs_list PySem.F.slot_list_pop PySem.F.type_list_pop mt_popAt (pe_ix ix_list (pv 0) pe_int (fun _ _ => rfl)) (pa_cons pe_int pa_nil)))
      (pss_cons (ps_asg (pe_op op_mod (pe_callTy call_int1 (by rfl) gI (by decide +kernel) (pa_cons (pe_op op_add (pe_op op_add (pe_op op_mul (pe_ix ix_list (pv 0) pe_int (fun _ _ => rfl)) pe_int) (pv 2)) pe_int) pa_nil)) pe_int) (pg_sub (pv 0) pe_int set_list))
      (pss_one (ps_asg (pe_ifExp (pt_cmpR op_ge (pv 2) (pe_op op_pow pe_int pe_int) (nomark _)) (pv 2) pe_int) (pg_sub (pv 0) pe_int set_list))))))
    (pss_cons (ps_if (pt_cmpR op_gt (pe_ix ix_list (pv 0) pe_int (fun _ _ => rfl)) pe_int (nomark _))
      (pss_cons (ps_set (i := 3) sc_l_draw.nd rfl (Or.inl rfl) (pe_op op_mod (pe_callTy call_int1 (by rfl) gI (by decide +kernel) (pa_cons (pe_ix ix_list (pv 0) pe_int (fun _ _ => rfl)) pa_nil)) (pv 1)))
      (pss_cons (ps_asg (pe_op op_fdiv (pe_ix ix_list (pv 0) pe_int (fun _ _ => rfl)) (pv 1)) (pg_sub (pv 0) pe_int set_list))
      (pss_one (ps_ret (pv 3))))) pss_nil)
    (pss_cons (ps_set (i := 4) sc_l_draw.nd rfl (Or.inl rfl) (pe_op op_mod (pe_callTy call_int1 (by rfl) gI (by decide +kernel) (pa_cons (pe_op op_powW (pe_op op_add (pe_op op_add (pe_ix ix_list (pv 0) pe_int (fun _ _ => rfl)) (pe_op op_mul pe_int (pe_ix ix_list (pv 0) pe_int (fun _ _ => rfl)))) pe_int) pe_int) pa_nil)) pe_int))
    (pss_one (ps_ret (pe_op op_mod (pe_op op_mod (pe_callTy call_int1 (by rfl) gI (by decide +kernel) (pa_cons (pe_op op_powW (pe_op op_add (pe_op op_add (pe_op op_mul (pv 4) pe_int) (pe_op op_mul pe_int (pe_ix ix_list (pv 0) pe_int (fun _ _ => rfl)))) pe_int) pe_int) pa_nil)) pe_int) (pv 1)))))))), ?_⟩
  refine ⟨_, rfl, s0.st, _, 2, _, rfl, rfl, SqL.of sh.st, rfl, _, _, rfl, rfl, _, rfl, s0.st, _, 2, 2, rfl, rfl, sh.st, rfl, ?_⟩
  have sh1 : StH s0 (upd H s0.st (.lst [.ref s0.cl, .int r, .int ((k + 1 : Nat) : Int), .int m])) cells r (k + 1) m := sh.put sh.r0 sh.m0 sh.m1
  have of1 : Off s0 H (upd H s0.st (.lst [.ref s0.cl, .int r, .int ((k + 1 : Nat) : Int), .int m])) := Off.st _ fun b o e _ _ => e
  refine ⟨fun q σ H' => ∃ cells' r' m' v, q = cells'.length ∧ σ = [some (.ref s0.st), some (.int n), v, none, none] ∧ StH s0 H' cells' r' (k + 1) m' ∧ Off s0 H H', ⟨_, cells, r, m, none, rfl, rfl, sh1, of1⟩, ?_⟩
  rintro q σ H1 ⟨cs, r1, m1, v, rfl, rfl, sh2, of2⟩
  refine ⟨_, rfl, s0.st, _, 1, _, rfl, rfl, SqL.of sh2.st, rfl, rfl, _, rfl, ?_⟩
  by_cases hr1 : r1 = 0
  · subst hr1
    refine ifT rfl ?_
    refine ⟨_, rfl, s0.st, _, 0, _, rfl, rfl, SqL.of sh2.st, rfl, Nat.zero_le _, fun p hp => ?_⟩
    have sh3 := sh2.new (.lst []) hp
    have of3 := of2.new (.lst []) hp
    refine ⟨_, _, .lst (SqL.of sh3.cl) (dpInts _ _ cs), .lst (SqL.of upd_same) .nil, shapedInts cs, shapedInts [], _, rfl, ?_⟩
    cases cs with
    | nil =>
      -- mixed
      refine ifF (by decide) ?_
      refine ⟨_, rfl, s0.st, _, 1, _, rfl, rfl, SqL.of sh3.st, rfl, _, _, rfl, rfl, _, rfl, ?_⟩
      refine ifF (by decide) ?_
      refine ⟨_, rfl, s0.st, _, 3, _, rfl, rfl, SqL.of sh3.st, rfl, _, rfl, s0.st, _, 2, _, rfl, rfl, SqL.of sh3.st, rfl, _, _, rfl, rfl, .inl ⟨by decide, by decide⟩, _, _, rfl, rfl, _, _, rfl, rfl, _, _, rfl, rfl, draw_pow1 sh3.m0 sh3.m1 hk, .inl ⟨_, rfl, _, _, rfl, rfl, (by decide : (0 : Int) < 2147483629), ?_⟩⟩
      have x0 : 0 ≤ (m1 + 7919 * ((k + 1 : Nat) : Int) + 104729) ^ (5 : Int).toNat % 2147483629 := Int.emod_nonneg _ (by decide)
      have x1 : (m1 + 7919 * ((k + 1 : Nat) : Int) + 104729) ^ (5 : Int).toNat % 2147483629 < 2147483629 := Int.emod_lt_of_pos _ (by decide)
      refine ⟨_, rfl, _, _, rfl, rfl, .inl ⟨by omega, by omega⟩, _, rfl, s0.st, _, 2, _, rfl, rfl, SqL.of sh3.st, rfl, _, _, rfl, rfl, .inl ⟨by decide, by decide⟩, _, _, rfl, rfl, _, _, rfl, rfl, _, _, rfl, rfl, draw_pow2 x0 x1 hk, .inl ⟨_, rfl, _, _, rfl, rfl, (by decide : (0 : Int) < 1000000007), _, rfl, _, _, rfl, rfl, hn, ?_⟩⟩
      exact fin _ _ _ _ _ sh3 of3 (Int.emod_nonneg _ (by omega)) (Int.emod_lt_of_pos _ hn)
    | cons c cs =>
      refine ifT rfl ?_
      refine ⟨fun σ H' => ∃ cells' r' m' v, cells' = cs ∧ σ = [some (.ref s0.st), some (.int n), v, none, none] ∧ StH s0 H' cells' r' (k + 1) m' ∧ Off s0 H H', fun σ' H' ⟨cells', r', m', v, e, q⟩ => ⟨cs.length, by simp, cells', r', m', v, by rw [e], q⟩, ?_⟩
      refine ⟨_, rfl, s0.st, _, 0, _, rfl, rfl, SqL.of sh3.st, rfl, .inl ⟨rfl, _, SqL.of sh3.cl⟩, s0.cl, _, 0, 0, .int c, rfl, rfl, sh3.cl, by decide, by decide, by simp [seqIndex?], rfl, ?_⟩
      have sh4 : StH s0 (upd (upd H1 p (.lst [])) s0.cl (.lst (cs.map V.int))) cs 0 (k + 1) m1 := sh3.pop cs
      have of4 := of3.cl (.lst (cs.map V.int))
      refine ⟨_, rfl, s0.st, _, 3, _, rfl, rfl, SqL.of sh4.st, rfl, _, _, rfl, rfl, .inl ⟨by have := sh4.m0; omega, by have := sh4.m1; omega⟩, _, rfl, _, _, rfl, rfl, _, _, rfl, rfl, .inl ⟨_, rfl, _, _, rfl, rfl, (by decide : (0 : Int) < 2147483647), _, rfl, s0.st, _, 3, 3, rfl, rfl, sh4.st, rfl, ?_⟩⟩
      have sh5 : StH s0 _ cs 0 (k + 1) ((m1 * 8191 + c + 3) % 2147483647) := sh4.put (r' := 0) (k' := k + 1) (m' := (m1 * 8191 + c + 3) % 2147483647) (Int.le_refl 0) (Int.emod_nonneg _ (by decide)) (Int.emod_lt_of_pos _ (by decide))
      have of5 := of4.st (.lst [.ref s0.cl, .int 0, .int ((k + 1 : Nat) : Int), .int ((m1 * 8191 + c + 3) % 2147483647)])
      refine ⟨_, rfl, _, _, rfl, rfl, ⟨by decide, by decide, by decide⟩, _, _, rfl, rfl, _, rfl, ?_⟩
      by_cases hc : (10 : Int) ^ (18 : Int).toNat ≤ c
      · refine ifT (decide_eq_true hc) ?_
        refine ⟨_, rfl, _, rfl, s0.st, _, 1, 1, rfl, rfl, sh5.st, rfl, ?_⟩
        refine ⟨cs, c, _, _, rfl, rfl, sh5.put (k' := k + 1) (Int.le_trans (by decide) hc) sh5.m0 sh5.m1, of5.st _⟩
      · refine ifF (fun e => hc (of_decide_eq_true e)) ?_
        refine ⟨_, rfl, s0.st, _, 1, 1, rfl, rfl, sh5.st, rfl, ?_⟩
        exact ⟨cs, 0, _, _, rfl, rfl, sh5.put (k' := k + 1) (Int.le_refl 0) sh5.m0 sh5.m1, of5.st _⟩
  · refine ifF (fun e => hr1 (by have := of_decide_eq_true e; cases this; rfl)) ?_
    have hp : 0 < r1 := by have := sh2.r0; omega
    refine ifF (by decide) ?_
    refine ⟨_, rfl, s0.st, _, 1, _, rfl, rfl, SqL.of sh2.st, rfl, _, _, rfl, rfl, _, rfl, ?_⟩
    refine ifT (decide_eq_true hp) ?_
    refine ⟨_, rfl, s0.st, _, 1, _, rfl, rfl, SqL.of sh2.st, rfl, .inl ⟨_, rfl, _, rfl, _, _, rfl, rfl, hn, ?_⟩⟩
    refine ⟨_, rfl, s0.st, _, 1, _, rfl, rfl, SqL.of sh2.st, rfl, _, rfl, _, _, rfl, rfl, ⟨hn, hn2⟩, _, rfl, s0.st, _, 1, 1, rfl, rfl, sh2.st, rfl, _, rfl, ?_⟩
    exact fin cs (r1 / n) m1 (r1 % n) _ (sh2.put (k' := k + 1) (Int.ediv_nonneg sh2.r0 (by omega)) sh2.m0 sh2.m1) (of2.st _) (Int.emod_nonneg _ (by omega)) (Int.emod_lt_of_pos _ hn)
theorem ok_l_draw (M : MF K mg) : FnOk P w K mg base (L2.CX P w) 1 (He.fAd K ("_law_draw", none)) M.fd_l_draw ["_law_stream", "_law_many"] (spD K 1 (tF f_l_draw)) := (ok_l_draw0 M).imp fun vs H Q E h => spD_imp (fun _ _ _ z => draw_imp z) h
end
end DL
set_option Elab.async false
set_option linter.all false
set_option maxRecDepth 100000
set_option maxHeartbeats 4000000
namespace DL
open PySem L2 PyProof.Rows HD
section
variable {P : Program} {w : World} {K : PySem.W.Frag} {mg : Str → Option Value} {base : Heap}
theorem ok_same_step (M : MF K mg) {k : Nat} {fp : FN} (ih : FnOk P w K mg base (L2.CX P w) k (He.fAd K ("_law_same", none)) M.fd_l_same ["_law_found", "_law_due_here"] (spD K 0 (tF fp))) : FnOk P w K mg base (L2.CX P w) (k + 1) (He.fAd K ("_law_same", none)) M.fd_l_same ["_law_found", "_law_due_here"] (spD K 0 (tF (defF 2 4 (b_l_same fp)))) :=
  okF M.F_l_same sc_l_same rfl rfl (fun cdv A outer s H E hr => DSs.le (DSs.imp (dss_cons (DS.imp (ds_if (ft_val (fe_callB cd_isi rfl M.free_isinstance boot_isinstance (fa_cons (fe_var (pv 1)) (fa_cons (fe_tup (fa_cons (fe_ty rfl M.free_list (by decide +kernel)) (fa_cons (fe_ty rfl M.free_tuple (by decide +kernel)) fa_nil))) fa_nil)))) (DSs.imp (dss_cons (DS.imp (ds_if (DWt.dt (fw_or (ft_cmp (od_ne (unt64 hr)) (fe_callB cd_isi rfl M.free_isinstance boot_isinstance (fa_cons (fe_var (pv 0)) (fa_cons (fe_ty rfl M.free_list (by decide +kernel)) fa_nil))) (fe_callB cd_isi rfl M.free_isinstance boot_isinstance (fa_cons (fe_var (pv 1)) (fa_cons (fe_ty rfl M.free_list (by decide +kernel)) fa_nil))) (nomark _)) (fw_or1 (ft_cmp (od_ne (unt64 hr)) (fe_callB cd_isi rfl M.free_isinstance boot_isinstance (fa_cons (fe_var (pv 0)) (fa_cons (fe_ty rfl M.free_tuple (by decide +kernel)) fa_nil))) (fe_callB cd_isi rfl M.free_isinstance boot_isinstance (fa_cons (fe_var (pv 1)) (fa_cons (fe_ty rfl M.free_tuple (by decide +kernel)) fa_nil))) (nomark _))))) (dss_one (fs_ret fe_bl)) dss_nil) fun _ _ _ t => im_if t)
    (dss_one (fs_ret (fe_and (fe_cmp (od_eq (unt64 hr)) (fe_callB cd_len rfl M.free_len boot_len (fa_cons (fe_var (pv 0)) fa_nil)) (fe_callB cd_len rfl M.free_len boot_len (fa_cons (fe_var (pv 1)) fa_nil)) (nomark _)) (fe_one (fe_callB (cd_all rfl) rfl M.free_all boot_all (fa_cons (DE.imp (de_lc (own := [("_law_x", 2), ("_law_y", 3)]) rfl sc_l_same.nd (DI.imp (di_zip rfl M.free_zip (fa_cons (fe_var (pv 0)) (fa_cons (fe_var (pv 1)) fa_nil))) fun _ _ _ t => im_zip t) (blkOk_by (by kernel_rfl)) (fun _ _ _ _ _ => (DG.imp (dg_tup (len_gsC (len_gsC len_gsN)) rfl (DGs.imp (dgs_cons (DG.imp (dg_name (i := 2) (by decide) sc_l_same.nd rfl (by first | exact Or.inl rfl | exact Or.inr rfl)) fun _ _ _ t => im_gN t) (DGs.imp (dgs_cons (DG.imp (dg_name (i := 3) (by decide) sc_l_same.nd rfl (by first | exact Or.inl rfl | exact Or.inr rfl)) fun _ _ _ t => im_gN t) (DGs.imp dgs_nil fun _ _ _ t => im_gsN t)) fun _ _ _ t => im_gsC t)) fun _ _ _ t => im_gsC t)) fun _ _ _ t => im_gT t)) (fun _ _ _ _ _ => dts_nil) (fun _ _ _ _ _ => (fe_dcall (de_call (dd := []) ih hr rfl M.g_l_same M.F_l_same.kp (bi_l_same M) .nil (fun _ _ => Reps.nil) (fa_cons (fe_var (pv 2)) (fa_cons (fe_var (pv 3)) fa_nil)))))) fun _ _ _ t => im_comp t) fa_nil))))))) fun _ _ _ t => im_seq t) dss_nil) fun _ _ _ t => im_if t)
    (DSs.imp (dss_cons (DS.imp (ds_if (ft_val (fe_callB cd_isi rfl M.free_isinstance boot_isinstance (fa_cons (fe_var (pv 1)) (fa_cons (fe_ty rfl M.free_dict (by decide +kernel)) fa_nil)))) (dss_one ds_never) dss_nil) fun _ _ _ t => im_if t)
    (DSs.imp (dss_cons (DS.imp (ds_if (ft_val (fe_callB cd_isi rfl M.free_isinstance boot_isinstance (fa_cons (fe_var (pv 1)) (fa_cons (fe_ty rfl M.free_int (by decide +kernel)) fa_nil)))) (dss_one (fs_ret (fe_and (fe_callB cd_isi rfl M.free_isinstance boot_isinstance (fa_cons (fe_var (pv 0)) (fa_cons (fe_ty rfl M.free_int (by decide +kernel)) fa_nil))) (fe_and (fe_cmp (od_eq (unt64 hr)) (fe_callB cd_isi rfl M.free_isinstance boot_isinstance (fa_cons (fe_var (pv 0)) (fa_cons (fe_ty rfl M.free_bool (by decide +kernel)) fa_nil))) (fe_callB cd_isi rfl M.free_isinstance boot_isinstance (fa_cons (fe_var (pv 1)) (fa_cons (fe_ty rfl M.free_bool (by decide +kernel)) fa_nil))) (nomark _)) (fe_one (fe_cmp (od_eq (unt64 hr)) (fe_var (pv 0)) (fe_var (pv 1)) (nomark _))))))) dss_nil) fun _ _ _ t => im_if t)
    (dss_one (fs_ret (fe_and (fe_not (fe_callB cd_isi rfl M.free_isinstance boot_isinstance (fa_cons (fe_var (pv 0)) (fa_cons (fe_tup (fa_cons (fe_ty rfl M.free_int (by decide +kernel)) (fa_cons (fe_ty rfl M.free_list (by decide +kernel)) (fa_cons (fe_ty rfl M.free_tuple (by decide +kernel)) (fa_cons (fe_ty rfl M.free_dict (by decide +kernel)) fa_nil))))) fa_nil)))) (fe_one (fe_cmp (od_eq (unt64 hr)) (fe_var (pv 0)) (fe_var (pv 1)) (nomark _))))))) fun _ _ _ t => im_seq t)) fun _ _ _ t => im_seq t)) fun _ _ _ t => im_seq t) (by decide +kernel))
theorem ok_l_same (M : MF K mg) : ∀ m, FnOk P w K mg base (L2.CX P w) m (He.fAd K ("_law_same", none)) M.fd_l_same ["_law_found", "_law_due_here"] (spD K 0 (tF (f_l_same m)))
  | 0 => ok_none
  | m + 1 => ok_same_step M (ok_l_same M m)
theorem ok_l_mixed (M : MF K mg) : FnOk P w K mg base (L2.CX P w) 2 (He.fAd K ("_law_mixed", none)) M.fd_l_mixed ["_law_stream", "_law_some"] (spD K 16777216 (tF f_l_mixed)) := okF M.F_l_mixed sc_l_mixed rfl rfl (fun cdv A outer s H E hr => DSs.le (DSs.imp (dss_cons (DS.imp (ds_set (i := 2) sc_l_mixed.nd rfl (Or.inr rfl) (fe_callTy cd_list rfl M.free_list boot_list (fa_cons (fe_var (pv 1)) fa_nil))) fun _ _ _ t => im_set t)
    (dss_one (fs_ret (DE.imp (de_lc (own := [("_law_k", 3)]) rfl sc_l_mixed.nd (DI.imp (di_range1 rfl M.free_range (fa_cons (DE.imp (de_bor [2] (fe_callB cd_len rfl M.free_len boot_len (fa_cons (fe_var (pv 2)) fa_nil))) fun _ _ _ t => im_bor t) fa_nil)) fun _ _ _ t => im_rng1 t) (blkOk_by (by kernel_rfl)) (fun _ _ _ _ _ => (DG.imp (dg_name (i := 3) (by decide) sc_l_mixed.nd rfl (by first | exact Or.inl rfl | exact Or.inr rfl)) fun _ _ _ t => im_gN t)) (fun _ _ _ _ _ => dts_nil) (fun _ _ _ _ _ => (DE.imp (de_mut (i := 2) md_pop PySem.F.slot_list_pop PySem.F.type_list_pop (pv 2) (fa_cons (fe_dcall (de_call (dd := []) (ok_l_draw M) (hr.mono (by decide)) rfl M.g_l_draw M.F_l_draw.kp (bi_l_draw M) .nil (fun _ _ => Reps.nil) (fa_cons (fe_var (pv 0)) (fa_cons (DE.imp (de_bor [2] (fe_callB cd_len rfl M.free_len boot_len (fa_cons (fe_var (pv 2)) fa_nil))) fun _ _ _ t => im_bor t) fa_nil)))) fa_nil)) fun _ _ _ t => im_mut t))) fun _ _ _ t => im_comp t)))) fun _ _ _ t => im_seq t) (by decide +kernel))
theorem ok_l_m_suspects (M : MF K mg) : FnOk P w K mg base (L2.CX P w) 3 (He.fAd K ("_law_m_suspects", none)) M.fd_l_m_suspects ["_law_stream", "_law_most"] (spD K 562949986975747 (tF f_l_m_suspects)) := okF M.F_l_m_suspects sc_l_m_suspects rfl rfl (fun cdv A outer s H E hr => DSs.le (DSs.imp (dss_cons (DS.imp (ds_set (i := 2) sc_l_m_suspects.nd rfl (Or.inr rfl) (fe_sl (fe_dcall (de_call (dd := []) (ok_l_mixed M) (hr.mono (by decide)) rfl M.g_l_mixed M.F_l_mixed.kp (bi_l_mixed M) .nil (fun _ _ => Reps.nil) (fa_cons (fe_var (pv 0)) (fa_cons (fe_lst (fa_cons fe_str (fa_cons fe_str (fa_cons fe_str (fa_cons fe_str (fa_cons fe_str (fa_cons fe_str (fa_cons fe_str fa_nil)))))))) fa_nil)))) do_none (DO.imp (do_some (fe_op od_add fe_int (fe_dcall (de_call (dd := []) (ok_l_draw M) (hr.mono (by decide)) rfl M.g_l_draw M.F_l_draw.kp (bi_l_draw M) .nil (fun _ _ => Reps.nil) (fa_cons (fe_var (pv 0)) (fa_cons (fe_var (pv 1)) fa_nil)))))) fun _ _ _ t => im_oSome t))) fun _ _ _ t => im_set t)
    (DSs.imp (dss_cons (DS.imp (ds_par2 (i := 3) (j := 4) rfl sc_l_m_suspects.nd rfl rfl (by decide) rfl rfl (fv_cons (fe_lst fa_nil) (fv_cons (fe_dcall (de_call (dd := []) (ok_l_draw M) (hr.mono (by decide)) rfl M.g_l_draw M.F_l_draw.kp (bi_l_draw M) .nil (fun _ _ => Reps.nil) (fa_cons (fe_var (pv 0)) (fa_cons fe_int fa_nil)))) fv_nil)) rfl) fun _ _ _ t => im_par2 t)
    (DSs.imp (dss_cons (DS.imp (ds_if (ft_cmp (od_eq (unt64 hr)) (fe_var (pv 4)) fe_int (nomark _)) (dss_one (DS.imp (ds_setLc (own := [("_law_at", 5)]) (i := 3) rfl sc_l_m_suspects.nd rfl rfl (sw_true rfl rfl rfl (by decide +kernel)) (DI.imp (di_range2 rfl M.free_range (fa_cons fe_int (fa_cons (fe_callB cd_len rfl M.free_len boot_len (fa_cons (fe_var (pv 2)) fa_nil)) fa_nil))) fun _ _ _ t => im_rng2 t) (blkOk_by (by kernel_rfl)) (fun _ _ _ _ _ => (DG.imp (dg_name (i := 5) (by decide) sc_l_m_suspects.nd rfl (by first | exact Or.inl rfl | exact Or.inr rfl)) fun _ _ _ t => im_gN t)) (fun _ _ _ _ _ => dts_nil) (fun _ _ _ _ _ => (fe_sl (fe_var (pv 2)) do_none (DO.imp (do_some (fe_var (pv 5))) fun _ _ _ t => im_oSome t)))) fun _ _ _ t => im_setComp t)) dss_nil) fun _ _ _ t => im_if t)
    (DSs.imp (dss_cons (fs_for (vs' := [6]) [6] (passes_of rfl) rfl (DI.imp (di_range1 rfl M.free_range (fa_cons (fe_op od_add fe_int (fe_dcall (de_call (dd := []) (ok_l_draw M) (hr.mono (by decide)) rfl M.g_l_draw M.F_l_draw.kp (bi_l_draw M) .nil (fun _ _ => Reps.nil) (fa_cons (fe_var (pv 0)) (fa_cons fe_int fa_nil))))) fa_nil)) fun _ _ _ t => im_rng1 t) (DG.imp (dg_name (i := 6) (by decide) sc_l_m_suspects.nd rfl (by first | exact Or.inl rfl | exact Or.inr rfl)) fun _ _ _ t => im_gN t) (dss_one (DS.imp (ds_expr (DE.imp (de_mut (i := 3) md_append PySem.F.slot_list_append PySem.F.type_list_append (pv 3) (fa_cons (DE.imp (de_lc (own := [("_law_name", 7)]) rfl sc_l_m_suspects.nd (DI.imp (di_seq (fe_dcall (de_call (dd := []) (ok_l_mixed M) (hr.mono (by decide)) rfl M.g_l_mixed M.F_l_mixed.kp (bi_l_mixed M) .nil (fun _ _ => Reps.nil) (fa_cons (fe_var (pv 0)) (fa_cons (fe_var (pv 2)) fa_nil))))) fun _ _ _ t => im_items t) (blkOk_by (by kernel_rfl)) (fun _ _ _ _ _ => (DG.imp (dg_name (i := 7) (by decide) sc_l_m_suspects.nd rfl (by first | exact Or.inl rfl | exact Or.inr rfl)) fun _ _ _ t => im_gN t)) (fun _ _ _ _ _ => (dts_one (ft_cmp (od_eq (unt64 hr)) (fe_dcall (de_call (dd := []) (ok_l_draw M) (hr.mono (by decide)) rfl M.g_l_draw M.F_l_draw.kp (bi_l_draw M) .nil (fun _ _ => Reps.nil) (fa_cons (fe_var (pv 0)) (fa_cons fe_int fa_nil)))) fe_int (nomark _)))) (fun _ _ _ _ _ => (fe_var (pv 7)))) fun _ _ _ t => im_comp t) fa_nil)) fun _ _ _ t => im_mut t)) fun _ _ _ t => im_drop t)))
    (DSs.imp (dss_cons (DS.imp (ds_if (ft_cmp (od_eq (unt64 hr)) (fe_var (pv 4)) fe_int (nomark _)) (dss_one (DS.imp (ds_storeIx (i := 3) (fe_op od_add (DE.imp (de_ixO (pv 3) (fe_un ud_neg fe_int) (fun _ _ => rfl)) fun _ _ _ t => im_ixO t) (fe_lst (fa_cons fe_str fa_nil))) (pv 3) (fe_un ud_neg fe_int)) fun _ _ _ t => im_storeIx t)) dss_nil) fun _ _ _ t => im_if t)
    (dss_one (fs_ret (fe_tup (fa_cons (fe_var (pv 2)) (fa_cons (fe_sl (fe_dcall (de_call (dd := []) (ok_l_mixed M) (hr.mono (by decide)) rfl M.g_l_mixed M.F_l_mixed.kp (bi_l_mixed M) .nil (fun _ _ => Reps.nil) (fa_cons (fe_var (pv 0)) (fa_cons (fe_var (pv 3)) fa_nil)))) do_none (DO.imp (do_some fe_int) fun _ _ _ t => im_oSome t)) fa_nil)))))) fun _ _ _ t => im_seq t)) fun _ _ _ t => im_seq t)) fun _ _ _ t => im_seq t)) fun _ _ _ t => im_seq t)) fun _ _ _ t => im_seq t) (by decide +kernel))
theorem ok_Hunt_left_ones (M : MF K mg) : FnOk P w K mg base (L2.CX P w) 1 (He.fAd K ("Hunt", some "left_ones")) M.fd_Hunt_left_ones ["self", "state"] (spD K 0 (tF (f_Hunt_left_ones_e (He.ga K)))) := okF M.F_Hunt_left_ones sc_Hunt_left_ones rfl rfl (fun cdv A outer s H E hr => DSs.le (dss_one (fs_ret (DE.imp (de_lc (own := [("one", 2), ("wrong", 3)]) rfl sc_Hunt_left_ones.nd (DI.imp (di_zip rfl M.free_zip (fa_cons (fe_fld (de_fld M.cls_Hunt M.noat_Hunt_ones (fe_var (pv 0)))) (fa_cons (fe_var (pv 1)) fa_nil))) fun _ _ _ t => im_zip t) (blkOk_by (by kernel_rfl)) (fun _ _ _ _ _ => (DG.imp (dg_tup (len_gsC (len_gsC len_gsN)) rfl (DGs.imp (dgs_cons (DG.imp (dg_name (i := 2) (by decide) sc_Hunt_left_ones.nd rfl (by first | exact Or.inl rfl | exact Or.inr rfl)) fun _ _ _ t => im_gN t) (DGs.imp (dgs_cons (DG.imp (dg_name (i := 3) (by decide) sc_Hunt_left_ones.nd rfl (by first | exact Or.inl rfl | exact Or.inr rfl)) fun _ _ _ t => im_gN t) (DGs.imp dgs_nil fun _ _ _ t => im_gsN t)) fun _ _ _ t => im_gsC t)) fun _ _ _ t => im_gsC t)) fun _ _ _ t => im_gT t)) (fun _ _ _ _ _ => (dts_one (ft_cmp od_le (fe_var (pv 3)) (fe_fld (de_fld M.cls_Hunt M.noat_Hunt_most (fe_var (pv 0)))) (nomark _)))) (fun _ _ _ _ _ => (fe_var (pv 2)))) fun _ _ _ t => im_comp t))) (by decide +kernel))
theorem ok_Hunt_behind_answer (M : MF K mg) : FnOk P w K mg base (L2.CX P w) 1 (He.fAd K ("Hunt", some "behind_answer")) M.fd_Hunt_behind_answer ["self", "state", "index", "answer"] (spD K 0 (tF (f_Hunt_behind_answer_e (He.ga K)))) := okF M.F_Hunt_behind_answer sc_Hunt_behind_answer rfl rfl (fun cdv A outer s H E hr => DSs.le (dss_zip (i := 4) sc_Hunt_behind_answer.nd rfl (Or.inl rfl) rfl M.free_zip rfl M.free_tuple (fa_cons (fe_var (pv 1)) (fa_cons (DE.imp (de_ix (fe_fld (de_fld M.cls_Hunt M.noat_Hunt_signs (fe_var (pv 0)))) (fe_var (pv 2)) (fun _ _ => rfl)) fun _ _ _ t => im_op2 t) fa_nil)) (pe_lc (own := [("wrong", 5), ("sign", 6)]) rfl sc_Hunt_behind_answer.nd (pi_itZ (pv 4)) (blkOk_by (by kernel_rfl)) (fun _ _ _ _ _ => gex (DG.imp (dg_tup (len_gsC (len_gsC len_gsN)) rfl (DGs.imp (dgs_cons (DG.imp (dg_name (i := 5) (by decide) sc_Hunt_behind_answer.nd rfl (by first | exact Or.inl rfl | exact Or.inr rfl)) fun _ _ _ t => im_gN t) (DGs.imp (dgs_cons (DG.imp (dg_name (i := 6) (by decide) sc_Hunt_behind_answer.nd rfl (by first | exact Or.inl rfl | exact Or.inr rfl)) fun _ _ _ t => im_gN t) (DGs.imp dgs_nil fun _ _ _ t => im_gsN t)) fun _ _ _ t => im_gsC t)) fun _ _ _ t => im_gsC t)) fun _ _ _ t => im_gT t)) (fun _ _ _ _ _ => tsx dts_nil) (fun _ _ _ _ _ => eex (fe_callB (cd_min2 rfl) rfl M.free_min boot_min (fa_cons (fe_op od_add (fe_var (pv 5)) (fe_callTy cd_int rfl M.free_int boot_int (fa_cons (fe_cmp (od_ne (unt64 hr)) (fe_var (pv 6)) (fe_var (pv 3)) (nomark _)) fa_nil))) (fa_cons (fe_op od_add (fe_fld (de_fld M.cls_Hunt M.noat_Hunt_most (fe_var (pv 0)))) fe_int) fa_nil)))) (by intro _; rfl))) (by decide +kernel))
theorem ok_Hunt_is_right_step (M : MF K mg) {k : Nat} {fe : FN} (hk : 1 ≤ k) (ih : FnOk P w K mg base (L2.CX P w) k (He.fAd K ("Hunt", some "is_enough")) M.fd_Hunt_is_enough ["self", "state", "many"] (spD K 0 (tF fe))) : FnOk P w K mg base (L2.CX P w) (k + 1) (He.fAd K ("Hunt", some "is_right")) M.fd_Hunt_is_right ["self", "state", "index", "many"] (spD K (0) (tF (f_Hunt_is_right_e (He.ga K) fe))) := okF M.F_Hunt_is_right sc_Hunt_is_right rfl rfl (fun cdv A outer s H E hr => DSs.le (DSs.imp (dss_cons (DS.imp (ds_if (ft_not (ft_val (fe_meth (de_meth (dd := []) M.cls_Hunt M.me_Hunt_is_enough ih (hr.mono (by omega)) (bi_Hunt_is_enough M) .nil (fun _ _ => Reps.nil) (fe_var (pv 0)) (fa_cons (fe_meth (de_meth (dd := []) M.cls_Hunt M.me_Hunt_behind_answer (ok_Hunt_behind_answer M) (hr.mono (by omega)) (bi_Hunt_behind_answer M) .nil (fun _ _ => Reps.nil) (fe_var (pv 0)) (fa_cons (fe_var (pv 1)) (fa_cons (fe_var (pv 2)) (fa_cons fe_bl fa_nil))))) (fa_cons (fe_op od_sub (fe_var (pv 3)) fe_int) fa_nil)))))) (dss_one (fs_ret fe_bl)) dss_nil) fun _ _ _ t => im_if t)
    (dss_one (fs_ret (fe_meth (de_meth (dd := []) M.cls_Hunt M.me_Hunt_is_enough ih (hr.mono (by omega)) (bi_Hunt_is_enough M) .nil (fun _ _ => Reps.nil) (fe_var (pv 0)) (fa_cons (fe_meth (de_meth (dd := []) M.cls_Hunt M.me_Hunt_behind_answer (ok_Hunt_behind_answer M) (hr.mono (by omega)) (bi_Hunt_behind_answer M) .nil (fun _ _ => Reps.nil) (fe_var (pv 0)) (fa_cons (fe_var (pv 1)) (fa_cons (fe_var (pv 2)) (fa_cons fe_bl fa_nil))))) (fa_cons (fe_op od_sub (fe_var (pv 3)) fe_int) fa_nil))))))) fun _ _ _ t => im_seq t) (by decide +kernel))
theorem ok_Hunt_is_enough_step (M : MF K mg) {k : Nat} {fe : FN} (hk : 1 ≤ k) (ih : FnOk P w K mg base (L2.CX P w) k (He.fAd K ("Hunt", some "is_enough")) M.fd_Hunt_is_enough ["self", "state", "many"] (spD K 0 (tF fe))) : FnOk P w K mg base (L2.CX P w) (k + 2) (He.fAd K ("Hunt", some "is_enough")) M.fd_Hunt_is_enough ["self", "state", "many"] (spD K (0) (tF (defF 3 4 (b_Hunt_is_enough_e (He.ga K) fe)))) := okF M.F_Hunt_is_enough sc_Hunt_is_enough rfl rfl (fun cdv A outer s H E hr => DSs.le (DSs.imp (dss_cons (DS.imp (ds_if (ft_cmp od_lt (fe_callB cd_len rfl M.free_len boot_len (fa_cons (fe_meth (de_meth (dd := []) M.cls_Hunt M.me_Hunt_left_ones (ok_Hunt_left_ones M) (hr.mono (by omega)) (bi_Hunt_left_ones M) .nil (fun _ _ => Reps.nil) (fe_var (pv 0)) (fa_cons (fe_var (pv 1)) fa_nil))) fa_nil)) fe_int (nomark _)) (dss_one (fs_ret fe_bl)) dss_nil) fun _ _ _ t => im_if t)
    (DSs.imp (dss_cons (DS.imp (ds_if (ft_cmp (od_eq (unt64 hr)) (fe_var (pv 2)) fe_int (nomark _)) (dss_one (fs_ret fe_bl)) dss_nil) fun _ _ _ t => im_if t)
    (dss_memo (i0 := 0) (i := 1) (j := 2) (Nat.lt_of_le_of_lt (Nat.add_le_add_left (by decide : 9 ≤ 64) _) (unt64 hr)) M.cls_Hunt M.noat_Hunt_known (pe_tup (pa_cons (pv 1) (pa_cons (pv 2) pa_nil))) (pe_fld (pv 0) rfl) (pe_tup (pa_cons (pv 1) (pa_cons (pv 2) pa_nil))) (pe_fld (pv 0) rfl) (pe_tup (pa_cons (pv 1) (pa_cons (pv 2) pa_nil))) (pe_fld (pv 0) rfl) (fe_callB (cd_any rfl) rfl M.free_any boot_any (fa_cons (DE.imp (de_lc (own := [("index", 3)]) rfl sc_Hunt_is_enough.nd (DI.imp (di_range1 rfl M.free_range (fa_cons (fe_callB cd_len rfl M.free_len boot_len (fa_cons (fe_fld (de_fld M.cls_Hunt M.noat_Hunt_signs (fe_var (pv 0)))) fa_nil)) fa_nil)) fun _ _ _ t => im_rng1 t) (blkOk_by (by kernel_rfl)) (fun _ _ _ _ _ => (DG.imp (dg_name (i := 3) (by decide) sc_Hunt_is_enough.nd rfl (by first | exact Or.inl rfl | exact Or.inr rfl)) fun _ _ _ t => im_gN t)) (fun _ _ _ _ _ => dts_nil) (fun _ _ _ _ _ => (fe_meth (de_meth (dd := []) M.cls_Hunt M.me_Hunt_is_right (ok_Hunt_is_right_step M (by omega) ih) (hr.mono (by omega)) (bi_Hunt_is_right M) .nil (fun _ _ => Reps.nil) (fe_var (pv 0)) (fa_cons (fe_var (pv 1)) (fa_cons (fe_var (pv 3)) (fa_cons (fe_var (pv 2)) fa_nil))))))) fun _ _ _ t => im_comp t) fa_nil)) (fun _ _ => rfl))) fun _ _ _ t => im_seq t)) fun _ _ _ t => im_seq t) (by decide +kernel))
theorem ok_Hunt_is_enough (M : MF K mg) : ∀ m, FnOk P w K mg base (L2.CX P w) (1 + 2 * m) (He.fAd K ("Hunt", some "is_enough")) M.fd_Hunt_is_enough ["self", "state", "many"] (spD K 0 (tF (f_Hunt_is_enough_e (He.ga K) m)))
  | 0 => ok_none
  | m + 1 => ok_Hunt_is_enough_step M (k := 1 + 2 * m) (Nat.le_add_right _ _) (ok_Hunt_is_enough M m)
theorem ok_Hunt_fewest_from (M : MF K mg) : FnOk P w K mg base (L2.CX P w) 42 (He.fAd K ("Hunt", some "fewest_from")) M.fd_Hunt_fewest_from ["self", "state"] (spD K 0 (tF (f_Hunt_fewest_from_e (He.ga K)))) := okF M.F_Hunt_fewest_from sc_Hunt_fewest_from rfl rfl (fun cdv A outer s H E hr => DSs.le (DSs.imp (dss_cons (DS.imp (ds_set (i := 2) sc_Hunt_fewest_from.nd rfl (Or.inl rfl) (fe_op od_mul (fe_op od_add fe_int (fe_op od_mul fe_int (fe_fld (de_fld M.cls_Hunt M.noat_Hunt_most (fe_var (pv 0)))))) (fe_callB cd_len rfl M.free_len boot_len (fa_cons (fe_fld (de_fld M.cls_Hunt M.noat_Hunt_ones (fe_var (pv 0)))) fa_nil)))) fun _ _ _ t => im_set t)
    (DSs.imp (dss_cons (fs_for (vs' := [3]) [3] (passes_of rfl) rfl (DI.imp (di_range1 rfl M.free_range (fa_cons (fe_op od_add (fe_var (pv 2)) fe_int) fa_nil)) fun _ _ _ t => im_rng1 t) (DG.imp (dg_name (i := 3) (by decide) sc_Hunt_fewest_from.nd rfl (by first | exact Or.inl rfl | exact Or.inr rfl)) fun _ _ _ t => im_gN t) (dss_one (DS.imp (ds_if (ft_val (fe_meth (de_meth (dd := []) M.cls_Hunt M.me_Hunt_is_enough (ok_Hunt_is_enough M 20) (hr.mono (by decide)) (bi_Hunt_is_enough M) .nil (fun _ _ => Reps.nil) (fe_var (pv 0)) (fa_cons (fe_var (pv 1)) (fa_cons (fe_var (pv 3)) fa_nil))))) (dss_one (fs_ret (fe_move (pv 3)))) dss_nil) fun _ _ _ t => im_if t)))
    (dss_one (fs_ret fe_non))) fun _ _ _ t => im_seq t)) fun _ _ _ t => im_seq t) (by decide +kernel))
theorem ok_Hunt_unparted (M : MF K mg) : FnOk P w K mg base (L2.CX P w) 1 (He.fAd K ("Hunt", some "unparted")) M.fd_Hunt_unparted ["self"] (spD K 0 (tF (f_Hunt_unparted_e (He.ga K)))) := okF M.F_Hunt_unparted sc_Hunt_unparted rfl rfl (fun cdv A outer s H E hr => DSs.le (DSs.imp (dss_cons (fs_for (vs' := [1, 2]) [1, 2, 3] (passes_of rfl) rfl (DI.imp (di_enum rfl M.free_enumerate (fa_cons (fe_fld (de_fld M.cls_Hunt M.noat_Hunt_ones (fe_var (pv 0)))) fa_nil)) fun _ _ _ t => im_enum t) (DG.imp (dg_tup (len_gsC (len_gsC len_gsN)) rfl (DGs.imp (dgs_cons (DG.imp (dg_name (i := 1) (by decide) sc_Hunt_unparted.nd rfl (by first | exact Or.inl rfl | exact Or.inr rfl)) fun _ _ _ t => im_gN t) (DGs.imp (dgs_cons (DG.imp (dg_name (i := 2) (by decide) sc_Hunt_unparted.nd rfl (by first | exact Or.inl rfl | exact Or.inr rfl)) fun _ _ _ t => im_gN t) (DGs.imp dgs_nil fun _ _ _ t => im_gsN t)) fun _ _ _ t => im_gsC t)) fun _ _ _ t => im_gsC t)) fun _ _ _ t => im_gT t) (dss_one (fs_for (vs' := [3]) [3] (passes_of rfl) rfl (DI.imp (di_range2 rfl M.free_range (fa_cons (fe_op od_add (fe_var (pv 1)) fe_int) (fa_cons (fe_callB cd_len rfl M.free_len boot_len (fa_cons (fe_fld (de_fld M.cls_Hunt M.noat_Hunt_ones (fe_var (pv 0)))) fa_nil)) fa_nil))) fun _ _ _ t => im_rng2 t) (DG.imp (dg_name (i := 3) (by decide) sc_Hunt_unparted.nd rfl (by first | exact Or.inl rfl | exact Or.inr rfl)) fun _ _ _ t => im_gN t) (dss_one (DS.imp (ds_if (ft_val (fe_callB (cd_all rfl) rfl M.free_all boot_all (fa_cons (DE.imp (de_lc (own := [("row", 4)]) rfl sc_Hunt_unparted.nd (DI.imp (di_seq (fe_fld (de_fld M.cls_Hunt M.noat_Hunt_signs (fe_var (pv 0))))) fun _ _ _ t => im_items t) (blkOk_by (by kernel_rfl)) (fun _ _ _ _ _ => (DG.imp (dg_name (i := 4) (by decide) sc_Hunt_unparted.nd rfl (by first | exact Or.inl rfl | exact Or.inr rfl)) fun _ _ _ t => im_gN t)) (fun _ _ _ _ _ => dts_nil) (fun _ _ _ _ _ => (fe_cmp (od_eq (unt64 hr)) (DE.imp (de_ix (fe_var (pv 4)) (fe_var (pv 1)) (fun _ _ => rfl)) fun _ _ _ t => im_op2 t) (DE.imp (de_ix (fe_var (pv 4)) (fe_var (pv 3)) (fun _ _ => rfl)) fun _ _ _ t => im_op2 t) (nomark _)))) fun _ _ _ t => im_comp t) fa_nil))) (dss_one (fs_ret (fe_tup (fa_cons (fe_var (pv 2)) (fa_cons (DE.imp (de_ix (fe_fld (de_fld M.cls_Hunt M.noat_Hunt_ones (fe_var (pv 0)))) (fe_var (pv 3)) (fun _ _ => rfl)) fun _ _ _ t => im_op2 t) fa_nil))))) dss_nil) fun _ _ _ t => im_if t)))))
    (dss_one (fs_ret fe_non))) fun _ _ _ t => im_seq t) (by decide +kernel))
theorem ok_Hunt_begun (M : MF K mg) : FnOk P w K mg base (L2.CX P w) 1 (He.fAd K ("Hunt", some "begun")) M.fd_Hunt_begun ["self"] (spD K 0 (tF (f_Hunt_begun_e (He.ga K)))) := okF M.F_Hunt_begun sc_Hunt_begun rfl rfl (fun cdv A outer s H E hr => DSs.le (dss_one (fs_ret (fe_op od_mul (fe_tup (fa_cons fe_int fa_nil)) (fe_callB cd_len rfl M.free_len boot_len (fa_cons (fe_fld (de_fld M.cls_Hunt M.noat_Hunt_ones (fe_var (pv 0)))) fa_nil))))) (by decide +kernel))
theorem ok_fewest_of (M : MF K mg) : FnOk P w K mg base (L2.CX P w) 43 (He.fAd K ("fewest_of", none)) M.fd_fewest_of ["hunt"] (spD K 0 (tF (f_fewest_of_e (He.ga K)))) := okF M.F_fewest_of sc_fewest_of rfl rfl (fun cdv A outer s H E hr => DSs.le (dss_one (fs_ret (fe_ifE (ft_cmp od_isN (fe_meth0 (de_meth0 (dd := []) M.cls_Hunt M.me_Hunt_unparted (ok_Hunt_unparted M) (hr.mono (by decide)) (bi_Hunt_unparted M) .nil (fun _ _ => Reps.nil) (fe_var (pv 0)))) fe_non (nomark _)) (fe_meth (de_meth (dd := []) M.cls_Hunt M.me_Hunt_fewest_from (ok_Hunt_fewest_from M) (hr.mono (by decide)) (bi_Hunt_fewest_from M) .nil (fun _ _ => Reps.nil) (fe_var (pv 0)) (fa_cons (fe_meth0 (de_meth0 (dd := []) M.cls_Hunt M.me_Hunt_begun (ok_Hunt_begun M) (hr.mono (by decide)) (bi_Hunt_begun M) .nil (fun _ _ => Reps.nil) (fe_var (pv 0)))) fa_nil))) fe_non))) (by decide +kernel))
theorem ok_is_list (M : MF K mg) : FnOk P w K mg base (L2.CX P w) 1 (He.fAd K ("is_list", none)) M.fd_is_list ["thing"] (spD K 0 (tF f_is_list)) := okF M.F_is_list sc_is_list rfl rfl (fun cdv A outer s H E hr => DSs.le (dss_one (fs_ret (fe_callB cd_isi rfl M.free_isinstance boot_isinstance (fa_cons (fe_var (pv 0)) (fa_cons (fe_tup (fa_cons (fe_ty rfl M.free_list (by decide +kernel)) (fa_cons (fe_ty rfl M.free_tuple (by decide +kernel)) fa_nil))) fa_nil))))) (by decide +kernel))
theorem ok_is_name (M : MF K mg) : FnOk P w K mg base (L2.CX P w) 1 (He.fAd K ("is_name", none)) M.fd_is_name ["thing"] (spD K 0 (tF f_is_name)) := okF M.F_is_name sc_is_name rfl rfl (fun cdv A outer s H E hr => DSs.le (DSs.imp (dss_cons (DS.imp (ds_if (DWt.dt (fw_or (ft_not (ft_val (fe_callB cd_isi rfl M.free_isinstance boot_isinstance (fa_cons (fe_var (pv 0)) (fa_cons (fe_ty rfl M.free_str (by decide +kernel)) fa_nil))))) (fw_or (ft_not (ft_chain od_le od_le fe_int (fe_callB cd_len rfl M.free_len boot_len (fa_cons (fe_var (pv 0)) fa_nil)) fe_int)) (fw_or1 (ft_cmp (od_notin (unt65 hr)) (DE.imp (de_ix (fe_var (pv 0)) fe_int (fun _ _ => rfl)) fun _ _ _ t => im_op2 t) (fe_gstr rfl M.c_SMALL) rfl))))) (dss_one (fs_ret fe_bl)) dss_nil) fun _ _ _ t => im_if t)
    (dss_one (fs_ret (fe_callB (cd_all rfl) rfl M.free_all boot_all (fa_cons (DE.imp (de_lc (own := [("sign", 1)]) rfl sc_is_name.nd (DI.imp (di_str (fe_var (pv 0))) fun _ _ _ t => im_signs t) (blkOk_by (by kernel_rfl)) (fun _ _ _ _ _ => (DG.imp (dg_name (i := 1) (by decide) sc_is_name.nd rfl (by first | exact Or.inl rfl | exact Or.inr rfl)) fun _ _ _ t => im_gN t)) (fun _ _ _ _ _ => dts_nil) (fun _ _ _ _ _ => (fe_or (fe_cmp (od_in (unt65 hr)) (fe_var (pv 1)) (fe_gstr rfl M.c_SMALL) rfl) (fe_one (fe_cmp (od_in (unt65 hr)) (fe_var (pv 1)) (fe_gstr rfl M.c_FIGURES) rfl))))) fun _ _ _ t => im_comp t) fa_nil))))) fun _ _ _ t => im_seq t) (by decide +kernel))
theorem ok_checked_suspects (M : MF K mg) : FnOk P w K mg base (L2.CX P w) 3 (He.fAd K ("checked_suspects", none)) M.fd_checked_suspects ["thing"] (spD K 0 (tF (f_checked_suspects_e (He.ga K)))) := okF M.F_checked_suspects sc_checked_suspects rfl rfl (fun cdv A outer s H E hr => DSs.le (DSs.imp (dss_cons (DS.imp (ds_if (DWt.dt (fw_or (ft_not (ft_val (fe_dcall (de_call (dd := []) (ok_is_list M) (hr.mono (by decide)) rfl M.g_is_list M.F_is_list.kp (bi_is_list M) .nil (fun _ _ => Reps.nil) (fa_cons (fe_var (pv 0)) fa_nil))))) (fw_or1 (ft_cmp (od_eq (unt64 hr)) (fe_callB cd_len rfl M.free_len boot_len (fa_cons (fe_var (pv 0)) fa_nil)) fe_int (nomark _))))) (dss_one (DS.imp (ds_raise1 M.e_BadSuspects.T M.e_BadSuspects.iC M.e_BadSuspects.tI (ok_i_BadSuspects M) (hr.mono (by decide)) (bi_BadSuspects M) rfl rfl M.g_BadSuspects (fa_cons fe_int fa_nil)) fun _ _ _ t => im_raise t)) dss_nil) fun _ _ _ t => im_if t)
    (DSs.imp (dss_cons (fs_for (vs' := [1, 2]) [1, 2] (passes_of rfl) rfl (DI.imp (di_enum rfl M.free_enumerate (fa_cons (fe_var (pv 0)) fa_nil)) fun _ _ _ t => im_enum t) (DG.imp (dg_tup (len_gsC (len_gsC len_gsN)) rfl (DGs.imp (dgs_cons (DG.imp (dg_name (i := 1) (by decide) sc_checked_suspects.nd rfl (by first | exact Or.inl rfl | exact Or.inr rfl)) fun _ _ _ t => im_gN t) (DGs.imp (dgs_cons (DG.imp (dg_name (i := 2) (by decide) sc_checked_suspects.nd rfl (by first | exact Or.inl rfl | exact Or.inr rfl)) fun _ _ _ t => im_gN t) (DGs.imp dgs_nil fun _ _ _ t => im_gsN t)) fun _ _ _ t => im_gsC t)) fun _ _ _ t => im_gsC t)) fun _ _ _ t => im_gT t) (dss_one (DS.imp (ds_if (DWt.dt (fw_or (ft_not (ft_val (fe_dcall (de_call (dd := []) (ok_is_name M) (hr.mono (by decide)) rfl M.g_is_name M.F_is_name.kp (bi_is_name M) .nil (fun _ _ => Reps.nil) (fa_cons (fe_var (pv 2)) fa_nil))))) (fw_or1 (ft_cmp (od_in (unt65 hr)) (fe_var (pv 2)) (fe_sl (fe_var (pv 0)) do_none (DO.imp (do_some (fe_var (pv 1))) fun _ _ _ t => im_oSome t)) rfl)))) (dss_one (DS.imp (ds_raise1 M.e_BadSuspects.T M.e_BadSuspects.iC M.e_BadSuspects.tI (ok_i_BadSuspects M) (hr.mono (by decide)) (bi_BadSuspects M) rfl rfl M.g_BadSuspects (fa_cons (fe_var (pv 1)) fa_nil)) fun _ _ _ t => im_raise t)) dss_nil) fun _ _ _ t => im_if t)))
    (dss_one (fs_ret (fe_callTy cd_list rfl M.free_list boot_list (fa_cons (fe_var (pv 0)) fa_nil))))) fun _ _ _ t => im_seq t)) fun _ _ _ t => im_seq t) (by decide +kernel))
theorem ok_are_names (M : MF K mg) : FnOk P w K mg base (L2.CX P w) 2 (He.fAd K ("are_names", none)) M.fd_are_names ["thing"] (spD K 0 (tF f_are_names)) := okF M.F_are_names sc_are_names rfl rfl (fun cdv A outer s H E hr => DSs.le (DSs.imp (dss_cons (DS.imp (ds_if (DWt.dt (fw_or (ft_not (ft_val (fe_dcall (de_call (dd := []) (ok_is_list M) (hr.mono (by decide)) rfl M.g_is_list M.F_is_list.kp (bi_is_list M) .nil (fun _ _ => Reps.nil) (fa_cons (fe_var (pv 0)) fa_nil))))) (fw_or1 (ft_not (ft_val (fe_callB (cd_all rfl) rfl M.free_all boot_all (fa_cons (DE.imp (de_lc (own := [("one", 1)]) rfl sc_are_names.nd (DI.imp (di_seq (fe_var (pv 0))) fun _ _ _ t => im_items t) (blkOk_by (by kernel_rfl)) (fun _ _ _ _ _ => (DG.imp (dg_name (i := 1) (by decide) sc_are_names.nd rfl (by first | exact Or.inl rfl | exact Or.inr rfl)) fun _ _ _ t => im_gN t)) (fun _ _ _ _ _ => dts_nil) (fun _ _ _ _ _ => (fe_dcall (de_call (dd := []) (ok_is_name M) (hr.mono (by decide)) rfl M.g_is_name M.F_is_name.kp (bi_is_name M) .nil (fun _ _ => Reps.nil) (fa_cons (fe_var (pv 1)) fa_nil))))) fun _ _ _ t => im_comp t) fa_nil))))))) (dss_one (fs_ret fe_bl)) dss_nil) fun _ _ _ t => im_if t)
    (dss_one (fs_ret (fe_cmp (od_eq (unt64 hr)) (fe_lenSet rfl rfl M.free_len rfl M.free_set (fe_var (pv 0))) (fe_callB cd_len rfl M.free_len boot_len (fa_cons (fe_var (pv 0)) fa_nil)) (nomark _))))) fun _ _ _ t => im_seq t) (by decide +kernel))
theorem ok_checked_askings (M : MF K mg) : FnOk P w K mg base (L2.CX P w) 3 (He.fAd K ("checked_askings", none)) M.fd_checked_askings ["thing"] (spD K 0 (tF (f_checked_askings_e (He.ga K)))) := okF M.F_checked_askings sc_checked_askings rfl rfl (fun cdv A outer s H E hr => DSs.le (DSs.imp (dss_cons (DS.imp (ds_if (DWt.dt (fw_or (ft_not (ft_val (fe_dcall (de_call (dd := []) (ok_is_list M) (hr.mono (by decide)) rfl M.g_is_list M.F_is_list.kp (bi_is_list M) .nil (fun _ _ => Reps.nil) (fa_cons (fe_var (pv 0)) fa_nil))))) (fw_or1 (ft_cmp (od_eq (unt64 hr)) (fe_callB cd_len rfl M.free_len boot_len (fa_cons (fe_var (pv 0)) fa_nil)) fe_int (nomark _))))) (dss_one (DS.imp (ds_raise1 M.e_BadAskings.T M.e_BadAskings.iC M.e_BadAskings.tI (ok_i_BadAskings M) (hr.mono (by decide)) (bi_BadAskings M) rfl rfl M.g_BadAskings (fa_cons fe_int fa_nil)) fun _ _ _ t => im_raise t)) dss_nil) fun _ _ _ t => im_if t)
    (DSs.imp (dss_cons (fs_for (vs' := [1, 2]) [1] (passes_of rfl) rfl (DI.imp (di_enum rfl M.free_enumerate (fa_cons (fe_var (pv 0)) fa_nil)) fun _ _ _ t => im_enum t) (DG.imp (dg_tup (len_gsC (len_gsC len_gsN)) rfl (DGs.imp (dgs_cons (DG.imp (dg_name (i := 1) (by decide) sc_checked_askings.nd rfl (by first | exact Or.inl rfl | exact Or.inr rfl)) fun _ _ _ t => im_gN t) (DGs.imp (dgs_cons (DG.imp (dg_name (i := 2) (by decide) sc_checked_askings.nd rfl (by first | exact Or.inl rfl | exact Or.inr rfl)) fun _ _ _ t => im_gN t) (DGs.imp dgs_nil fun _ _ _ t => im_gsN t)) fun _ _ _ t => im_gsC t)) fun _ _ _ t => im_gsC t)) fun _ _ _ t => im_gT t) (dss_one (DS.imp (ds_if (ft_not (ft_val (fe_dcall (de_call (dd := []) (ok_are_names M) (hr.mono (by decide)) rfl M.g_are_names M.F_are_names.kp (bi_are_names M) .nil (fun _ _ => Reps.nil) (fa_cons (fe_var (pv 2)) fa_nil))))) (dss_one (DS.imp (ds_raise1 M.e_BadAskings.T M.e_BadAskings.iC M.e_BadAskings.tI (ok_i_BadAskings M) (hr.mono (by decide)) (bi_BadAskings M) rfl rfl M.g_BadAskings (fa_cons (fe_var (pv 1)) fa_nil)) fun _ _ _ t => im_raise t)) dss_nil) fun _ _ _ t => im_if t)))
    (dss_one (fs_ret (DE.imp (de_lc (own := [("some", 2)]) rfl sc_checked_askings.nd (DI.imp (di_seq (fe_var (pv 0))) fun _ _ _ t => im_items t) (blkOk_by (by kernel_rfl)) (fun _ _ _ _ _ => (DG.imp (dg_name (i := 2) (by decide) sc_checked_askings.nd rfl (by first | exact Or.inl rfl | exact Or.inr rfl)) fun _ _ _ t => im_gN t)) (fun _ _ _ _ _ => dts_nil) (fun _ _ _ _ _ => (fe_callTy cd_list rfl M.free_list boot_list (fa_cons (fe_var (pv 2)) fa_nil)))) fun _ _ _ t => im_comp t)))) fun _ _ _ t => im_seq t)) fun _ _ _ t => im_seq t) (by decide +kernel))
theorem ok_is_integer (M : MF K mg) : FnOk P w K mg base (L2.CX P w) 1 (He.fAd K ("is_integer", none)) M.fd_is_integer ["thing"] (spD K 0 (tF f_is_integer)) := okF M.F_is_integer sc_is_integer rfl rfl (fun cdv A outer s H E hr => DSs.le (dss_one (fs_ret (fe_and (fe_callB cd_isi rfl M.free_isinstance boot_isinstance (fa_cons (fe_var (pv 0)) (fa_cons (fe_ty rfl M.free_int (by decide +kernel)) fa_nil))) (fe_one (fe_not (fe_callB cd_isi rfl M.free_isinstance boot_isinstance (fa_cons (fe_var (pv 0)) (fa_cons (fe_ty rfl M.free_bool (by decide +kernel)) fa_nil)))))))) (by decide +kernel))
theorem ok_checked_lies (M : MF K mg) : FnOk P w K mg base (L2.CX P w) 3 (He.fAd K ("checked_lies", none)) M.fd_checked_lies ["thing"] (spD K 0 (tF (f_checked_lies_e (He.ga K)))) := okF M.F_checked_lies sc_checked_lies rfl rfl (fun cdv A outer s H E hr => DSs.le (DSs.imp (dss_cons (DS.imp (ds_if (DWt.dt (fw_or (ft_not (ft_val (fe_dcall (de_call (dd := []) (ok_is_integer M) (hr.mono (by decide)) rfl M.g_is_integer M.F_is_integer.kp (bi_is_integer M) .nil (fun _ _ => Reps.nil) (fa_cons (fe_var (pv 0)) fa_nil))))) (fw_or1 (ft_cmp (od_notin (unt65 hr)) (fe_var (pv 0)) (fe_tup (fa_cons fe_int (fa_cons fe_int fa_nil))) rfl)))) (dss_one (DS.imp (ds_raise1 M.e_BadLies.T M.e_BadLies.iC M.e_BadLies.tI (ok_i_BadLies M) (hr.mono (by decide)) (bi_BadLies M) rfl rfl M.g_BadLies (fa_cons (fe_var (pv 0)) fa_nil)) fun _ _ _ t => im_raise t)) dss_nil) fun _ _ _ t => im_if t)
    (dss_one (fs_ret (fe_move (pv 0))))) fun _ _ _ t => im_seq t) (by decide +kernel))
theorem ok_Hunt_init (M : MF K mg) : FnOk P w K mg base (L2.CX P w) 4 (He.fAd K ("Hunt", some "__init__")) M.fd_Hunt_init ["self", "suspects", "askings", "lies"] (spIM K (He.ga K "Hunt") "known" 0 (tFI (f_Hunt_init_m (He.ga K)))) := okFIM M.F_Hunt_init sc_Hunt_init M.cls_Hunt M.noat_Hunt_known rfl rfl yF_ok (fun cdv A outer s H E hr => DSc.le (DSc.imp (dsc_cons (fs_setF (ds_setF (i := 0) M.cls_Hunt M.noat_Hunt_ones (pv 0) (fe_dcall (de_call (dd := []) (ok_checked_suspects M) (hr.mono (by decide)) rfl M.g_checked_suspects M.F_checked_suspects.kp (bi_checked_suspects M) .nil (fun _ _ => Reps.nil) (fa_cons (fe_var (pv 1)) fa_nil)))))
    (DSc.imp (dsc_cons (DS.imp (ds_set (i := 4) sc_Hunt_init.nd rfl (Or.inl rfl) (fe_dcall (de_call (dd := []) (ok_checked_askings M) (hr.mono (by decide)) rfl M.g_checked_askings M.F_checked_askings.kp (bi_checked_askings M) .nil (fun _ _ => Reps.nil) (fa_cons (fe_var (pv 2)) fa_nil)))) fun _ _ _ t => im_set t)
    (DSc.imp (dsc_cons (fs_setF (ds_setF (i := 0) M.cls_Hunt M.noat_Hunt_most (pv 0) (fe_dcall (de_call (dd := []) (ok_checked_lies M) (hr.mono (by decide)) rfl M.g_checked_lies M.F_checked_lies.kp (bi_checked_lies M) .nil (fun _ _ => Reps.nil) (fa_cons (fe_var (pv 3)) fa_nil)))))
    (DSc.imp (dsc_cons (fs_setF (ds_setF (i := 0) M.cls_Hunt M.noat_Hunt_signs (pv 0) (DE.imp (de_lc (own := [("row", 5)]) rfl sc_Hunt_init.nd (DI.imp (di_seq (fe_var (pv 4))) fun _ _ _ t => im_items t) (blkOk_by (by kernel_rfl)) (fun _ _ _ _ _ => (DG.imp (dg_name (i := 5) (by decide) sc_Hunt_init.nd rfl (by first | exact Or.inl rfl | exact Or.inr rfl)) fun _ _ _ t => im_gN t)) (fun _ _ _ _ _ => dts_nil) (fun _ _ _ _ _ => (DE.imp (de_lc (own := [("one", 6)]) rfl sc_Hunt_init.nd (DI.imp (di_seq (fe_fldO (de_fldO M.cls_Hunt M.noat_Hunt_ones (pv 0)))) fun _ _ _ t => im_items t) (blkOk_by (by kernel_rfl)) (fun _ _ _ _ _ => (DG.imp (dg_name (i := 6) (by decide) sc_Hunt_init.nd rfl (by first | exact Or.inl rfl | exact Or.inr rfl)) fun _ _ _ t => im_gN t)) (fun _ _ _ _ _ => dts_nil) (fun _ _ _ _ _ => (fe_cmp (od_in (unt65 hr)) (fe_var (pv 6)) (fe_var (pv 5)) rfl))) fun _ _ _ t => im_comp t))) fun _ _ _ t => im_comp t)))
    (dsc_one (show PS _ _ (sMe _ _) from ps_fld (pv 0) pe_dnewM rfl))) fun _ _ _ t => im_seq t)) fun _ _ _ t => im_seq t)) fun _ _ _ t => im_seq t)) fun _ _ _ t => im_seq t) (by decide +kernel))
theorem ok_fewest_askings (M : MF K mg) : FnOk P w K mg base (L2.CX P w) 44 (He.fAd K ("fewest_askings", none)) M.fd_fewest_askings ["suspects", "askings", "lies"] (spD K 0 (tF (f_fewest_askings_e (He.ga K)))) := okF M.F_fewest_askings sc_fewest_askings rfl rfl (fun cdv A outer s H E hr => DSs.le (dss_retHunt (md := mdH) M.mk_Hunt (ok_Hunt_init M) (hr.mono (by decide)) rfl M.g_Hunt (bi_Hunt_init M) (ok_fewest_of M) (hr.mono (by decide)) rfl M.g_fewest_of M.F_fewest_of.kp (bi_fewest_of M) (fa_cons (fe_var (pv 0)) (fa_cons (fe_var (pv 1)) (fa_cons (fe_var (pv 2)) fa_nil)))) (by decide +kernel))
theorem ok_l_m_left (M : MF K mg) : FnOk P w K mg base (L2.CX P w) 1 (He.fAd K ("_law_m_left", none)) M.fd_l_m_left ["_law_names", "_law_state", "_law_lies"] (spD K 0 (tF f_l_m_left)) := okF M.F_l_m_left sc_l_m_left rfl rfl (fun cdv A outer s H E hr => DSs.le (dss_one (fs_ret (DE.imp (de_lc (own := [("_law_name", 3), ("_law_many", 4)]) rfl sc_l_m_left.nd (DI.imp (di_zip rfl M.free_zip (fa_cons (fe_var (pv 0)) (fa_cons (fe_var (pv 1)) fa_nil))) fun _ _ _ t => im_zip t) (blkOk_by (by kernel_rfl)) (fun _ _ _ _ _ => (DG.imp (dg_tup (len_gsC (len_gsC len_gsN)) rfl (DGs.imp (dgs_cons (DG.imp (dg_name (i := 3) (by decide) sc_l_m_left.nd rfl (by first | exact Or.inl rfl | exact Or.inr rfl)) fun _ _ _ t => im_gN t) (DGs.imp (dgs_cons (DG.imp (dg_name (i := 4) (by decide) sc_l_m_left.nd rfl (by first | exact Or.inl rfl | exact Or.inr rfl)) fun _ _ _ t => im_gN t) (DGs.imp dgs_nil fun _ _ _ t => im_gsN t)) fun _ _ _ t => im_gsC t)) fun _ _ _ t => im_gsC t)) fun _ _ _ t => im_gT t)) (fun _ _ _ _ _ => (dts_one (ft_cmp od_le (fe_var (pv 4)) (fe_var (pv 2)) (nomark _)))) (fun _ _ _ _ _ => (fe_var (pv 3)))) fun _ _ _ t => im_comp t))) (by decide +kernel))
theorem ok_l_m_after (M : MF K mg) : FnOk P w K mg base (L2.CX P w) 1 (He.fAd K ("_law_m_after", none)) M.fd_l_m_after ["_law_names", "_law_askings", "_law_state", "_law_index", "_law_answer"] (spD K 0 (tF f_l_m_after)) := okF M.F_l_m_after sc_l_m_after rfl rfl (fun cdv A outer s H E hr => DSs.le (dss_one (fs_ret (fe_callTy cd_tuple rfl M.free_tuple boot_tuple (fa_cons (DE.imp (de_lc (own := [("_law_name", 5), ("_law_many", 6)]) rfl sc_l_m_after.nd (DI.imp (di_zip rfl M.free_zip (fa_cons (fe_var (pv 0)) (fa_cons (fe_var (pv 2)) fa_nil))) fun _ _ _ t => im_zip t) (blkOk_by (by kernel_rfl)) (fun _ _ _ _ _ => (DG.imp (dg_tup (len_gsC (len_gsC len_gsN)) rfl (DGs.imp (dgs_cons (DG.imp (dg_name (i := 5) (by decide) sc_l_m_after.nd rfl (by first | exact Or.inl rfl | exact Or.inr rfl)) fun _ _ _ t => im_gN t) (DGs.imp (dgs_cons (DG.imp (dg_name (i := 6) (by decide) sc_l_m_after.nd rfl (by first | exact Or.inl rfl | exact Or.inr rfl)) fun _ _ _ t => im_gN t) (DGs.imp dgs_nil fun _ _ _ t => im_gsN t)) fun _ _ _ t => im_gsC t)) fun _ _ _ t => im_gsC t)) fun _ _ _ t => im_gT t)) (fun _ _ _ _ _ => dts_nil) (fun _ _ _ _ _ => (fe_op od_add (fe_var (pv 6)) (fe_callTy cd_int rfl M.free_int boot_int (fa_cons (fe_cmp (od_ne (unt64 hr)) (fe_cmp (od_in (unt65 hr)) (fe_var (pv 5)) (DE.imp (de_ix (fe_var (pv 1)) (fe_var (pv 3)) (fun _ _ => rfl)) fun _ _ _ t => im_op2 t) rfl) (fe_var (pv 4)) (nomark _)) fa_nil))))) fun _ _ _ t => im_comp t) fa_nil)))) (by decide +kernel))
theorem ok_l_m_is_enough_step (M : MF K mg) {k : Nat} {fe : FN} (hk : 1 ≤ k) (ih : FnOk P w K mg base (L2.CX P w) k (He.fAd K ("_law_m_is_enough", none)) M.fd_l_m_is_enough ["_law_names", "_law_askings", "_law_lies", "_law_state", "_law_many", "_law_known"] (spD K 0 (tF fe))) : FnOk P w K mg base (L2.CX P w) (k + 1) (He.fAd K ("_law_m_is_enough", none)) M.fd_l_m_is_enough ["_law_names", "_law_askings", "_law_lies", "_law_state", "_law_many", "_law_known"] (spD K (0) (tF (defF 6 11 (b_l_m_is_enough  fe)))) := okF M.F_l_m_is_enough sc_l_m_is_enough rfl rfl (fun cdv A outer s H E hr => DSs.le (DSs.imp (dss_cons (DS.imp (ds_if (ft_cmp od_lt (fe_callB cd_len rfl M.free_len boot_len (fa_cons (fe_dcall (de_call (dd := []) (ok_l_m_left M) (hr.mono (by omega)) rfl M.g_l_m_left M.F_l_m_left.kp (bi_l_m_left M) .nil (fun _ _ => Reps.nil) (fa_cons (fe_var (pv 0)) (fa_cons (fe_var (pv 3)) (fa_cons (fe_var (pv 2)) fa_nil))))) fa_nil)) fe_int (nomark _)) (dss_one (fs_ret fe_bl)) dss_nil) fun _ _ _ t => im_if t)
    (DSs.imp (dss_cons (DS.imp (ds_set (i := 3) sc_l_m_is_enough.nd rfl (Or.inr rfl) (fe_callTy cd_tuple rfl M.free_tuple boot_tuple (fa_cons (DE.imp (de_lc (own := [("_law_one", 6)]) rfl sc_l_m_is_enough.nd (DI.imp (di_seq (fe_var (pv 3))) fun _ _ _ t => im_items t) (blkOk_by (by kernel_rfl)) (fun _ _ _ _ _ => (DG.imp (dg_name (i := 6) (by decide) sc_l_m_is_enough.nd rfl (by first | exact Or.inl rfl | exact Or.inr rfl)) fun _ _ _ t => im_gN t)) (fun _ _ _ _ _ => dts_nil) (fun _ _ _ _ _ => (fe_callB (cd_min2 rfl) rfl M.free_min boot_min (fa_cons (fe_var (pv 6)) (fa_cons (fe_op od_add (fe_var (pv 2)) fe_int) fa_nil))))) fun _ _ _ t => im_comp t) fa_nil))) fun _ _ _ t => im_set t)
    (dss_lmemo (vs := [7]) (i := 5) (js := 3) (jm := 4) (Nat.lt_of_le_of_lt (Nat.add_le_add_left (by decide : 9 ≤ 64) _) (unt64 hr)) (pt_cmp (pc_gt (pv 4) pe_int)) (pe_cmp (pc_gt (pv 4) pe_int)) (pe_tup (pa_cons (pv 3) (pa_cons (pv 4) pa_nil))) (pe_tup (pa_cons (pv 3) (pa_cons (pv 4) pa_nil))) (pe_tup (pa_cons (pv 3) (pa_cons (pv 4) pa_nil))) (pe_tup (pa_cons (pv 3) (pa_cons (pv 4) pa_nil))) (pv 5) (pv 5) (pv 5) (pv 5) (passes_of rfl) rfl (DI.imp (di_range1 rfl M.free_range (fa_cons (fe_callB cd_len rfl M.free_len boot_len (fa_cons (fe_var (pv 1)) fa_nil)) fa_nil)) fun _ _ _ t => im_rng1 t) (DG.imp (dg_name (i := 7) (by decide) sc_l_m_is_enough.nd rfl (by first | exact Or.inl rfl | exact Or.inr rfl)) fun _ _ _ t => im_gN t) (DS.imp (ds_setLc (own := [("_law_answer", 9)]) (i := 8) rfl sc_l_m_is_enough.nd rfl rfl (sw_true rfl rfl rfl (by decide +kernel)) (DI.imp (di_seq (fe_tup (fa_cons fe_bl (fa_cons fe_bl fa_nil)))) fun _ _ _ t => im_items t) (blkOk_by (by kernel_rfl)) (fun _ _ _ _ _ => (DG.imp (dg_name (i := 9) (by decide) sc_l_m_is_enough.nd rfl (by first | exact Or.inl rfl | exact Or.inr rfl)) fun _ _ _ t => im_gN t)) (fun _ _ _ _ _ => dts_nil) (fun _ _ _ _ _ => (fe_dcall (de_call (dd := []) (ok_l_m_after M) (hr.mono (by omega)) rfl M.g_l_m_after M.F_l_m_after.kp (bi_l_m_after M) .nil (fun _ _ => Reps.nil) (fa_cons (fe_var (pv 0)) (fa_cons (fe_var (pv 1)) (fa_cons (fe_var (pv 3)) (fa_cons (fe_var (pv 7)) (fa_cons (fe_var (pv 9)) fa_nil))))))))) fun _ _ _ t => im_setComp t) (ft_val (fe_callB (cd_all rfl) rfl M.free_all boot_all (fa_cons (DE.imp (de_lc (own := [("_law_end", 10)]) rfl sc_l_m_is_enough.nd (DI.imp (di_seq (fe_var (pv 8))) fun _ _ _ t => im_items t) (blkOk_by (by kernel_rfl)) (fun _ _ _ _ _ => (DG.imp (dg_name (i := 10) (by decide) sc_l_m_is_enough.nd rfl (by first | exact Or.inl rfl | exact Or.inr rfl)) fun _ _ _ t => im_gN t)) (fun _ _ _ _ _ => dts_nil) (fun _ _ _ _ _ => (fe_dcall (de_call (dd := []) ih (hr.mono (by omega)) rfl M.g_l_m_is_enough M.F_l_m_is_enough.kp (bi_l_m_is_enough M) .nil (fun _ _ => Reps.nil) (fa_cons (fe_var (pv 0)) (fa_cons (fe_var (pv 1)) (fa_cons (fe_var (pv 2)) (fa_cons (fe_var (pv 10)) (fa_cons (fe_op od_sub (fe_var (pv 4)) fe_int) (fa_cons (fe_var (pv 5)) fa_nil)))))))))) fun _ _ _ t => im_comp t) fa_nil))) (fun _ _ => rfl))) fun _ _ _ t => im_seq t)) fun _ _ _ t => im_seq t) (by decide +kernel))
theorem ok_l_m_is_enough (M : MF K mg) : ∀ m, FnOk P w K mg base (L2.CX P w) (1 + 1 * m) (He.fAd K ("_law_m_is_enough", none)) M.fd_l_m_is_enough ["_law_names", "_law_askings", "_law_lies", "_law_state", "_law_many", "_law_known"] (spD K 0 (tF (f_l_m_is_enough  m)))
  | 0 => ok_none
  | m + 1 => ok_l_m_is_enough_step M (k := 1 + 1 * m) (Nat.le_add_right _ _) (ok_l_m_is_enough M m)
theorem ok_l_m_fewest (M : MF K mg) : FnOk P w K mg base (L2.CX P w) 22 (He.fAd K ("_law_m_fewest", none)) M.fd_l_m_fewest ["_law_names", "_law_askings", "_law_lies", "_law_state"] (spD K 0 (tF f_l_m_fewest)) := okF M.F_l_m_fewest sc_l_m_fewest rfl rfl (fun cdv A outer s H E hr => DSs.le (dss_newmemo (i := 4) (w := 5) (md := (mdR 0 1 2)) (dp := ⟨0, 0, 0, 0⟩) (fun te h => ps_par rfl sc_l_m_fewest.nd rfl rfl (by decide) rfl rfl (pa_cons h (pa_cons pe_dnewM pa_nil)) rfl) (fe_dcall (de_call (dd := []) (ok_l_m_left M) (hr.mono (by decide)) rfl M.g_l_m_left M.F_l_m_left.kp (bi_l_m_left M) .nil (fun _ _ => Reps.nil) (fa_cons (fe_var (pv 0)) (fa_cons (fe_var (pv 3)) (fa_cons (fe_var (pv 2)) fa_nil)))))
    (DSs.imp (dss_cons (DS.imp (ds_set (i := 6) sc_l_m_fewest.nd rfl (Or.inr rfl) (DE.imp (de_lc (own := [("_law_name", 7)]) rfl sc_l_m_fewest.nd (DI.imp (di_seq (fe_var (pv 4))) fun _ _ _ t => im_items t) (blkOk_by (by kernel_rfl)) (fun _ _ _ _ _ => (DG.imp (dg_name (i := 7) (by decide) sc_l_m_fewest.nd rfl (by first | exact Or.inl rfl | exact Or.inr rfl)) fun _ _ _ t => im_gN t)) (fun _ _ _ _ _ => dts_nil) (fun _ _ _ _ _ => (DE.imp (de_lc (own := [("_law_row", 8)]) rfl sc_l_m_fewest.nd (DI.imp (di_seq (fe_var (pv 1))) fun _ _ _ t => im_items t) (blkOk_by (by kernel_rfl)) (fun _ _ _ _ _ => (DG.imp (dg_name (i := 8) (by decide) sc_l_m_fewest.nd rfl (by first | exact Or.inl rfl | exact Or.inr rfl)) fun _ _ _ t => im_gN t)) (fun _ _ _ _ _ => dts_nil) (fun _ _ _ _ _ => (fe_cmp (od_in (unt65 hr)) (fe_var (pv 7)) (fe_var (pv 8)) rfl))) fun _ _ _ t => im_comp t))) fun _ _ _ t => im_comp t)) fun _ _ _ t => im_set t)
    (DSs.imp (dss_cons (DS.imp (ds_if (ft_val (fe_callB (cd_any rfl) rfl M.free_any boot_any (fa_cons (DE.imp (de_lc (own := [("_law_at", 9), ("_law_sign", 10)]) rfl sc_l_m_fewest.nd (DI.imp (di_enum rfl M.free_enumerate (fa_cons (fe_var (pv 6)) fa_nil)) fun _ _ _ t => im_enum t) (blkOk_by (by kernel_rfl)) (fun _ _ _ _ _ => (DG.imp (dg_tup (len_gsC (len_gsC len_gsN)) rfl (DGs.imp (dgs_cons (DG.imp (dg_name (i := 9) (by decide) sc_l_m_fewest.nd rfl (by first | exact Or.inl rfl | exact Or.inr rfl)) fun _ _ _ t => im_gN t) (DGs.imp (dgs_cons (DG.imp (dg_name (i := 10) (by decide) sc_l_m_fewest.nd rfl (by first | exact Or.inl rfl | exact Or.inr rfl)) fun _ _ _ t => im_gN t) (DGs.imp dgs_nil fun _ _ _ t => im_gsN t)) fun _ _ _ t => im_gsC t)) fun _ _ _ t => im_gsC t)) fun _ _ _ t => im_gT t)) (fun _ _ _ _ _ => dts_nil) (fun _ _ _ _ _ => (fe_cmp (od_in (unt65 hr)) (fe_var (pv 10)) (fe_sl (fe_var (pv 6)) do_none (DO.imp (do_some (fe_var (pv 9))) fun _ _ _ t => im_oSome t)) rfl))) fun _ _ _ t => im_comp t) fa_nil))) (dss_one (fs_ret fe_non)) dss_nil) fun _ _ _ t => im_if t)
    (DSs.imp (dss_cons (DS.imp (ds_set (i := 11) sc_l_m_fewest.nd rfl (Or.inl rfl) fe_int) fun _ _ _ t => im_set t)
    (DSs.imp (dss_cons (fs_while 17 (passes_of rfl) (ft_not (ft_val (fe_dcall (de_call (dd := []) (ok_l_m_is_enough M 20) (hr.mono (by decide)) rfl M.g_l_m_is_enough M.F_l_m_is_enough.kp (bi_l_m_is_enough M) .nil (fun _ _ => Reps.nil) (fa_cons (fe_var (pv 0)) (fa_cons (fe_var (pv 1)) (fa_cons (fe_var (pv 2)) (fa_cons (fe_var (pv 3)) (fa_cons (fe_var (pv 11)) (fa_cons (fe_var (pv 5)) fa_nil)))))))))) (dss_one (DS.imp (ds_set (i := 11) sc_l_m_fewest.nd rfl (Or.inl rfl) (fe_op od_add (fe_var (pv 11)) fe_int)) fun _ _ _ t => im_set t)))
    (dss_one (fs_ret (fe_move (pv 11))))) fun _ _ _ t => im_seq t)) fun _ _ _ t => im_seq t)) fun _ _ _ t => im_seq t)) fun _ _ _ t => im_seq t)) (by decide +kernel))
theorem ok_l_due (M : MF K mg) : FnOk P w K mg base (L2.CX P w) 23 (He.fAd K ("_law_due", none)) M.fd_l_due ["_law_names", "_law_askings", "_law_lies", "_law_state"] (spD K 0 (tF f_l_due)) := okF M.F_l_due sc_l_due rfl rfl (fun cdv A outer s H E hr => DSs.le (DSs.imp (dss_cons (DS.imp (ds_set (i := 4) sc_l_due.nd rfl (Or.inr rfl) (fe_dcall (de_call (dd := []) (ok_l_m_fewest M) (hr.mono (by decide)) rfl M.g_l_m_fewest M.F_l_m_fewest.kp (bi_l_m_fewest M) .nil (fun _ _ => Reps.nil) (fa_cons (fe_var (pv 0)) (fa_cons (fe_var (pv 1)) (fa_cons (fe_var (pv 2)) (fa_cons (fe_var (pv 3)) fa_nil))))))) fun _ _ _ t => im_set t)
    (DSs.imp (dss_cons (DS.imp (ds_if (DWt.dt (fw_or (ft_cmp od_isN (fe_var (pv 4)) fe_non (nomark _)) (fw_or1 (ft_cmp (od_eq (unt64 hr)) (fe_var (pv 4)) fe_int (nomark _))))) (dss_one (fs_ret fe_non)) dss_nil) fun _ _ _ t => im_if t)
    (DSs.imp (dss_cons (fs_for (vs' := [5]) [5, 6] (passes_of rfl) rfl (DI.imp (di_range1 rfl M.free_range (fa_cons (fe_callB cd_len rfl M.free_len boot_len (fa_cons (fe_var (pv 1)) fa_nil)) fa_nil)) fun _ _ _ t => im_rng1 t) (DG.imp (dg_name (i := 5) (by decide) sc_l_due.nd rfl (by first | exact Or.inl rfl | exact Or.inr rfl)) fun _ _ _ t => im_gN t) (DSs.imp (dss_cons (DS.imp (ds_setLc (own := [("_law_answer", 7)]) (i := 6) rfl sc_l_due.nd rfl rfl (sw_true rfl rfl rfl (by decide +kernel)) (DI.imp (di_seq (fe_tup (fa_cons fe_bl (fa_cons fe_bl fa_nil)))) fun _ _ _ t => im_items t) (blkOk_by (by kernel_rfl)) (fun _ _ _ _ _ => (DG.imp (dg_name (i := 7) (by decide) sc_l_due.nd rfl (by first | exact Or.inl rfl | exact Or.inr rfl)) fun _ _ _ t => im_gN t)) (fun _ _ _ _ _ => dts_nil) (fun _ _ _ _ _ => (fe_dcall (de_call (dd := []) (ok_l_m_after M) (hr.mono (by decide)) rfl M.g_l_m_after M.F_l_m_after.kp (bi_l_m_after M) .nil (fun _ _ => Reps.nil) (fa_cons (fe_var (pv 0)) (fa_cons (fe_var (pv 1)) (fa_cons (fe_var (pv 3)) (fa_cons (fe_var (pv 5)) (fa_cons (fe_var (pv 7)) fa_nil))))))))) fun _ _ _ t => im_setComp t)
    (dss_one (DS.imp (ds_if (ft_val (fe_callB (cd_all rfl) rfl M.free_all boot_all (fa_cons (DE.imp (de_lc (own := [("_law_end", 8)]) rfl sc_l_due.nd (DI.imp (di_seq (fe_var (pv 6))) fun _ _ _ t => im_items t) (blkOk_by (by kernel_rfl)) (fun _ _ _ _ _ => (DG.imp (dg_name (i := 8) (by decide) sc_l_due.nd rfl (by first | exact Or.inl rfl | exact Or.inr rfl)) fun _ _ _ t => im_gN t)) (fun _ _ _ _ _ => dts_nil) (fun _ _ _ _ _ => (de_callM (md := mdA) (ok_l_m_is_enough M 20) (hr.mono (by decide)) rfl M.g_l_m_is_enough M.F_l_m_is_enough.kp (bi_l_m_is_enough M) (dam_cons (fe_var (pv 0)) (dam_cons (fe_var (pv 1)) (dam_cons (fe_var (pv 2)) (dam_cons (fe_var (pv 8)) (dam_cons (fe_op od_sub (fe_var (pv 4)) fe_int) dam_nil)))))))) fun _ _ _ t => im_comp t) fa_nil))) (dss_one (fs_ret (fe_move (pv 5)))) dss_nil) fun _ _ _ t => im_if t))) fun _ _ _ t => im_seq t))
    (dss_one (fs_ret fe_non))) fun _ _ _ t => im_seq t)) fun _ _ _ t => im_seq t)) fun _ _ _ t => im_seq t) (by decide +kernel))
theorem ok_l_pick (M : MF K mg) : FnOk P w K mg base (L2.CX P w) 2 (He.fAd K ("_law_pick", none)) M.fd_l_pick ["_law_stream", "_law_some"] (spD K 1 (tF f_l_pick)) := okF M.F_l_pick sc_l_pick rfl rfl (fun cdv A outer s H E hr => DSs.le (dss_one (fs_ret (DE.imp (de_ix (fe_var (pv 1)) (fe_dcall (de_call (dd := []) (ok_l_draw M) (hr.mono (by decide)) rfl M.g_l_draw M.F_l_draw.kp (bi_l_draw M) .nil (fun _ _ => Reps.nil) (fa_cons (fe_var (pv 0)) (fa_cons (fe_callB cd_len rfl M.free_len boot_len (fa_cons (fe_var (pv 1)) fa_nil)) fa_nil)))) (fun _ _ => rfl)) fun _ _ _ t => im_op2 t))) (by decide +kernel))
theorem ok_Hunt_behind_all (M : MF K mg) : FnOk P w K mg base (L2.CX P w) 2 (He.fAd K ("Hunt", some "behind_all")) M.fd_Hunt_behind_all ["self", "answers"] (spD K 0 (tF (f_Hunt_behind_all_e (He.ga K)))) := okF M.F_Hunt_behind_all sc_Hunt_behind_all rfl rfl (fun cdv A outer s H E hr => DSs.le (DSs.imp (dss_cons (DS.imp (ds_set (i := 2) sc_Hunt_behind_all.nd rfl (Or.inl rfl) (fe_meth0 (de_meth0 (dd := []) M.cls_Hunt M.me_Hunt_begun (ok_Hunt_begun M) (hr.mono (by decide)) (bi_Hunt_begun M) .nil (fun _ _ => Reps.nil) (fe_var (pv 0))))) fun _ _ _ t => im_set t)
    (DSs.imp (dss_cons (fs_for (vs' := [3, 4]) [3, 4] (passes_of rfl) rfl (DI.imp (di_seq (fe_var (pv 1))) fun _ _ _ t => im_items t) (DG.imp (dg_tup (len_gsC (len_gsC len_gsN)) rfl (DGs.imp (dgs_cons (DG.imp (dg_name (i := 3) (by decide) sc_Hunt_behind_all.nd rfl (by first | exact Or.inl rfl | exact Or.inr rfl)) fun _ _ _ t => im_gN t) (DGs.imp (dgs_cons (DG.imp (dg_name (i := 4) (by decide) sc_Hunt_behind_all.nd rfl (by first | exact Or.inl rfl | exact Or.inr rfl)) fun _ _ _ t => im_gN t) (DGs.imp dgs_nil fun _ _ _ t => im_gsN t)) fun _ _ _ t => im_gsC t)) fun _ _ _ t => im_gsC t)) fun _ _ _ t => im_gT t) (dss_one (DS.imp (ds_set (i := 2) sc_Hunt_behind_all.nd rfl (Or.inl rfl) (fe_meth (de_meth (dd := []) M.cls_Hunt M.me_Hunt_behind_answer (ok_Hunt_behind_answer M) (hr.mono (by decide)) (bi_Hunt_behind_answer M) .nil (fun _ _ => Reps.nil) (fe_var (pv 0)) (fa_cons (fe_var (pv 2)) (fa_cons (fe_var (pv 3)) (fa_cons (fe_var (pv 4)) fa_nil)))))) fun _ _ _ t => im_set t)))
    (dss_one (fs_ret (fe_move (pv 2))))) fun _ _ _ t => im_seq t)) fun _ _ _ t => im_seq t) (by decide +kernel))
theorem ok_checked_answers (M : MF K mg) : FnOk P w K mg base (L2.CX P w) 3 (He.fAd K ("checked_answers", none)) M.fd_checked_answers ["thing", "many"] (spD K 0 (tF (f_checked_answers_e (He.ga K)))) := okF M.F_checked_answers sc_checked_answers rfl rfl (fun cdv A outer s H E hr => DSs.le (DSs.imp (dss_cons (DS.imp (ds_if (ft_not (ft_val (fe_dcall (de_call (dd := []) (ok_is_list M) (hr.mono (by decide)) rfl M.g_is_list M.F_is_list.kp (bi_is_list M) .nil (fun _ _ => Reps.nil) (fa_cons (fe_var (pv 0)) fa_nil))))) (dss_one (DS.imp (ds_raise1 M.e_BadAnswers.T M.e_BadAnswers.iC M.e_BadAnswers.tI (ok_i_BadAnswers M) (hr.mono (by decide)) (bi_BadAnswers M) rfl rfl M.g_BadAnswers (fa_cons fe_int fa_nil)) fun _ _ _ t => im_raise t)) dss_nil) fun _ _ _ t => im_if t)
    (DSs.imp (dss_cons (fs_for (vs' := [2, 3]) [2] (passes_of rfl) rfl (DI.imp (di_enum rfl M.free_enumerate (fa_cons (fe_var (pv 0)) fa_nil)) fun _ _ _ t => im_enum t) (DG.imp (dg_tup (len_gsC (len_gsC len_gsN)) rfl (DGs.imp (dgs_cons (DG.imp (dg_name (i := 2) (by decide) sc_checked_answers.nd rfl (by first | exact Or.inl rfl | exact Or.inr rfl)) fun _ _ _ t => im_gN t) (DGs.imp (dgs_cons (DG.imp (dg_name (i := 3) (by decide) sc_checked_answers.nd rfl (by first | exact Or.inl rfl | exact Or.inr rfl)) fun _ _ _ t => im_gN t) (DGs.imp dgs_nil fun _ _ _ t => im_gsN t)) fun _ _ _ t => im_gsC t)) fun _ _ _ t => im_gsC t)) fun _ _ _ t => im_gT t) (DSs.imp (dss_cons (DS.imp (ds_if (DWt.dt (fw_or (ft_not (ft_val (fe_dcall (de_call (dd := []) (ok_is_list M) (hr.mono (by decide)) rfl M.g_is_list M.F_is_list.kp (bi_is_list M) .nil (fun _ _ => Reps.nil) (fa_cons (fe_var (pv 3)) fa_nil))))) (fw_or (ft_cmp (od_ne (unt64 hr)) (fe_callB cd_len rfl M.free_len boot_len (fa_cons (fe_var (pv 3)) fa_nil)) fe_int (nomark _)) (fw_or (ft_not (ft_val (fe_dcall (de_call (dd := []) (ok_is_integer M) (hr.mono (by decide)) rfl M.g_is_integer M.F_is_integer.kp (bi_is_integer M) .nil (fun _ _ => Reps.nil) (fa_cons (DE.imp (de_ix (fe_var (pv 3)) fe_int (fun _ _ => rfl)) fun _ _ _ t => im_op2 t) fa_nil))))) (fw_or1 (ft_not (ft_val (fe_callB cd_isi rfl M.free_isinstance boot_isinstance (fa_cons (DE.imp (de_ix (fe_var (pv 3)) fe_int (fun _ _ => rfl)) fun _ _ _ t => im_op2 t) (fa_cons (fe_ty rfl M.free_bool (by decide +kernel)) fa_nil)))))))))) (dss_one (DS.imp (ds_raise1 M.e_BadAnswers.T M.e_BadAnswers.iC M.e_BadAnswers.tI (ok_i_BadAnswers M) (hr.mono (by decide)) (bi_BadAnswers M) rfl rfl M.g_BadAnswers (fa_cons (fe_var (pv 2)) fa_nil)) fun _ _ _ t => im_raise t)) dss_nil) fun _ _ _ t => im_if t)
    (dss_one (DS.imp (ds_if (ft_not (ft_chain od_le od_lt fe_int (DE.imp (de_ix (fe_var (pv 3)) fe_int (fun _ _ => rfl)) fun _ _ _ t => im_op2 t) (fe_var (pv 1)))) (dss_one (DS.imp (ds_raise1 M.e_BadAnswers.T M.e_BadAnswers.iC M.e_BadAnswers.tI (ok_i_BadAnswers M) (hr.mono (by decide)) (bi_BadAnswers M) rfl rfl M.g_BadAnswers (fa_cons (fe_var (pv 2)) fa_nil)) fun _ _ _ t => im_raise t)) dss_nil) fun _ _ _ t => im_if t))) fun _ _ _ t => im_seq t))
    (dss_one (fs_ret (DE.imp (de_lc (own := [("pair", 3)]) rfl sc_checked_answers.nd (DI.imp (di_seq (fe_var (pv 0))) fun _ _ _ t => im_items t) (blkOk_by (by kernel_rfl)) (fun _ _ _ _ _ => (DG.imp (dg_name (i := 3) (by decide) sc_checked_answers.nd rfl (by first | exact Or.inl rfl | exact Or.inr rfl)) fun _ _ _ t => im_gN t)) (fun _ _ _ _ _ => dts_nil) (fun _ _ _ _ _ => (fe_tup (fa_cons (DE.imp (de_ix (fe_var (pv 3)) fe_int (fun _ _ => rfl)) fun _ _ _ t => im_op2 t) (fa_cons (DE.imp (de_ix (fe_var (pv 3)) fe_int (fun _ _ => rfl)) fun _ _ _ t => im_op2 t) fa_nil))))) fun _ _ _ t => im_comp t)))) fun _ _ _ t => im_seq t)) fun _ _ _ t => im_seq t) (by decide +kernel))
theorem ok_first_right (M : MF K mg) : FnOk P w K mg base (L2.CX P w) 43 (He.fAd K ("first_right", none)) M.fd_first_right ["hunt", "state", "many"] (spD K 0 (tF (f_first_right_e (He.ga K)))) := okF M.F_first_right sc_first_right rfl rfl (fun cdv A outer s H E hr => DSs.le (dss_one (fs_ret (DE.imp (de_ix (DE.imp (de_lc (own := [("index", 3)]) rfl sc_first_right.nd (DI.imp (di_range1 rfl M.free_range (fa_cons (fe_callB cd_len rfl M.free_len boot_len (fa_cons (fe_fld (de_fld M.cls_Hunt M.noat_Hunt_signs (fe_var (pv 0)))) fa_nil)) fa_nil)) fun _ _ _ t => im_rng1 t) (blkOk_by (by kernel_rfl)) (fun _ _ _ _ _ => (DG.imp (dg_name (i := 3) (by decide) sc_first_right.nd rfl (by first | exact Or.inl rfl | exact Or.inr rfl)) fun _ _ _ t => im_gN t)) (fun _ _ _ _ _ => (dts_one (ft_val (fe_meth (de_meth (dd := []) M.cls_Hunt M.me_Hunt_is_right (ok_Hunt_is_right_step M (by decide) (ok_Hunt_is_enough M 20)) (hr.mono (by decide)) (bi_Hunt_is_right M) .nil (fun _ _ => Reps.nil) (fe_var (pv 0)) (fa_cons (fe_var (pv 1)) (fa_cons (fe_var (pv 3)) (fa_cons (fe_var (pv 2)) fa_nil)))))))) (fun _ _ _ _ _ => (fe_var (pv 3)))) fun _ _ _ t => im_comp t) fe_int (fun _ _ => rfl)) fun _ _ _ t => im_op2 t))) (by decide +kernel))
theorem ok_ask_next (M : MF K mg) : FnOk P w K mg base (L2.CX P w) 44 (He.fAd K ("ask_next", none)) M.fd_ask_next ["suspects", "askings", "answers", "lies"] (spD K 0 (tF (f_ask_next_e (He.ga K)))) := okF M.F_ask_next sc_ask_next rfl rfl (fun cdv A outer s H E hr => DSs.le (dss_hunt (i := 4) (md := mdH) (dd := []) sc_ask_next.nd rfl (Or.inl rfl) M.mk_Hunt (ok_Hunt_init M) (hr.mono (by decide)) rfl M.g_Hunt (bi_Hunt_init M) .nil (fun _ _ => Reps.nil) (fa_cons (fe_var (pv 0)) (fa_cons (fe_var (pv 1)) (fa_cons (fe_var (pv 3)) fa_nil))) (DSs.imp (dss_cons (DS.imp (ds_set (i := 5) sc_ask_next.nd rfl (Or.inl rfl) (fe_meth (de_meth (dd := []) M.cls_Hunt M.me_Hunt_behind_all (ok_Hunt_behind_all M) (hr.mono (by decide)) (bi_Hunt_behind_all M) .nil (fun _ _ => Reps.nil) (fe_var (pv 4)) (fa_cons (fe_dcall (de_call (dd := []) (ok_checked_answers M) (hr.mono (by decide)) rfl M.g_checked_answers M.F_checked_answers.kp (bi_checked_answers M) .nil (fun _ _ => Reps.nil) (fa_cons (fe_var (pv 2)) (fa_cons (fe_callB cd_len rfl M.free_len boot_len (fa_cons (fe_var (pv 1)) fa_nil)) fa_nil)))) fa_nil)))) fun _ _ _ t => im_set t)
    (DSs.imp (dss_cons (DS.imp (ds_set (i := 6) sc_ask_next.nd rfl (Or.inl rfl) (fe_meth (de_meth (dd := []) M.cls_Hunt M.me_Hunt_fewest_from (ok_Hunt_fewest_from M) (hr.mono (by decide)) (bi_Hunt_fewest_from M) .nil (fun _ _ => Reps.nil) (fe_var (pv 4)) (fa_cons (fe_var (pv 5)) fa_nil)))) fun _ _ _ t => im_set t)
    (dss_one (fs_ret (fe_ifE (DWt.dt (fw_or (ft_cmp od_isN (fe_var (pv 6)) fe_non (nomark _)) (fw_or1 (ft_cmp (od_eq (unt64 hr)) (fe_var (pv 6)) fe_int (nomark _))))) fe_non (fe_dcall (de_call (dd := []) (ok_first_right M) (hr.mono (by decide)) rfl M.g_first_right M.F_first_right.kp (bi_first_right M) .nil (fun _ _ => Reps.nil) (fa_cons (fe_var (pv 4)) (fa_cons (fe_var (pv 5)) (fa_cons (fe_var (pv 6)) fa_nil))))))))) fun _ _ _ t => im_seq t)) fun _ _ _ t => im_seq t)) (by decide +kernel))
theorem ok_possible_ones (M : MF K mg) : FnOk P w K mg base (L2.CX P w) 6 (He.fAd K ("possible_ones", none)) M.fd_possible_ones ["suspects", "askings", "answers", "lies"] (spD K 0 (tF (f_possible_ones_e (He.ga K)))) := okF M.F_possible_ones sc_possible_ones rfl rfl (fun cdv A outer s H E hr => DSs.le (dss_hunt (i := 4) (md := mdH) (dd := []) sc_possible_ones.nd rfl (Or.inl rfl) M.mk_Hunt (ok_Hunt_init M) (hr.mono (by decide)) rfl M.g_Hunt (bi_Hunt_init M) .nil (fun _ _ => Reps.nil) (fa_cons (fe_var (pv 0)) (fa_cons (fe_var (pv 1)) (fa_cons (fe_var (pv 3)) fa_nil))) (dss_one (fs_ret (fe_meth (de_meth (dd := []) M.cls_Hunt M.me_Hunt_left_ones (ok_Hunt_left_ones M) (hr.mono (by decide)) (bi_Hunt_left_ones M) .nil (fun _ _ => Reps.nil) (fe_var (pv 4)) (fa_cons (fe_meth (de_meth (dd := []) M.cls_Hunt M.me_Hunt_behind_all (ok_Hunt_behind_all M) (hr.mono (by decide)) (bi_Hunt_behind_all M) .nil (fun _ _ => Reps.nil) (fe_var (pv 4)) (fa_cons (fe_dcall (de_call (dd := []) (ok_checked_answers M) (hr.mono (by decide)) rfl M.g_checked_answers M.F_checked_answers.kp (bi_checked_answers M) .nil (fun _ _ => Reps.nil) (fa_cons (fe_var (pv 2)) (fa_cons (fe_callB cd_len rfl M.free_len boot_len (fa_cons (fe_var (pv 1)) fa_nil)) fa_nil)))) fa_nil))) fa_nil)))))) (by decide +kernel))
theorem ok_l_hunted (M : MF K mg) : FnOk P w K mg base (L2.CX P w) 45 (He.fAd K ("_law_hunted", none)) M.fd_l_hunted ["_law_names", "_law_askings", "_law_lies", "_law_one", "_law_late"] (spD K 0 (tF (f_l_hunted_e (He.ga K)))) := okF M.F_l_hunted sc_l_hunted rfl rfl (fun cdv A outer s H E hr => DSs.le (DSs.imp (dss_cons (DS.imp (ds_par2 (i := 5) (j := 6) rfl sc_l_hunted.nd rfl rfl (by decide) rfl rfl (fv_cons (fe_lst fa_nil) (fv_cons (fe_dcallD (de_call (dd := []) (ok_ask_next M) (hr.mono (by decide)) rfl M.g_ask_next M.F_ask_next.kp (db_ask_next_4 M).choose_spec.2 (db_ask_next_4 M).choose_spec.1 (fun _ _ => Reps.nil) (fa_cons (fe_var (pv 0)) (fa_cons (fe_var (pv 1)) (fa_cons (fe_lst fa_nil) (fa_cons (fe_var (pv 2)) fa_nil)))))) fv_nil)) rfl) fun _ _ _ t => im_par2 t)
    (DSs.imp (dss_cons (fs_while 41 (passes_of rfl) (DWt.dt (fw_and (ft_cmp od_isnotN (fe_var (pv 6)) fe_non (nomark _)) (fw_and1 (ft_cmp od_lt (DE.imp (de_bor [5] (fe_callB cd_len rfl M.free_len boot_len (fa_cons (fe_var (pv 5)) fa_nil))) fun _ _ _ t => im_bor t) fe_int (nomark _))))) (DSs.imp (dss_cons (DS.imp (ds_set (i := 7) sc_l_hunted.nd rfl (Or.inl rfl) (fe_cmp (od_in (unt65 hr)) (fe_var (pv 3)) (DE.imp (de_ix (fe_var (pv 1)) (fe_var (pv 6)) (fun _ _ => rfl)) fun _ _ _ t => im_op2 t) rfl)) fun _ _ _ t => im_set t)
    (DSs.imp (dss_cons (DS.imp (ds_expr (DE.imp (de_mut (i := 5) md_append PySem.F.slot_list_append PySem.F.type_list_append (pv 5) (fa_cons (fe_tup (fa_cons (fe_var (pv 6)) (fa_cons (fe_ifE (ft_cmp (od_ne (unt64 hr)) (DE.imp (de_bor [5] (fe_callB cd_len rfl M.free_len boot_len (fa_cons (fe_var (pv 5)) fa_nil))) fun _ _ _ t => im_bor t) (fe_var (pv 4)) (nomark _)) (fe_var (pv 7)) (fe_not (fe_var (pv 7)))) fa_nil))) fa_nil)) fun _ _ _ t => im_mut t)) fun _ _ _ t => im_drop t)
    (dss_one (DS.imp (ds_set (i := 6) sc_l_hunted.nd rfl (Or.inl rfl) (DE.imp (de_bor [0, 1, 5, 2] (fe_dcallD (de_call (dd := []) (ok_ask_next M) (hr.mono (by decide)) rfl M.g_ask_next M.F_ask_next.kp (db_ask_next_4 M).choose_spec.2 (db_ask_next_4 M).choose_spec.1 (fun _ _ => Reps.nil) (fa_cons (fe_var (pv 0)) (fa_cons (fe_var (pv 1)) (fa_cons (fe_var (pv 5)) (fa_cons (fe_var (pv 2)) fa_nil))))))) fun _ _ _ t => im_bor t)) fun _ _ _ t => im_set t))) fun _ _ _ t => im_seq t)) fun _ _ _ t => im_seq t))
    (dss_one (fs_ret (fe_ifE (ft_cmp (od_eq (unt64 hr)) (fe_dcallD (de_call (dd := []) (ok_possible_ones M) (hr.mono (by decide)) rfl M.g_possible_ones M.F_possible_ones.kp (db_possible_ones_4 M).choose_spec.2 (db_possible_ones_4 M).choose_spec.1 (fun _ _ => Reps.nil) (fa_cons (fe_var (pv 0)) (fa_cons (fe_var (pv 1)) (fa_cons (fe_var (pv 5)) (fa_cons (fe_var (pv 2)) fa_nil)))))) (fe_lst (fa_cons (fe_var (pv 3)) fa_nil)) (nomark _)) (fe_callB cd_len rfl M.free_len boot_len (fa_cons (fe_var (pv 5)) fa_nil)) fe_non)))) fun _ _ _ t => im_seq t)) fun _ _ _ t => im_seq t) (by decide +kernel))
end
end DL
set_option Elab.async false
set_option linter.all false
set_option maxRecDepth 100000
set_option maxHeartbeats 4000000
namespace DL
open PySem L2 PyProof.Rows HD
section
variable {P : Program} {w : World} {K : PySem.W.Frag} {mg : Str → Option Value} {base : Heap}
theorem ok_l_start (M : MF K mg) : FnOk P w K mg base (L2.CX P w) 1 (He.fAd K ("_law_start", none)) M.fd_l_start ["_law_script"] (spStart K) := by
  refine M.F_l_start.ok sc_l_start (fun vs H Q E ⟨a, ns, e, _⟩ => by rw [e]; rfl) (fun cdv A outer s H vs Q E hr ⟨a, ns, e, hS, hq⟩ => ?_)
  subst e
  refine ⟨_, PSs.nox (pss_one (ps_ret (pe_lst (pa_cons (pe_callTy call_list_of rfl M.free_list boot_list (pa_cons (pv 0) pa_nil)) (pa_cons pe_int (pa_cons pe_int (pa_cons pe_int pa_nil))))))), ?_⟩
  refine ⟨_, rfl, a, ns.map V.int, rfl, .inl hS, fun q hq' => ⟨(show 4 ≤ sizeLine by rw [sizeLine_eq]; decide), fun p hp => ?_⟩⟩
  have ne : p ≠ q := fun z => by rw [z, upd_same] at hp; cases hp
  rw [upd_ne ne] at hp
  exact hq p q hp hq' ne
theorem ex_le {X : Cx} {n m : Nat} {st : Stmt} {t : DTS} (h : DS X n st t) (hn : n ≤ m) : ∃ n, n ≤ m ∧ DS X n st t := ⟨n, hn, h⟩
def pass0 : Stmt := .Pass ⟨0, 0, 0, 0⟩
def forT : Stmt → Expr
  | .For t _ _ _ _ => t
  | _ => .Constant .none 0 ⟨0, 0, 0, 0⟩
def forI : Stmt → Expr
  | .For _ i _ _ _ => i
  | _ => .Constant .none 0 ⟨0, 0, 0, 0⟩
def forP : Stmt → Pos
  | .For _ _ _ _ p => p
  | _ => ⟨0, 0, 0, 0⟩
def l1 : Stmt := (defBody s_law).getD 1 pass0
def l2 : Stmt := (defBody s_law).getD 2 pass0
def forB : Option Stmt → List Stmt
  | some (.For _ _ b _ _) => b
  | _ => []
def lb : List Stmt := forB ((defBody s_law)[1]?)
theorem body_eq : (defBody s_law).drop 1 = [.For (forT l1) (forI l1) lb [] (forP l1), l2] := by kernel_rfl
theorem sf_4 (M : MF K mg) {cdv : Value} {A : Around} {outer : List Env} {s : Shared} {H : Hp} {E : XK} (hr : Room 45 (A.deeper (envOfC "law" (defScope s_law) s.heap.objs.size (He.fAd K ("law", none)) cdv))) : DSs (cxOf (L2.CX P w) P w K mg base ["_law_script", "_law_stream", "_law_turn", "_law_names", "_law_askings", "_law_lies", "_law_few", "_law_again", "_law_answers", "_law_state", "_law_k", "_law_due_here", "_law_handed", "_law_one", "_law_late", "_law_many"] "law" (defScope s_law) (He.fAd K ("law", none)) cdv A outer s H E) 281474976710656 (lb.drop 4) (tS (bs_4 (He.ga K))) :=
  DSs.le (dss_one ((DS.imp (ds_if (ft_cmp od_isnotN (fe_var (pv 6)) fe_non (nomark _)) (dss_one (fs_for (vs' := [13]) [13, 14, 15] (passes_of rfl) rfl (DI.imp (di_seq (fe_var (pv 3))) fun _ _ _ t => im_items t) (DG.imp (dg_name (i := 13) (by decide) sc_law.nd rfl (by first | exact Or.inl rfl | exact Or.inr rfl)) fun _ _ _ t => im_gN t) (dss_one (fs_for (vs' := [14]) [14, 15] (passes_of rfl) rfl (DI.imp (di_seq (fe_op od_add (fe_lst (fa_cons (fe_un ud_neg fe_int) fa_nil)) (fe_sl (fe_dcall (de_call (dd := []) (ok_l_mixed M) (hr.mono (by decide)) rfl M.g_l_mixed M.F_l_mixed.kp (bi_l_mixed M) .nil (fun _ _ => Reps.nil) (fa_cons (fe_var (pv 1)) (fa_cons (fe_rgL rfl rfl M.free_list rfl M.free_range (fe_var (pv 6))) fa_nil)))) do_none (DO.imp (do_some (fe_op od_mul fe_int (fe_var (pv 5)))) fun _ _ _ t => im_oSome t)))) fun _ _ _ t => im_items t) (DG.imp (dg_name (i := 14) (by decide) sc_law.nd rfl (by first | exact Or.inl rfl | exact Or.inr rfl)) fun _ _ _ t => im_gN t) (DSs.imp (dss_cons (DS.imp (ds_set (i := 15) sc_law.nd rfl (Or.inl rfl) (fe_dcall (de_call (dd := []) (ok_l_hunted M) (hr.mono (by decide)) rfl M.g_l_hunted M.F_l_hunted.kp (bi_l_hunted M) .nil (fun _ _ => Reps.nil) (fa_cons (fe_var (pv 3)) (fa_cons (fe_var (pv 4)) (fa_cons (fe_var (pv 5)) (fa_cons (fe_var (pv 13)) (fa_cons (fe_var (pv 14)) fa_nil)))))))) fun _ _ _ t => im_set t)
    (dss_one (DS.imp (ds_if (DWt.dt (fw_or (ft_cmp od_isN (fe_var (pv 15)) fe_non (nomark _)) (fw_or1 (ft_cmp od_gt (fe_var (pv 15)) (fe_var (pv 6)) (nomark _))))) (dss_one (fs_ret fe_bl)) dss_nil) fun _ _ _ t => im_if t))) fun _ _ _ t => im_seq t))))) dss_nil) fun _ _ _ t => im_if t))) (by decide +kernel)
theorem sf_3 (M : MF K mg) {cdv : Value} {A : Around} {outer : List Env} {s : Shared} {H : Hp} {E : XK} (hr : Room 45 (A.deeper (envOfC "law" (defScope s_law) s.heap.objs.size (He.fAd K ("law", none)) cdv))) : DSs (cxOf (L2.CX P w) P w K mg base ["_law_script", "_law_stream", "_law_turn", "_law_names", "_law_askings", "_law_lies", "_law_few", "_law_again", "_law_answers", "_law_state", "_law_k", "_law_due_here", "_law_handed", "_law_one", "_law_late", "_law_many"] "law" (defScope s_law) (He.fAd K ("law", none)) cdv A outer s H E) 844424963686400 (lb.drop 3) (tS (bs_3 (He.ga K))) :=
  DSs.le (DSs.imp (dss_cons (t := tS (bl_3 (He.ga K))) ((fs_for (vs' := [7]) [7, 8, 9, 10, 11, 12] (passes_of rfl) rfl (DI.imp (di_range1 rfl M.free_range (fa_cons fe_int fa_nil)) fun _ _ _ t => im_rng1 t) (DG.imp (dg_name (i := 7) (by decide) sc_law.nd rfl (by first | exact Or.inl rfl | exact Or.inr rfl)) fun _ _ _ t => im_gN t) (DSs.imp (dss_cons (DS.imp (ds_par2 (i := 8) (j := 9) rfl sc_law.nd rfl rfl (by decide) rfl rfl (fv_cons (fe_lst fa_nil) (fv_cons (fe_op od_mul (fe_tup (fa_cons fe_int fa_nil)) (fe_callB cd_len rfl M.free_len boot_len (fa_cons (fe_var (pv 3)) fa_nil))) fv_nil)) rfl) fun _ _ _ t => im_par2 t)
    (DSs.imp (dss_cons (fs_for (vs' := [10]) [10] (passes_of rfl) rfl (DI.imp (di_range1 rfl M.free_range (fa_cons (fe_dcall (de_call (dd := []) (ok_l_draw M) (hr.mono (by decide)) rfl M.g_l_draw M.F_l_draw.kp (bi_l_draw M) .nil (fun _ _ => Reps.nil) (fa_cons (fe_var (pv 1)) (fa_cons fe_int fa_nil)))) fa_nil)) fun _ _ _ t => im_rng1 t) (DG.imp (dg_name (i := 10) (by decide) sc_law.nd rfl (by first | exact Or.inl rfl | exact Or.inr rfl)) fun _ _ _ t => im_gN t) (DSs.imp (dss_cons (DS.imp (ds_expr (DE.imp (de_mut (i := 8) md_append PySem.F.slot_list_append PySem.F.type_list_append (pv 8) (fa_cons (fe_tup (fa_cons (fe_dcall (de_call (dd := []) (ok_l_draw M) (hr.mono (by decide)) rfl M.g_l_draw M.F_l_draw.kp (bi_l_draw M) .nil (fun _ _ => Reps.nil) (fa_cons (fe_var (pv 1)) (fa_cons (fe_callB cd_len rfl M.free_len boot_len (fa_cons (fe_var (pv 4)) fa_nil)) fa_nil)))) (fa_cons (fe_cmp (od_eq (unt64 hr)) (fe_dcall (de_call (dd := []) (ok_l_draw M) (hr.mono (by decide)) rfl M.g_l_draw M.F_l_draw.kp (bi_l_draw M) .nil (fun _ _ => Reps.nil) (fa_cons (fe_var (pv 1)) (fa_cons fe_int fa_nil)))) fe_int (nomark _)) fa_nil))) fa_nil)) fun _ _ _ t => im_mut t)) fun _ _ _ t => im_drop t)
    (dss_one (DS.imp (ds_set (i := 9) sc_law.nd rfl (Or.inl rfl) (fe_dcall (de_call (dd := []) (ok_l_m_after M) (hr.mono (by decide)) rfl M.g_l_m_after M.F_l_m_after.kp (bi_l_m_after M) .nil (fun _ _ => Reps.nil) (fa_cons (fe_var (pv 3)) (fa_cons (fe_var (pv 4)) (fa_cons (fe_var (pv 9)) (fa_cons (DE.imp (de_ix (DE.imp (de_ixO (pv 8) (fe_un ud_neg fe_int) (fun _ _ => rfl)) fun _ _ _ t => im_ixO t) fe_int (fun _ _ => rfl)) fun _ _ _ t => im_op2 t) (fa_cons (DE.imp (de_ix (DE.imp (de_ixO (pv 8) (fe_un ud_neg fe_int) (fun _ _ => rfl)) fun _ _ _ t => im_ixO t) fe_int (fun _ _ => rfl)) fun _ _ _ t => im_op2 t) fa_nil)))))))) fun _ _ _ t => im_set t))) fun _ _ _ t => im_seq t))
    (DSs.imp (dss_cons (DS.imp (ds_set (i := 11) sc_law.nd rfl (Or.inl rfl) (fe_dcall (de_call (dd := []) (ok_l_due M) (hr.mono (by decide)) rfl M.g_l_due M.F_l_due.kp (bi_l_due M) .nil (fun _ _ => Reps.nil) (fa_cons (fe_var (pv 3)) (fa_cons (fe_var (pv 4)) (fa_cons (fe_var (pv 5)) (fa_cons (fe_var (pv 9)) fa_nil))))))) fun _ _ _ t => im_set t)
    (DSs.imp (dss_cons (DS.imp (ds_set (i := 12) sc_law.nd rfl (Or.inl rfl) (fe_dcall (de_call (dd := []) (ok_l_pick M) (hr.mono (by decide)) rfl M.g_l_pick M.F_l_pick.kp (bi_l_pick M) .nil (fun _ _ => Reps.nil) (fa_cons (fe_var (pv 1)) (fa_cons (fe_lst (fa_cons (fe_var (pv 8)) (fa_cons (fe_callTy cd_tuple rfl M.free_tuple boot_tuple (fa_cons (fe_var (pv 8)) fa_nil)) fa_nil))) fa_nil))))) fun _ _ _ t => im_set t)
    (dss_one (DS.imp (ds_if (ft_not (ft_val (fe_dcall (de_call (dd := []) (ok_l_same M 6) (hr.mono (by decide)) rfl M.g_l_same M.F_l_same.kp (bi_l_same M) .nil (fun _ _ => Reps.nil) (fa_cons (fe_lst (fa_cons (fe_dcallD (de_call (dd := []) (ok_ask_next M) (hr.mono (by decide)) rfl M.g_ask_next M.F_ask_next.kp (db_ask_next_4 M).choose_spec.2 (db_ask_next_4 M).choose_spec.1 (fun _ _ => Reps.nil) (fa_cons (fe_var (pv 3)) (fa_cons (fe_callTy cd_tuple rfl M.free_tuple boot_tuple (fa_cons (fe_var (pv 4)) fa_nil)) (fa_cons (fe_var (pv 12)) (fa_cons (fe_var (pv 5)) fa_nil)))))) fa_nil)) (fa_cons (fe_lst (fa_cons (fe_var (pv 11)) fa_nil)) fa_nil)))))) (dss_one (fs_ret fe_bl)) dss_nil) fun _ _ _ t => im_if t))) fun _ _ _ t => im_seq t)) fun _ _ _ t => im_seq t)) fun _ _ _ t => im_seq t)) fun _ _ _ t => im_seq t))) (sf_4 M hr)) fun _ _ _ t => im_seq t) (by decide +kernel)
theorem sf_2 (M : MF K mg) {cdv : Value} {A : Around} {outer : List Env} {s : Shared} {H : Hp} {E : XK} (hr : Room 45 (A.deeper (envOfC "law" (defScope s_law) s.heap.objs.size (He.fAd K ("law", none)) cdv))) : DSs (cxOf (L2.CX P w) P w K mg base ["_law_script", "_law_stream", "_law_turn", "_law_names", "_law_askings", "_law_lies", "_law_few", "_law_again", "_law_answers", "_law_state", "_law_k", "_law_due_here", "_law_handed", "_law_one", "_law_late", "_law_many"] "law" (defScope s_law) (He.fAd K ("law", none)) cdv A outer s H E) 844424963686400 (lb.drop 2) (tS (bs_2 (He.ga K))) :=
  DSs.le (DSs.imp (dss_cons (t := tS (bl_2 (He.ga K))) ((DS.imp (ds_set (i := 6) sc_law.nd rfl (Or.inl rfl) (fe_dcallD (de_call (dd := []) (ok_fewest_askings M) (hr.mono (by decide)) rfl M.g_fewest_askings M.F_fewest_askings.kp (db_fewest_askings_3 M).choose_spec.2 (db_fewest_askings_3 M).choose_spec.1 (fun _ _ => Reps.nil) (fa_cons (fe_var (pv 3)) (fa_cons (fe_var (pv 4)) (fa_cons (fe_var (pv 5)) fa_nil)))))) fun _ _ _ t => im_set t)) (sf_3 M hr)) fun _ _ _ t => im_seq t) (by decide +kernel)
theorem sf_1 (M : MF K mg) {cdv : Value} {A : Around} {outer : List Env} {s : Shared} {H : Hp} {E : XK} (hr : Room 45 (A.deeper (envOfC "law" (defScope s_law) s.heap.objs.size (He.fAd K ("law", none)) cdv))) : DSs (cxOf (L2.CX P w) P w K mg base ["_law_script", "_law_stream", "_law_turn", "_law_names", "_law_askings", "_law_lies", "_law_few", "_law_again", "_law_answers", "_law_state", "_law_k", "_law_due_here", "_law_handed", "_law_one", "_law_late", "_law_many"] "law" (defScope s_law) (He.fAd K ("law", none)) cdv A outer s H E) 844424963686401 (lb.drop 1) (tS (bs_1 (He.ga K))) :=
  DSs.le (DSs.imp (dss_cons (t := tS (bl_1 (He.ga K))) ((DS.imp (ds_par2 (i := 5) (j := 4) rfl sc_law.nd rfl rfl (by decide) rfl rfl (fv_cons (fe_dcall (de_call (dd := []) (ok_l_draw M) (hr.mono (by decide)) rfl M.g_l_draw M.F_l_draw.kp (bi_l_draw M) .nil (fun _ _ => Reps.nil) (fa_cons (fe_var (pv 1)) (fa_cons fe_int fa_nil)))) (fv_cons (fe_sl (fe_var (pv 4)) do_none (DO.imp (do_some fe_int) fun _ _ _ t => im_oSome t)) fv_nil)) rfl) fun _ _ _ t => im_par2 t)) (sf_2 M hr)) fun _ _ _ t => im_seq t) (by decide +kernel)
theorem sf_0 (M : MF K mg) {cdv : Value} {A : Around} {outer : List Env} {s : Shared} {H : Hp} {E : XK} (hr : Room 45 (A.deeper (envOfC "law" (defScope s_law) s.heap.objs.size (He.fAd K ("law", none)) cdv))) : DSs (cxOf (L2.CX P w) P w K mg base ["_law_script", "_law_stream", "_law_turn", "_law_names", "_law_askings", "_law_lies", "_law_few", "_law_again", "_law_answers", "_law_state", "_law_k", "_law_due_here", "_law_handed", "_law_one", "_law_late", "_law_many"] "law" (defScope s_law) (He.fAd K ("law", none)) cdv A outer s H E) 1407374950662148 (lb.drop 0) (tS (bs_0 (He.ga K))) :=
  DSs.le (DSs.imp (dss_cons (t := tS (bl_0 (He.ga K))) ((DS.imp (ds_asg (vs := [3, 4]) (DG.imp (dg_tup (len_gsC (len_gsC len_gsN)) rfl (DGs.imp (dgs_cons (DG.imp (dg_name (i := 3) (by decide) sc_law.nd rfl (by first | exact Or.inl rfl | exact Or.inr rfl)) fun _ _ _ t => im_gN t) (DGs.imp (dgs_cons (DG.imp (dg_name (i := 4) (by decide) sc_law.nd rfl (by first | exact Or.inl rfl | exact Or.inr rfl)) fun _ _ _ t => im_gN t) (DGs.imp dgs_nil fun _ _ _ t => im_gsN t)) fun _ _ _ t => im_gsC t)) fun _ _ _ t => im_gsC t)) fun _ _ _ t => im_gT t) (fe_dcall (de_call (dd := []) (ok_l_m_suspects M) (hr.mono (by decide)) rfl M.g_l_m_suspects M.F_l_m_suspects.kp (bi_l_m_suspects M) .nil (fun _ _ => Reps.nil) (fa_cons (fe_var (pv 1)) (fa_cons fe_int fa_nil))))) fun _ _ _ t => im_asg t)) (sf_1 M hr)) fun _ _ _ t => im_seq t) (by decide +kernel)
def nLaw : Nat := 23611833540248200019968
theorem nLaw_le : nLaw ≤ LIM := Nat.le_trans (by decide +kernel : nLaw ≤ 2 ^ 2000) (Nat.pow_le_pow_right (by decide) (by decide))
def n_1 : Nat := 23611833540248200019968
theorem d_1 (M : MF K mg) {cdv : Value} {A : Around} {outer : List Env} {s : Shared} {H : Hp} {E : XK} (hr : Room 45 (A.deeper (envOfC "law" (defScope s_law) s.heap.objs.size (He.fAd K ("law", none)) cdv))) : ∃ n, n ≤ n_1 ∧ DS (cxOf (L2.CX P w) P w K mg base ["_law_script", "_law_stream", "_law_turn", "_law_names", "_law_askings", "_law_lies", "_law_few", "_law_again", "_law_answers", "_law_state", "_law_k", "_law_due_here", "_law_handed", "_law_one", "_law_late", "_law_many"] "law" (defScope s_law) (He.fAd K ("law", none)) cdv A outer s H E) n (.For (forT l1) (forI l1) lb [] (forP l1)) (tS (bq_1 (He.ga K))) := by
  rw [bq_eq_1]
  exact ex_le ((fs_for (vs' := [2]) [2, 3, 4, 5, 6, 7, 8, 9, 10, 11, 12, 13, 14, 15] (passes_of rfl) rfl (DI.imp (di_range1 rfl M.free_range (fa_cons fe_int fa_nil)) fun _ _ _ t => im_rng1 t) (DG.imp (dg_name (i := 2) (by decide) sc_law.nd rfl (by first | exact Or.inl rfl | exact Or.inr rfl)) fun _ _ _ t => im_gN t) (sf_0 M hr))) (by decide +kernel)
def n_2 : Nat := 0
theorem d_2 (M : MF K mg) {cdv : Value} {A : Around} {outer : List Env} {s : Shared} {H : Hp} {E : XK} (hr : Room 45 (A.deeper (envOfC "law" (defScope s_law) s.heap.objs.size (He.fAd K ("law", none)) cdv))) : ∃ n, n ≤ n_2 ∧ DS (cxOf (L2.CX P w) P w K mg base ["_law_script", "_law_stream", "_law_turn", "_law_names", "_law_askings", "_law_lies", "_law_few", "_law_again", "_law_answers", "_law_state", "_law_k", "_law_due_here", "_law_handed", "_law_one", "_law_late", "_law_many"] "law" (defScope s_law) (He.fAd K ("law", none)) cdv A outer s H E) n l2 (tS (bq_2 (He.ga K))) := by
  exact ex_le ((fs_ret fe_bl)) (by decide +kernel)
theorem nsum {m1 m2 : Nat} (h1 : m1 ≤ n_1) (h2 : m2 ≤ n_2) : m1 + (m2) ≤ nLaw := by
  have e : n_1 + (n_2) = nLaw := by decide +kernel
  omega
theorem law_rest (M : MF K mg) {cdv : Value} {A : Around} {outer : List Env} {s : Shared} {H : Hp} {E : XK} (hr : Room 45 (A.deeper (envOfC "law" (defScope s_law) s.heap.objs.size (He.fAd K ("law", none)) cdv))) : DSs (cxOf (L2.CX P w) P w K mg base ["_law_script", "_law_stream", "_law_turn", "_law_names", "_law_askings", "_law_lies", "_law_few", "_law_again", "_law_answers", "_law_state", "_law_k", "_law_due_here", "_law_handed", "_law_one", "_law_late", "_law_many"] "law" (defScope s_law) (He.fAd K ("law", none)) cdv A outer s H E) nLaw ((defBody s_law).drop 1) (tS (b_law_e (He.ga K))) := by
  rw [body_eq]
  obtain ⟨n1, h1, d1⟩ := d_1 (P := P) (w := w) (base := base) M hr
  obtain ⟨n2, h2, d2⟩ := d_2 (P := P) (w := w) (base := base) M hr
  exact DSs.le (DSs.imp (dss_cons d1 (dss_one d2)) fun _ _ _ t => im_seq t) (nsum h1 h2)
end
end DL
set_option Elab.async false
set_option linter.all false
set_option maxRecDepth 100000
set_option maxHeartbeats 800000
namespace DL
open PySem L2 PyProof.Rows HD
section
variable {P : Program} {w : World} {K : PySem.W.Frag} {mg : Str → Option Value} {base : Heap}
theorem law_top (M : MF K mg) (rd : LawSays 16 (b_law_e (He.ga K))) {q : Str} (ht : exT tf K = true) {s₁ : Shared} {mb : Str → Option Value} {a : Addr} {vs : List Value} {ns : List Int} (I : TopIn K mg mb s₁ vs ns a (tf.map (He.cT K))) :
    codeAny (model P w) callerA (.call (.ref (He.fAd K ("law", none))) ⟨[.ref a], []⟩) (fun r s' => r = .ok (.ret (.bool true)) ∧ OldK s₁.heap s'.heap ∧ s'.os = s₁.os ∧ AllBare s'.gens) s₁ := by
  have bd := L2.FunD.bindsA (ps := ["_law_script"]) M.F_law fun _ _ _ _ _ _ us hl => match us, hl with | [_], _ => rfl
  have room : Room 46 callerA := ⟨rfl, by decide, by decide⟩
  refine top_call (CX := L2.CX P w) I M.F_law sc_law room (fun u => bd s₁ [u] rfl) (fun H e s' h => ?_) fun base H cdv hcd sm tb hH hS => ?_
  · obtain ⟨_, _, _, _, _, _, _, _, _, _, _, _, z⟩ := h
    exact z.elim
  have mine : (("law", none) : He.Defn) ∈ tf := by decide +kernel
  have hr := room.deeper (envOfC "law" (defScope s_law) s₁.heap.objs.size (He.fAd K ("law", none)) cdv)
  have ht1 := law_rest (P := P) (w := w) (base := base) (outer := []) (H := H) (E := fun _ _ _ => False) M hr
  have ht' : PSs (cxOf (L2.CX P w) P w K mg base ["_law_script", "_law_stream", "_law_turn", "_law_names", "_law_askings", "_law_lies", "_law_few", "_law_again", "_law_answers", "_law_state", "_law_k", "_law_due_here", "_law_handed", "_law_one", "_law_late", "_law_many"] "law" (defScope s_law) (He.fAd K ("law", none)) cdv callerA [] s₁ H (fun _ _ _ => False)) ((defBody s_law).drop 1) (fun D σ H => ∃ G : Gh, G.T = tabsOf K ∧ LS G nLaw (tS (b_law_e (He.ga K))) noW D σ H) := ⟨fun pins s σ H D I ⟨G, hG, h⟩ => (ht1 G noW (tkN hG)).run pins s σ H D I h⟩
  refine ⟨_, pss_cons (ps_set (i := 1) sc_law.nd rfl (Or.inl rfl) (pe_callSD (ok_l_start M) (hr.mono (by decide)) rfl M.g_l_start M.F_l_start.kp (bi_l_start M) .nil (fun σ => passAt takes0 σ) (pa_cons (pv 0) pa_nil))) ht', ?_⟩
  refine ⟨_, rfl, a, ns, rfl, hS, fun p q hp hq' ne => ?_⟩
  show ∃ G : Gh, G.T = tabsOf K ∧ LS G nLaw (tS (b_law_e (He.ga K))) noW { nx := fun _ H' => (fun (v : V) (_ : Hp) => v = .bl true) .non H', rt := fun v _ => v = .bl true } ((L2.start ["_law_script", "_law_stream", "_law_turn", "_law_names", "_law_askings", "_law_lies", "_law_few", "_law_again", "_law_answers", "_law_state", "_law_k", "_law_due_here", "_law_handed", "_law_one", "_law_late", "_law_many"] [.ref a]).set 1 (some (.ref p))) (strm H p q ns)
  have h1 : ((L2.start ["_law_script", "_law_stream", "_law_turn", "_law_names", "_law_askings", "_law_lies", "_law_few", "_law_again", "_law_answers", "_law_state", "_law_k", "_law_due_here", "_law_handed", "_law_one", "_law_late", "_law_many"] [.ref a]).set 1 (some (.ref p))).length = 16 := rfl
  have h2 : ((L2.start ["_law_script", "_law_stream", "_law_turn", "_law_names", "_law_askings", "_law_lies", "_law_few", "_law_again", "_law_answers", "_law_state", "_law_k", "_law_due_here", "_law_handed", "_law_one", "_law_late", "_law_many"] [.ref a]).set 1 (some (.ref p)))[1]? = some (some (.ref p)) := rfl
  generalize (L2.start ["_law_script", "_law_stream", "_law_turn", "_law_names", "_law_askings", "_law_lies", "_law_few", "_law_again", "_law_answers", "_law_state", "_law_k", "_law_due_here", "_law_handed", "_law_one", "_law_late", "_law_many"] [.ref a]).set 1 (some (.ref p)) = σ at h1 h2 ⊢
  exact @law_run _ K rfl _ 16 nLaw (b_law_e (He.ga K)) ht1 nLaw_le rd σ p q H ns { nx := fun _ H' => (fun (v : V) (_ : Hp) => v = .bl true) .non H', rt := fun v _ => v = .bl true } (by decide) h1 h2 hp hq' ne (tabs_empty ht hH) _ rfl (fun _ => rfl)
end
end DL
set_option Elab.async false
set_option linter.all false
set_option maxRecDepth 100000
set_option maxHeartbeats 4000000
namespace DL
open PySem L2 PyProof.Rows HD
theorem mf {K : PySem.W.Frag} {h : Heap} {w : World} {mg : Str → Option Value} (X : K.In h) (G : h.Ns mainGlobals mg) (c : He.SaysX fa fn [] tf ex w h K) : Nonempty (MF K mg) := by
  have cm : exE tf es ls K = true := c.more
  obtain ⟨fd_l_start, F_l_start⟩ := c.t.d.def_ 0 (d := d_l_start) rfl
  obtain ⟨fd_l_draw, F_l_draw⟩ := c.t.d.def_ 1 (d := d_l_draw) rfl
  obtain ⟨fd_l_same, F_l_same⟩ := c.t.d.def_ 2 (d := d_l_same) rfl
  obtain ⟨fd_l_mixed, F_l_mixed⟩ := c.t.d.def_ 3 (d := d_l_mixed) rfl
  obtain ⟨fd_l_m_suspects, F_l_m_suspects⟩ := c.t.d.def_ 4 (d := d_l_m_suspects) rfl
  obtain ⟨fd_Hunt_left_ones, F_Hunt_left_ones⟩ := c.t.d.def_ 5 (d := d_Hunt_left_ones) rfl
  obtain ⟨fd_Hunt_behind_answer, F_Hunt_behind_answer⟩ := c.t.d.def_ 6 (d := d_Hunt_behind_answer) rfl
  obtain ⟨fd_Hunt_is_right, F_Hunt_is_right⟩ := c.t.d.def_ 7 (d := d_Hunt_is_right) rfl
  obtain ⟨fd_Hunt_is_enough, F_Hunt_is_enough⟩ := c.t.d.def_ 8 (d := d_Hunt_is_enough) rfl
  obtain ⟨fd_Hunt_fewest_from, F_Hunt_fewest_from⟩ := c.t.d.def_ 9 (d := d_Hunt_fewest_from) rfl
  obtain ⟨fd_Hunt_unparted, F_Hunt_unparted⟩ := c.t.d.def_ 10 (d := d_Hunt_unparted) rfl
  obtain ⟨fd_Hunt_begun, F_Hunt_begun⟩ := c.t.d.def_ 11 (d := d_Hunt_begun) rfl
  obtain ⟨fd_fewest_of, F_fewest_of⟩ := c.t.d.def_ 12 (d := d_fewest_of) rfl
  obtain ⟨fd_is_list, F_is_list⟩ := c.t.d.def_ 13 (d := d_is_list) rfl
  obtain ⟨fd_is_name, F_is_name⟩ := c.t.d.def_ 14 (d := d_is_name) rfl
  obtain ⟨fd_checked_suspects, F_checked_suspects⟩ := c.t.d.def_ 15 (d := d_checked_suspects) rfl
  obtain ⟨fd_are_names, F_are_names⟩ := c.t.d.def_ 16 (d := d_are_names) rfl
  obtain ⟨fd_checked_askings, F_checked_askings⟩ := c.t.d.def_ 17 (d := d_checked_askings) rfl
  obtain ⟨fd_is_integer, F_is_integer⟩ := c.t.d.def_ 18 (d := d_is_integer) rfl
  obtain ⟨fd_checked_lies, F_checked_lies⟩ := c.t.d.def_ 19 (d := d_checked_lies) rfl
  obtain ⟨fd_Hunt_init, F_Hunt_init⟩ := c.t.d.def_ 20 (d := d_Hunt_init) rfl
  obtain ⟨fd_fewest_askings, F_fewest_askings⟩ := c.t.d.def_ 21 (d := d_fewest_askings) rfl
  obtain ⟨fd_l_m_left, F_l_m_left⟩ := c.t.d.def_ 22 (d := d_l_m_left) rfl
  obtain ⟨fd_l_m_after, F_l_m_after⟩ := c.t.d.def_ 23 (d := d_l_m_after) rfl
  obtain ⟨fd_l_m_is_enough, F_l_m_is_enough⟩ := c.t.d.def_ 24 (d := d_l_m_is_enough) rfl
  obtain ⟨fd_l_m_fewest, F_l_m_fewest⟩ := c.t.d.def_ 25 (d := d_l_m_fewest) rfl
  obtain ⟨fd_l_due, F_l_due⟩ := c.t.d.def_ 26 (d := d_l_due) rfl
  obtain ⟨fd_l_pick, F_l_pick⟩ := c.t.d.def_ 27 (d := d_l_pick) rfl
  obtain ⟨fd_Hunt_behind_all, F_Hunt_behind_all⟩ := c.t.d.def_ 28 (d := d_Hunt_behind_all) rfl
  obtain ⟨fd_checked_answers, F_checked_answers⟩ := c.t.d.def_ 29 (d := d_checked_answers) rfl
  obtain ⟨fd_first_right, F_first_right⟩ := c.t.d.def_ 30 (d := d_first_right) rfl
  obtain ⟨fd_ask_next, F_ask_next⟩ := c.t.d.def_ 31 (d := d_ask_next) rfl
  obtain ⟨fd_possible_ones, F_possible_ones⟩ := c.t.d.def_ 32 (d := d_possible_ones) rfl
  obtain ⟨fd_l_hunted, F_l_hunted⟩ := c.t.d.def_ 33 (d := d_l_hunted) rfl
  obtain ⟨fd_law, F_law⟩ := c.t.d.def_ 34 (d := d_law) rfl
  obtain ⟨fd_BadAnswers, F_BadAnswers⟩ := c.t.d.def_ 35 (d := d_BadAnswers) rfl
  obtain ⟨fd_BadAskings, F_BadAskings⟩ := c.t.d.def_ 36 (d := d_BadAskings) rfl
  obtain ⟨fd_BadLies, F_BadLies⟩ := c.t.d.def_ 37 (d := d_BadLies) rfl
  obtain ⟨fd_BadSuspects, F_BadSuspects⟩ := c.t.d.def_ 38 (d := d_BadSuspects) rfl
  exact ⟨{ fd_l_start := fd_l_start, F_l_start := F_l_start, g_l_start := He.glo_ok X G (c.t.d.fact 0 (f := .glo "_law_start") rfl), fd_l_draw := fd_l_draw, F_l_draw := F_l_draw, g_l_draw := He.glo_ok X G (c.t.d.fact 1 (f := .glo "_law_draw") rfl), fd_l_same := fd_l_same, F_l_same := F_l_same, g_l_same := He.glo_ok X G (c.t.d.fact 2 (f := .glo "_law_same") rfl), fd_l_mixed := fd_l_mixed, F_l_mixed := F_l_mixed, g_l_mixed := He.glo_ok X G (c.t.d.fact 3 (f := .glo "_law_mixed") rfl), fd_l_m_suspects := fd_l_m_suspects, F_l_m_suspects := F_l_m_suspects, g_l_m_suspects := He.glo_ok X G (c.t.d.fact 4 (f := .glo "_law_m_suspects") rfl), fd_Hunt_left_ones := fd_Hunt_left_ones, F_Hunt_left_ones := F_Hunt_left_ones, me_Hunt_left_ones := He.meth_ok (c.t.d.fact 33 (f := .meth "Hunt" "left_ones") rfl), fd_Hunt_behind_answer := fd_Hunt_behind_answer, F_Hunt_behind_answer := F_Hunt_behind_answer, me_Hunt_behind_answer := He.meth_ok (c.t.d.fact 34 (f := .meth "Hunt" "behind_answer") rfl), fd_Hunt_is_right := fd_Hunt_is_right, F_Hunt_is_right := F_Hunt_is_right, me_Hunt_is_right := He.meth_ok (c.t.d.fact 35 (f := .meth "Hunt" "is_right") rfl), fd_Hunt_is_enough := fd_Hunt_is_enough, F_Hunt_is_enough := F_Hunt_is_enough, me_Hunt_is_enough := He.meth_ok (c.t.d.fact 36 (f := .meth "Hunt" "is_enough") rfl), fd_Hunt_fewest_from := fd_Hunt_fewest_from, F_Hunt_fewest_from := F_Hunt_fewest_from, me_Hunt_fewest_from := He.meth_ok (c.t.d.fact 37 (f := .meth "Hunt" "fewest_from") rfl), fd_Hunt_unparted := fd_Hunt_unparted, F_Hunt_unparted := F_Hunt_unparted, me_Hunt_unparted := He.meth_ok (c.t.d.fact 38 (f := .meth "Hunt" "unparted") rfl), fd_Hunt_begun := fd_Hunt_begun, F_Hunt_begun := F_Hunt_begun, me_Hunt_begun := He.meth_ok (c.t.d.fact 39 (f := .meth "Hunt" "begun") rfl), fd_fewest_of := fd_fewest_of, F_fewest_of := F_fewest_of, g_fewest_of := He.glo_ok X G (c.t.d.fact 5 (f := .glo "fewest_of") rfl), fd_is_list := fd_is_list, F_is_list := F_is_list, g_is_list := He.glo_ok X G (c.t.d.fact 6 (f := .glo "is_list") rfl), fd_is_name := fd_is_name, F_is_name := F_is_name, g_is_name := He.glo_ok X G (c.t.d.fact 7 (f := .glo "is_name") rfl), fd_checked_suspects := fd_checked_suspects, F_checked_suspects := F_checked_suspects, g_checked_suspects := He.glo_ok X G (c.t.d.fact 8 (f := .glo "checked_suspects") rfl), fd_are_names := fd_are_names, F_are_names := F_are_names, g_are_names := He.glo_ok X G (c.t.d.fact 9 (f := .glo "are_names") rfl), fd_checked_askings := fd_checked_askings, F_checked_askings := F_checked_askings, g_checked_askings := He.glo_ok X G (c.t.d.fact 10 (f := .glo "checked_askings") rfl), fd_is_integer := fd_is_integer, F_is_integer := F_is_integer, g_is_integer := He.glo_ok X G (c.t.d.fact 11 (f := .glo "is_integer") rfl), fd_checked_lies := fd_checked_lies, F_checked_lies := F_checked_lies, g_checked_lies := He.glo_ok X G (c.t.d.fact 12 (f := .glo "checked_lies") rfl), fd_Hunt_init := fd_Hunt_init, F_Hunt_init := F_Hunt_init, fd_fewest_askings := fd_fewest_askings, F_fewest_askings := F_fewest_askings, g_fewest_askings := He.glo_ok X G (c.t.d.fact 13 (f := .glo "fewest_askings") rfl), fd_l_m_left := fd_l_m_left, F_l_m_left := F_l_m_left, g_l_m_left := He.glo_ok X G (c.t.d.fact 14 (f := .glo "_law_m_left") rfl), fd_l_m_after := fd_l_m_after, F_l_m_after := F_l_m_after, g_l_m_after := He.glo_ok X G (c.t.d.fact 15 (f := .glo "_law_m_after") rfl), fd_l_m_is_enough := fd_l_m_is_enough, F_l_m_is_enough := F_l_m_is_enough, g_l_m_is_enough := He.glo_ok X G (c.t.d.fact 16 (f := .glo "_law_m_is_enough") rfl), fd_l_m_fewest := fd_l_m_fewest, F_l_m_fewest := F_l_m_fewest, g_l_m_fewest := He.glo_ok X G (c.t.d.fact 17 (f := .glo "_law_m_fewest") rfl), fd_l_due := fd_l_due, F_l_due := F_l_due, g_l_due := He.glo_ok X G (c.t.d.fact 18 (f := .glo "_law_due") rfl), fd_l_pick := fd_l_pick, F_l_pick := F_l_pick, g_l_pick := He.glo_ok X G (c.t.d.fact 19 (f := .glo "_law_pick") rfl), fd_Hunt_behind_all := fd_Hunt_behind_all, F_Hunt_behind_all := F_Hunt_behind_all, me_Hunt_behind_all := He.meth_ok (c.t.d.fact 40 (f := .meth "Hunt" "behind_all") rfl), fd_checked_answers := fd_checked_answers, F_checked_answers := F_checked_answers, g_checked_answers := He.glo_ok X G (c.t.d.fact 20 (f := .glo "checked_answers") rfl), fd_first_right := fd_first_right, F_first_right := F_first_right, g_first_right := He.glo_ok X G (c.t.d.fact 21 (f := .glo "first_right") rfl), fd_ask_next := fd_ask_next, F_ask_next := F_ask_next, g_ask_next := He.glo_ok X G (c.t.d.fact 22 (f := .glo "ask_next") rfl), fd_possible_ones := fd_possible_ones, F_possible_ones := F_possible_ones, g_possible_ones := He.glo_ok X G (c.t.d.fact 23 (f := .glo "possible_ones") rfl), fd_l_hunted := fd_l_hunted, F_l_hunted := F_l_hunted, g_l_hunted := He.glo_ok X G (c.t.d.fact 24 (f := .glo "_law_hunted") rfl), fd_law := fd_law, F_law := F_law, g_law := He.glo_ok X G (c.t.d.fact 25 (f := .glo "law") rfl), fd_BadAnswers := fd_BadAnswers, F_BadAnswers := F_BadAnswers, g_BadAnswers := He.glo_ok X G (c.t.d.fact 41 (f := .glo "BadAnswers") rfl), e_BadAnswers := exE_err cm (e := ("BadAnswers", ["index"])) (by simp [HD.es]), fd_BadAskings := fd_BadAskings, F_BadAskings := F_BadAskings, g_BadAskings := He.glo_ok X G (c.t.d.fact 42 (f := .glo "BadAskings") rfl), e_BadAskings := exE_err cm (e := ("BadAskings", ["index"])) (by simp [HD.es]), fd_BadLies := fd_BadLies, F_BadLies := F_BadLies, g_BadLies := He.glo_ok X G (c.t.d.fact 43 (f := .glo "BadLies") rfl), e_BadLies := exE_err cm (e := ("BadLies", ["thing"])) (by simp [HD.es]), fd_BadSuspects := fd_BadSuspects, F_BadSuspects := F_BadSuspects, g_BadSuspects := He.glo_ok X G (c.t.d.fact 44 (f := .glo "BadSuspects") rfl), e_BadSuspects := exE_err cm (e := ("BadSuspects", ["index"])) (by simp [HD.es]), cls_Hunt := He.cls_ok (c.t.d.fact 27 (f := .cls "Hunt") rfl), mk_Hunt := He.mkr_ok (c.t.d.fact 28 (f := .mkr "Hunt") rfl), g_Hunt := He.glo_ok X G (c.t.d.fact 26 (f := .glo "Hunt") rfl), noat_Hunt_ones := He.noat_ok (c.t.d.fact 29 (f := .noat "Hunt" "ones") rfl), noat_Hunt_most := He.noat_ok (c.t.d.fact 30 (f := .noat "Hunt" "most") rfl), noat_Hunt_signs := He.noat_ok (c.t.d.fact 31 (f := .noat "Hunt" "signs") rfl), noat_Hunt_known := He.noat_ok (c.t.d.fact 32 (f := .noat "Hunt" "known") rfl), errs := exE_errs cm, free_all := He.free_ok X G (c.t.d.fact 45 (f := .free "all") rfl), free_any := He.free_ok X G (c.t.d.fact 46 (f := .free "any") rfl), free_bool := He.free_ok X G (c.t.d.fact 47 (f := .free "bool") rfl), free_dict := He.free_ok X G (c.t.d.fact 48 (f := .free "dict") rfl), free_enumerate := He.free_ok X G (c.t.d.fact 49 (f := .free "enumerate") rfl), free_int := He.free_ok X G (c.t.d.fact 50 (f := .free "int") rfl), free_isinstance := He.free_ok X G (c.t.d.fact 51 (f := .free "isinstance") rfl), free_len := He.free_ok X G (c.t.d.fact 52 (f := .free "len") rfl), free_list := He.free_ok X G (c.t.d.fact 53 (f := .free "list") rfl), free_min := He.free_ok X G (c.t.d.fact 54 (f := .free "min") rfl), free_range := He.free_ok X G (c.t.d.fact 55 (f := .free "range") rfl), free_set := He.free_ok X G (c.t.d.fact 56 (f := .free "set") rfl), free_str := He.free_ok X G (c.t.d.fact 57 (f := .free "str") rfl), free_tuple := He.free_ok X G (c.t.d.fact 58 (f := .free "tuple") rfl), free_zip := He.free_ok X G (c.t.d.fact 59 (f := .free "zip") rfl), c_SMALL := He.str_ok X G (c.t.d.fact 60 (f := .str "SMALL" "abcdefghijklmnopqrstuvwxyz") rfl), c_FIGURES := He.str_ok X G (c.t.d.fact 61 (f := .str "FIGURES" "0123456789") rfl) }⟩
theorem law_end {w : World} {mg : Str → Option Value} {f : Addr} {h : Heap} (Y : hk.says w h) (G : h.Ns mainGlobals mg) (hmg : mg ("law" : PySem.Str) = some (.ref f)) (rd : ∀ c : Str → Addr, (cs_l c).Nodup → LawSays 16 (b_law_e c)) :
    ∃ K : PySem.W.Frag, K.In h ∧ ∃ cs : List (Addr × Addr), (∀ p ∈ cs, h.get? p.2 = some tb0) ∧ (∀ p ∈ cs, K.lookup p.2 = none) ∧ (∀ p ∈ cs, PySem.W.CodeHd h p.1 p.2) ∧
      ∀ (s₁ : Shared) (mb : Str → Option Value) (a : Addr) (vs : List Value) (ns : List Int), TopIn K mg mb s₁ vs ns a cs → codeAny (model PySem.Challenge.rw_patchlots_k81_whole_next_ones_asked.prog w) callerA (.call (.ref f) ⟨[.ref a], []⟩) (fun r s' => r = .ok (.ret (.bool true)) ∧ OldK s₁.heap s'.heap ∧ s'.os = s₁.os ∧ AllBare s'.gens) s₁ := by
  obtain ⟨K, KX, c⟩ := Y
  obtain ⟨M⟩ := mf KX G c
  have cm : exE tf es ls K = true := c.more
  have e := hmg.symm.trans M.g_law
  cases e
  refine ⟨K, KX, tf.map (He.cT K), fun p hp => ?_, fun p hp => ?_, fun p hp => ?_, fun s₁ mb a vs ns I => law_top M (rd _ (exE_nd cm)) (q := "") (exE_T cm) I⟩
  · obtain ⟨d, hd, rfl⟩ := List.mem_map.mp hp
    exact c.empty d hd
  · obtain ⟨d, hd, rfl⟩ := List.mem_map.mp hp
    exact c.out d hd
  · obtain ⟨d, hd, rfl⟩ := List.mem_map.mp hp
    exact PySem.W.codeHd_of_K KX (c.hd d hd)
end DL
set_option Elab.async false
set_option linter.all false
set_option maxRecDepth 100000
set_option maxHeartbeats 4000000
set_option Elab.async false
set_option linter.all false
set_option maxRecDepth 100000
set_option maxHeartbeats 1000000
namespace DL
open PySem L2 PyProof.Rows
structure Ch where
  pl : Int
  old : List Str
  new : List Str
def wsD (ws : List Str) : List D := ws.map D.str
@[simp] theorem wsD_len (ws : List Str) : (wsD ws).length = ws.length := List.length_map _
def Ch.d (c : Ch) : D := .tup [.int c.pl, .lst (wsD c.old), .lst (wsD c.new)]
theorem ev_is_list_l (ds : List D) : f_is_list [.lst ds] = .ret (.sh (.bl true)) := by
  simp [f_is_list, defF, runS, b_is_list, startF, D.asTy, sizeLine_eq, D.tyN, asTys, tyNames, isaB]
end DL
set_option Elab.async false
set_option linter.all false
set_option maxRecDepth 100000
set_option maxHeartbeats 1000000
namespace DL
open PySem L2 PyProof.Rows
/-- how far two changes must be apart -/
def least (a b : Ch) : Int := if a.new = [] ∧ b.new = [] then 0 else 1
/-- two stands ahead of one; behind one of m words -/
def isAhead (a b : Ch) : Bool := decide (least a b ≤ a.pl - b.pl - b.old.length)
def isBehind (a b : Ch) (m : Int) : Bool := decide (least a b ≤ b.pl - a.pl - m)
end DL
set_option Elab.async false
set_option linter.all false
set_option maxRecDepth 100000
set_option maxHeartbeats 1000000
namespace DL
open PySem L2 PyProof.Rows
def gr (c : Ch) : Int := c.new.length - c.old.length
def Ch.mv (c : Ch) (m : Int) : Ch := ⟨c.pl + m, c.old, c.new⟩
def passP (a b : Ch) : Option (Ch × Ch) := if isAhead a b then some (b, a.mv (gr b)) else if isBehind a b a.new.length then some (b.mv (-gr a), a) else none
end DL
set_option Elab.async false
set_option linter.all false
set_option maxRecDepth 100000
set_option maxHeartbeats 1000000
namespace DL
open PySem L2 PyProof.Rows
/-- a comprehension that draws nothing -/
theorem comp_eq {g : EG} {tt : ET} {te : EE} {vs : List Nat} {ρ : Rho} (k : D → Option D) : ∀ (ds acc : List D), (∀ d ∈ ds, eTurn g tt te vs d ρ = .ret (k d, ρ)) → eCompGo g tt te vs ds acc ρ = .ret (.nw (.lst (acc ++ ds.filterMap k)), ρ)
  | [], acc, _ => by simp [eCompGo]
  | d :: ds, acc, h => by
    rw [eCompGo, h d List.mem_cons_self]
    simp only [Cm.bind]
    rw [comp_eq k ds _ fun e he => h e (List.mem_cons_of_mem _ he)]
    cases hk : k d <;> simp [List.filterMap_cons, hk]
def okW (w : Str) : Bool := decide (w.length ≤ 200) && !(strIn "\n" w)
end DL
set_option Elab.async false
set_option linter.all false
set_option maxRecDepth 100000
set_option maxHeartbeats 1000000
namespace DL
open PySem L2 PyProof.Rows
theorem ev_is_int (i : Int) : f_is_integer [.int i] = .ret (.sh (.bl true)) := by
  simp [f_is_integer, defF, runS, b_is_integer, startF, tyNames, isaB, D.tyN]
theorem ev_is_list_t (ds : List D) : f_is_list [.tup ds] = .ret (.sh (.bl true)) := by
  simp [f_is_list, defF, runS, b_is_list, startF, D.asTy, sizeLine_eq, D.tyN, asTys, tyNames, isaB]
/-- a change as the package wants it -/
structure Ch.Ok (c : Ch) : Prop where
  pl : 0 ≤ c.pl
  old : c.old.all okW = true
  new : c.new.all okW = true
  some : 0 < c.old.length + c.new.length
end DL
set_option Elab.async false
set_option linter.all false
set_option maxRecDepth 100000
set_option maxHeartbeats 1000000
namespace DL
open PySem L2 PyProof.Rows
theorem Ch.Ok.mv {c : Ch} (h : c.Ok) {m : Int} (hm : 0 ≤ c.pl + m) : (c.mv m).Ok := ⟨hm, h.old, h.new, h.some⟩
end DL
set_option Elab.async false
set_option linter.all false
set_option maxRecDepth 100000
set_option maxHeartbeats 2000000
namespace DL
open PySem L2 PyProof.Rows
@[simp] theorem least_mvl (a b : Ch) (m : Int) : least (a.mv m) b = least a b := rfl
@[simp] theorem least_mvr (a b : Ch) (m : Int) : least a (b.mv m) = least a b := rfl
@[simp] theorem mv_pl (a : Ch) (m : Int) : (a.mv m).pl = a.pl + m := rfl
@[simp] theorem mv_old (a : Ch) (m : Int) : (a.mv m).old = a.old := rfl
@[simp] theorem mv_new (a : Ch) (m : Int) : (a.mv m).new = a.new := rfl
@[simp] theorem gr_mv (a : Ch) (m : Int) : gr (a.mv m) = gr a := rfl
end DL
set_option Elab.async false
set_option linter.all false
set_option maxRecDepth 100000
set_option maxHeartbeats 2000000
set_option Elab.async false
set_option linter.all false
set_option maxRecDepth 100000
set_option maxHeartbeats 1000000
namespace DL
open PySem L2 PyProof.Rows
theorem same_non (m : Nat) : f_l_same (m + 1) [.non, .non] = .ret (.sh (.bl true)) := by
  simp [f_l_same, defF, runS, b_l_same, startF, D.asTy, sizeLine_eq, D.tyN, asTys, tyNames, isaB]
theorem same_str (m : Nat) (x : Str) : f_l_same (m + 1) [.str x, .str x] = .ret (.sh (.bl true)) := by
  simp [f_l_same, defF, runS, b_l_same, startF, D.asTy, sizeLine_eq, D.tyN, asTys, tyNames, isaB]
theorem same_int (m : Nat) (i : Int) : f_l_same (m + 1) [.int i, .int i] = .ret (.sh (.bl true)) := by
  simp [f_l_same, defF, runS, b_l_same, startF, D.asTy, sizeLine_eq, D.tyN, asTys, tyNames, isaB]
theorem zip_self_map (ds : List D) (k : D → Option D) (h : ∀ d ∈ ds, k (.tup [d, d]) = some (.bl true)) : (zipD ds ds).filterMap k = ds.map fun _ => D.bl true := by
  unfold zipD
  induction ds with
  | nil => rfl
  | cons d ds ih =>
    simp only [List.zip_cons_cons, List.map_cons, List.filterMap_cons]
    rw [h d List.mem_cons_self]
    simp only
    rw [ih fun e he => h e (List.mem_cons_of_mem _ he)]
theorem same_lst (m : Nat) (ds : List D) (h : ∀ d ∈ ds, f_l_same m [d, d] = .ret (.sh (.bl true))) : f_l_same (m + 1) [.lst ds, .lst ds] = .ret (.sh (.bl true)) := by
  have tk : ∀ e ∈ zipD ds ds, eTurn (gT (gsC (gN 2) (gsC (gN 3) gsN))) eYes (eCall (f_l_same m) [] (aCons (eVar 2) (aCons (eVar 3) aNil))) [2, 3] e [.sh (.lst ds), .sh (.lst ds), .no, .no] = .ret (some (.bl true), [.sh (.lst ds), .sh (.lst ds), .no, .no]) := by
    intro e he
    unfold zipD at he
    obtain ⟨p, hp, rfl⟩ := List.mem_map.mp he
    have e1 : p.1 = p.2 ∧ p.1 ∈ ds := by
      obtain ⟨i, hi, rfl⟩ := List.mem_iff_getElem.mp hp
      simp [List.getElem_zip]
    have hs := h p.1 e1.2
    rw [← e1.1]
    simp [eTurn, hs, Cm.at, wipeR]
  have cg := comp_eq (fun _ => some (.bl true)) (zipD ds ds) [] tk
  have fm : (zipD ds ds).filterMap (fun _ => some (D.bl true)) = ds.map fun _ => D.bl true := zip_self_map ds _ fun _ _ => rfl
  have ab := asBools_map (fun _ : D => true) ds
  simp [f_l_same, defF, runS, b_l_same, startF, D.asTy, sizeLine_eq, D.tyN, asTys, tyNames, isaB, eComp, itemsOf, wipeR, cg, fm, ab]
theorem same_tup (m : Nat) (ds : List D) (h : ∀ d ∈ ds, f_l_same m [d, d] = .ret (.sh (.bl true))) : f_l_same (m + 1) [.tup ds, .tup ds] = .ret (.sh (.bl true)) := by
  have tk : ∀ e ∈ zipD ds ds, eTurn (gT (gsC (gN 2) (gsC (gN 3) gsN))) eYes (eCall (f_l_same m) [] (aCons (eVar 2) (aCons (eVar 3) aNil))) [2, 3] e [.sh (.tup ds), .sh (.tup ds), .no, .no] = .ret (some (.bl true), [.sh (.tup ds), .sh (.tup ds), .no, .no]) := by
    intro e he
    unfold zipD at he
    obtain ⟨p, hp, rfl⟩ := List.mem_map.mp he
    have e1 : p.1 = p.2 ∧ p.1 ∈ ds := by
      obtain ⟨i, hi, rfl⟩ := List.mem_iff_getElem.mp hp
      simp [List.getElem_zip]
    have hs := h p.1 e1.2
    rw [← e1.1]
    simp [eTurn, hs, Cm.at, wipeR]
  have cg := comp_eq (fun _ => some (.bl true)) (zipD ds ds) [] tk
  have fm : (zipD ds ds).filterMap (fun _ => some (D.bl true)) = ds.map fun _ => D.bl true := zip_self_map ds _ fun _ _ => rfl
  have ab := asBools_map (fun _ : D => true) ds
  simp [f_l_same, defF, runS, b_l_same, startF, D.asTy, sizeLine_eq, D.tyN, asTys, tyNames, isaB, eComp, itemsOf, wipeR, cg, fm, ab]
mutual
/-- data without dicts, instances, classes: nesting below m -/
def plainD : Nat → D → Bool
  | _ + 1, .non => true
  | _ + 1, .int _ => true
  | _ + 1, .str _ => true
  | m + 1, .lst ds => plainDs m ds
  | m + 1, .tup ds => plainDs m ds
  | _, _ => false
def plainDs : Nat → List D → Bool
  | _, [] => true
  | m, d :: ds => plainD m d && plainDs m ds
end
theorem plainDs_mem {m : Nat} : ∀ {ds : List D}, plainDs m ds = true → ∀ d ∈ ds, plainD m d = true
  | [], _, d, hd => by simp at hd
  | e :: ds, h, d, hd => by
    rw [plainDs, Bool.and_eq_true] at h
    rcases List.mem_cons.mp hd with rfl | hd
    · exact h.1
    · exact plainDs_mem h.2 d hd
theorem same_refl : ∀ (m : Nat) (d : D), plainD m d = true → f_l_same m [d, d] = .ret (.sh (.bl true))
  | 0, d, h => by cases d <;> simp [plainD] at h
  | m + 1, d, h => by
    cases d with
    | non => exact same_non m
    | int i => exact same_int m i
    | str x => exact same_str m x
    | lst ds =>
      rw [plainD] at h
      exact same_lst m ds fun e he => same_refl m e (plainDs_mem h e he)
    | tup ds =>
      rw [plainD] at h
      exact same_tup m ds fun e he => same_refl m e (plainDs_mem h e he)
    | _ => simp [plainD] at h
end DL
set_option Elab.async false
set_option linter.all false
set_option maxRecDepth 100000
set_option maxHeartbeats 1000000
namespace DL
open PySem L2 PyProof.Rows
/-- what a change makes of a text -/
def made (ws : List Str) (k : Nat) (c : Ch) : List Str := ws.take k ++ c.new ++ ws.drop (k + c.old.length)
theorem wsD_take (a : List Str) (k : Nat) : (wsD a).take k = wsD (a.take k) := by unfold wsD; rw [List.map_take]
theorem wsD_drop (a : List Str) (k : Nat) : (wsD a).drop k = wsD (a.drop k) := by unfold wsD; rw [List.map_drop]
end DL
set_option Elab.async false
set_option linter.all false
set_option maxRecDepth 100000
set_option maxHeartbeats 1000000
set_option Elab.async false
set_option linter.all false
set_option maxRecDepth 100000
set_option maxHeartbeats 1000000
set_option Elab.async false
set_option linter.all false
set_option maxRecDepth 100000
set_option maxHeartbeats 1000000
set_option Elab.async false
set_option linter.all false
set_option maxRecDepth 100000
set_option maxHeartbeats 1000000
namespace DL
open PySem L2 PyProof.Rows
/-- a change stands in a text between two parts -/
def Cuts (ws X Z : List Str) (c : Ch) : Prop := ws = X ++ c.old ++ Z ∧ c.pl = (X.length : Int)
def madeC (ws : List Str) (c : Ch) : List Str := ws.take c.pl.toNat ++ c.new ++ ws.drop (c.pl.toNat + c.old.length)
theorem cut3 {α : Type} (P O G : List α) {n m : Nat} (hn : P.length = n) (hm : O.length = m) : (P ++ O ++ G).take n = P ∧ (P ++ O ++ G).drop (n + m) = G ∧ ((P ++ O ++ G).drop n).take m = O := by
  subst hn hm
  refine ⟨?_, ?_, ?_⟩
  · rw [List.append_assoc, List.take_left]
  · rw [← List.length_append, List.drop_left]
  · rw [List.append_assoc, List.drop_left, List.take_left]
theorem Cuts.made {ws X Z : List Str} {c : Ch} (h : Cuts ws X Z c) : madeC ws c = X ++ c.new ++ Z := by
  obtain ⟨e1, e2, _⟩ := cut3 X c.old Z rfl rfl
  unfold madeC
  rw [h.1, h.2, Int.toNat_natCast, e1, e2]
abbrev Ln := Str × Nat
def ownC (nm : Str) (c : Ch) : List Ln := (List.range c.new.length).map fun i => (nm, i)
@[simp] theorem own_len (nm : Str) (c : Ch) : (ownC nm c).length = c.new.length := by simp [ownC]
structure Rec where
  new : List Str
  row : List Ln
  gone : List Ln
end DL
set_option Elab.async false
set_option linter.all false
set_option maxRecDepth 100000
set_option maxHeartbeats 1000000
namespace DL
open PySem L2 PyProof.Rows
def lnD (p : Ln) : D := .tup [.str p.1, .int (p.2 : Int)]
def lnsD (h : List Ln) : List D := h.map lnD
def edgesD (row : List Ln) : List D := zipD (lnsD row) (lnsD (row.drop 1))
def Rec.d (r : Rec) : D := .tup [.lst (wsD r.new), .lst (sortD (edgesD r.row)), .lst (sortD (lnsD r.gone))]
@[simp] theorem lnsD_len (h : List Ln) : (lnsD h).length = h.length := List.length_map _
theorem deps_le {k : Nat} : ∀ {ds : List D}, (∀ d ∈ ds, d.dep ≤ k) → D.deps ds ≤ k
  | [], _ => by rw [D.deps]; omega
  | d :: ds, h => by
    rw [D.deps]
    exact Nat.max_le.mpr ⟨h d List.mem_cons_self, deps_le fun e he => h e (List.mem_cons_of_mem _ he)⟩
end DL
set_option Elab.async false
set_option linter.all false
set_option maxRecDepth 100000
set_option maxHeartbeats 1000000
namespace DL
open PySem L2 PyProof.Rows
def ground (n : Nat) : List Ln := (List.range (n + 2)).map fun i => ("g0", i)
end DL
set_option Elab.async false
set_option linter.all false
set_option maxRecDepth 100000
set_option maxHeartbeats 1000000
namespace DL
open PySem L2 PyProof.Rows
theorem sat_noex {α : Type} {m : Cm α} {Q : α → Prop} {W : DX} (h : m.sat Q noW) : m.noex.sat Q W := by
  induction m with
  | ret a => exact h
  | exc x ρ => exact h.elim
  | draw n k ih => exact fun i h0 h1 => ih i (h i h0 h1)
  | bad => exact h
theorem comp_inv {g : EG} {tt : ET} {te : EE} {vs : List Nat} {Q : Vd × Rho → Prop} {W : DX} (I : List D → List D → Rho → Prop) (fin : ∀ acc ρ, I [] acc ρ → Q (.nw (.lst acc), ρ))
    (turn : ∀ d ds acc ρ, I (d :: ds) acc ρ → (eTurn g tt te vs d ρ).sat (fun p => I ds (acc ++ p.1.toList) p.2) W) : ∀ (ds acc : List D) (ρ : Rho), I ds acc ρ → (eCompGo g tt te vs ds acc ρ).sat Q W
  | [], acc, ρ, h => fin acc ρ h
  | d :: ds, acc, ρ, h => by
    unfold eCompGo
    exact sat_bind.mpr ((turn d ds acc ρ h).imp fun p hp => comp_inv I fin turn ds _ _ hp)
theorem for_inv {g : EG} {b : ES} {vs : List Nat} {Q : Out → Prop} (I : List D → Rho → Prop) (fin : ∀ ρ, I [] ρ → Q (.nx ρ))
    (turn : ∀ d ds ρ, I (d :: ds) ρ → ∃ ρ1, g d ρ = some ρ1 ∧ (b ρ1).sat (fun o => ∃ ρ2, o = .nx ρ2 ∧ I ds (wipeR ρ2 vs)) noW) : ∀ (ds : List D) (ρ : Rho), I ds ρ → (eForGo g b vs ds ρ).sat Q noW
  | [], ρ, h => fin ρ h
  | d :: ds, ρ, h => by
    obtain ⟨ρ1, e, t⟩ := turn d ds ρ h
    unfold eForGo
    rw [e]
    refine sat_bind.mpr (t.imp fun o ho => ?_)
    obtain ⟨ρ2, rfl, i⟩ := ho
    exact for_inv I fin turn ds _ i
theorem atI_in {α : Type} {ds : List α} {i : Int} (h0 : 0 ≤ i) (h1 : i < ds.length) : ∃ d, atI ds i = some d ∧ d ∈ ds := by
  unfold atI ixN
  rw [if_pos h0, if_pos h1]
  have : i.toNat < ds.length := by omega
  exact ⟨ds[i.toNat], by simp [this], List.getElem_mem this⟩
theorem pick_sat {ds : List D} {Q : Vd → Prop} (h0 : 0 < ds.length) (h1 : ds.length < 1000) (h : ∀ d ∈ ds, Q (.sh d)) : (f_l_pick [.stm, .lst ds]).sat Q noW := by
  have b1 : (0 : Int) < (ds.length : Int) := by omega
  have b2 : (ds.length : Int) < 1073741824 := by omega
  have e : f_l_pick [.stm, .lst ds] = .draw ds.length fun i => opt ((atI ds i).map Vd.sh) fun z => .ret z := by
    simp [f_l_pick, defF, runS, b_l_pick, startF, f_l_draw, Cm.at, b1, b2, h0]
    funext i
    cases atI ds i <;> rfl
  rw [e]
  intro i i0 i1
  show (opt ((atI ds i).map Vd.sh) fun z => Cm.ret z).sat Q noW
  obtain ⟨d, hd, hm⟩ := atI_in i0 i1
  rw [hd]
  exact h d hm
theorem draw_sat {n : Int} {Q : Vd → Prop} (h0 : 0 < n) (h1 : n < 1000) (h : ∀ i, 0 ≤ i → i < n → Q (.sh (.int i))) : (f_l_draw [.stm, .int n]).sat Q noW := by
  have b2 : n < 1073741824 := by omega
  show (req _ _).sat Q noW
  unfold req
  rw [if_pos ⟨h0, b2⟩]
  exact h
theorem rangeD_len (lo : Int) (n : Nat) : (rangeD lo n).length = n := by simp [rangeD]
theorem perm_pick {α : Type} : ∀ {xs : List α} {i : Nat} (h : i < xs.length), (xs[i] :: xs.eraseIdx i).Perm xs
  | x :: xs, 0, _ => by simp
  | x :: xs, i + 1, h => by
    have h' : i < xs.length := by simpa using h
    exact (List.Perm.swap x xs[i] _).trans ((perm_pick h').cons x)
end DL
set_option Elab.async false
set_option linter.all false
set_option maxRecDepth 100000
set_option maxHeartbeats 1000000
namespace DL
open PySem L2 PyProof.Rows
abbrev newL : List Str := ["x", "y", "a", ""]
end DL
set_option Elab.async false
set_option linter.all false
set_option maxRecDepth 100000
set_option maxHeartbeats 1000000
set_option Elab.async false
set_option linter.all false
set_option maxRecDepth 100000
set_option maxHeartbeats 1000000
namespace DL
open PySem L2 PyProof.Rows
theorem perm_ws {xs : List Str} {ys : List D} (hy : ys.Perm (wsD xs)) : ∃ zs : List Str, ys = wsD zs ∧ zs.Perm xs := by
  have key : ∀ ys : List D, (∀ d ∈ ys, ∃ x, d = D.str x) → ∃ zs, ys = wsD zs := by
    intro ys
    induction ys with
    | nil => intro _; exact ⟨[], rfl⟩
    | cons y ys ih =>
      intro this
      obtain ⟨x, rfl⟩ := this y List.mem_cons_self
      obtain ⟨zs, hz⟩ := ih fun d hd => this d (List.mem_cons_of_mem _ hd)
      exact ⟨x :: zs, by rw [hz]; rfl⟩
  obtain ⟨zs, rfl⟩ := key ys fun d hd => by
    obtain ⟨x, _, rfl⟩ := List.mem_map.mp (hy.subset hd)
    exact ⟨x, rfl⟩
  refine ⟨zs, rfl, ?_⟩
  unfold wsD at hy
  have g : ∀ l : List Str, (l.map D.str).filterMap (fun d => match d with | .str x => some x | _ => none) = l := fun l => by simp [List.filterMap_map, Function.comp_def]
  have := hy.filterMap (fun d => match d with | .str x => some x | _ => none)
  rwa [g, g] at this
end DL
set_option Elab.async false
set_option linter.all false
set_option maxRecDepth 100000
set_option maxHeartbeats 1000000
namespace DL
open PySem L2 PyProof.Rows
/-! ### a grid of cells, by rows, by columns -/
section
variable {α β : Type}
abbrev Cell (α β : Type) := α → β → Option (β × α)
def rowS (f : Cell α β) : List α → β → Option (List α × β)
  | [], b => some ([], b)
  | a :: as, b => (f a b).bind fun p => (rowS f as p.1).map fun q => (p.2 :: q.1, q.2)
def rows (f : Cell α β) : List α → List β → Option (List α × List β)
  | as, [] => some (as, [])
  | as, b :: bs => (rowS f as b).bind fun p => (rows f p.1 bs).map fun q => (q.1, p.2 :: q.2)
end
/-! ### runs beside one another -/
abbrev St2 := Str × Ch
/-! ### bubbles -/
def turned (sp : Str → Nat) : List Str → Option Nat
  | x :: y :: r => if sp y < sp x then some 0 else (turned sp (y :: r)).map (· + 1)
  | _ => none
/-- n bubbles lead from one list of steps to another one -/
inductive Bub (sp : Str → Nat) : Nat → List St2 → List St2 → Prop where
  | nil (s) : Bub sp 0 s s
  | step {n : Nat} {pre post : List St2} {a b : St2} {p : Ch × Ch} {t : List St2} (ht : turned sp ((pre ++ a :: b :: post).map (·.1)) = some pre.length) (hp : passP a.2 b.2 = some p) (h : Bub sp n (pre ++ (b.1, p.1) :: (a.1, p.2) :: post) t) : Bub sp (n + 1) (pre ++ a :: b :: post) t
theorem Bub.trans {sp : Str → Nat} {n m : Nat} {s t u : List St2} (h : Bub sp n s t) (k : Bub sp m t u) : Bub sp (n + m) s u := by
  induction h with
  | nil s => simpa using k
  | step ht hp _ ih =>
    have := Bub.step ht hp (ih k)
    rw [Nat.add_right_comm] at this
    exact this
/-! ### where a change stands, read off its record -/
end DL
set_option Elab.async false
set_option linter.all false
set_option maxRecDepth 100000
set_option maxHeartbeats 1000000
namespace DL
open PySem L2 PyProof.Rows
/-- what a computation that raises nothing answers (a box: whnf stops at it) -/
structure Sat {α : Type} (m : Cm α) (Q : α → Prop) : Prop where
  out : m.sat Q noW
theorem Sat.imp {α : Type} {m : Cm α} {Q Q' : α → Prop} (h : Sat m Q) (k : ∀ a, Q a → Q' a) : Sat m Q' := ⟨h.out.imp k⟩
theorem Sat.bind {α β : Type} {m : Cm α} {f : α → Cm β} {Q : α → Prop} {R : β → Prop} (h : Sat m Q) (k : ∀ a, Q a → Sat (f a) R) : Sat (m.bind f) R := ⟨sat_bind.mpr (h.out.imp fun a q => (k a q).out)⟩
theorem Sat.at {α : Type} {m : Cm α} {ρ : Rho} {Q : α → Prop} {R : α × Rho → Prop} (h : Sat m Q) (k : ∀ a, Q a → R (a, ρ)) : Sat (m.at ρ) R := ⟨at_sat.mpr (h.out.imp k)⟩
theorem Sat.ret {α : Type} {a : α} {Q : α → Prop} (h : Q a) : Sat (.ret a) Q := ⟨h⟩
theorem Sat.of {α : Type} {m : Cm α} {a : α} {Q : α → Prop} (e : m = .ret a) (h : Q a) : Sat m Q := by subst e; exact ⟨h⟩
mutual
theorem eqv_refl : ∀ d : D, d.dep < 1000 → D.eqv d d = true
  | .non, _ => by simp
  | .bl b, _ => by simp
  | .int i, _ => by simp
  | .str x, _ => by simp
  | .ty n, h => by simp [D.dep] at h
  | .tup ds, h => by
    rw [D.dep] at h
    rw [D.eqv]
    exact eqvs_refl ds (by omega)
  | .lst ds, h => by
    rw [D.dep] at h
    rw [D.eqv]
    exact eqvs_refl ds (by omega)
  | .dct t ks vs, h => by simp [D.dep] at h
  | .ins C ns vs, h => by simp [D.dep] at h
  | .stm, h => by simp [D.dep] at h
  | .fn _ _, h => by simp [D.dep] at h
  | .mem _, h => by simp [D.dep] at h
theorem eqvs_refl : ∀ ds : List D, D.deps ds < 1000 → D.eqvs ds ds = true
  | [], _ => by simp [D.eqvs]
  | d :: ds, h => by
    rw [D.deps] at h
    rw [D.eqvs, eqv_refl d (by omega), eqvs_refl ds (by omega)]
    rfl
end
end DL
set_option Elab.async false
set_option linter.all false
set_option maxRecDepth 100000
set_option maxHeartbeats 1000000
namespace DL
open PySem L2 PyProof.Rows
/-! ### changes, steps, runs as they are handed in: lists or tuples -/
def sqD (t : Bool) (xs : List D) : D := match t with
  | true => .tup xs
  | false => .lst xs
theorem ev_is_list_s (t : Bool) (ds : List D) : f_is_list [sqD t ds] = .ret (.sh (.bl true)) := by
  cases t
  · exact ev_is_list_l ds
  · exact ev_is_list_t ds
end DL
set_option Elab.async false
set_option linter.all false
set_option maxRecDepth 100000
set_option maxHeartbeats 1000000
set_option Elab.async false
set_option linter.all false
set_option maxRecDepth 100000
set_option maxHeartbeats 1000000
set_option Elab.async false
set_option linter.all false
set_option maxRecDepth 100000
set_option maxHeartbeats 1000000
namespace DL
open PySem L2 PyProof.Rows
theorem while_nx {k : Nat} {c : ET} {b : ES} {ρ ρ1 ρ2 : Rho} (h1 : c ρ = .ret (true, ρ1)) (h2 : b ρ1 = .ret (.nx ρ2)) : eWhile (k + 1) c b ρ = eWhile k c b ρ2 := by simp [eWhile, h1, h2]
theorem while_end {k : Nat} {c : ET} {b : ES} {ρ ρ1 : Rho} (h1 : c ρ = .ret (false, ρ1)) : eWhile (k + 1) c b ρ = .ret (.nx ρ1) := by simp [eWhile, h1]
/-! turned_at -/
/-! the loop -/
end DL
set_option Elab.async false
set_option linter.all false
set_option maxRecDepth 100000
set_option maxHeartbeats 1000000
set_option Elab.async false
set_option linter.all false
set_option maxRecDepth 100000
set_option maxHeartbeats 1000000
set_option Elab.async false
set_option linter.all false
set_option maxRecDepth 100000
set_option maxHeartbeats 1000000
set_option Elab.async false
set_option linter.all false
set_option maxRecDepth 100000
set_option maxHeartbeats 1000000
set_option Elab.async false
set_option linter.all false
set_option maxRecDepth 100000
set_option maxHeartbeats 1000000
namespace DL
open PySem L2 PyProof.Rows
theorem for_box {g : EG} {b : ES} {vs : List Nat} {Q : Out → Prop} (I : List D → Rho → Prop) (fin : ∀ ρ, I [] ρ → Q (.nx ρ))
    (turn : ∀ d ds ρ, I (d :: ds) ρ → ∃ ρ1, g d ρ = some ρ1 ∧ Sat (b ρ1) (fun o => ∃ ρ2, o = .nx ρ2 ∧ I ds (wipeR ρ2 vs))) (ds : List D) (ρ : Rho) (h : I ds ρ) : Sat (eForGo g b vs ds ρ) Q :=
  ⟨for_inv I fin (fun d ds ρ h => by
    obtain ⟨ρ1, e, t⟩ := turn d ds ρ h
    exact ⟨ρ1, e, t.out⟩) ds ρ h⟩
/-! names with a b behind -/
/-! the grid the other way round -/
end DL
set_option Elab.async false
set_option linter.all false
set_option maxRecDepth 100000
set_option maxHeartbeats 1000000
set_option Elab.async false
set_option linter.all false
set_option maxRecDepth 100000
set_option maxHeartbeats 1000000
namespace DL
open PySem L2 PyProof.Rows
theorem seq_sat {f g : ES} {ρ : Rho} {Q : Out → Prop} {P : Rho → Prop} (h : Sat (f ρ) (fun o => ∃ ρ1, o = .nx ρ1 ∧ P ρ1)) (k : ∀ ρ1, P ρ1 → Sat (g ρ1) Q) : Sat (eSeq f g ρ) Q := by
  unfold eSeq
  refine h.bind fun o ho => ?_
  obtain ⟨ρ1, rfl, p⟩ := ho
  exact k ρ1 p
theorem seq_ret {f g : ES} {ρ ρ1 : Rho} {Q : Out → Prop} (h : f ρ = .ret (.nx ρ1)) (k : Sat (g ρ1) Q) : Sat (eSeq f g ρ) Q := by
  unfold eSeq
  rw [h]
  exact k
end DL
set_option Elab.async false
set_option linter.all false
set_option maxRecDepth 100000
set_option maxHeartbeats 1000000
namespace DL
open PySem L2 PyProof.Rows
theorem same_l_non : f_l_same 6 [.lst [.non], .lst [.non]] = .ret (.sh (.bl true)) := same_refl 6 _ (by simp [plainD, plainDs])
end DL
set_option Elab.async false
set_option linter.all false
set_option maxRecDepth 100000
set_option maxHeartbeats 2000000
namespace DL
open PySem L2 PyProof.Rows
/-- what it raises -/
@[simp] def excOf {α : Type} : Cm α → Option XD
  | .exc x _ => some x
  | _ => none
/-- the kinds of data that come up -/
def kindD : D → Bool
  | .non => true
  | .bl _ => true
  | .int _ => true
  | .str _ => true
  | .tup _ => true
  | .lst _ => true
  | .dct _ _ _ => true
  | _ => false
def isSq : D → Bool
  | .tup _ => true
  | .lst _ => true
  | _ => false
theorem list_any {d : D} (h : kindD d = true) (hd : ∀ ks vs, d ≠ .dct true ks vs) : f_is_list [d] = .ret (.sh (.bl (isSq d))) := by
  cases d with
  | tup ds => exact ev_is_list_t ds
  | lst ds => exact ev_is_list_l ds
  | str w => simp [f_is_list, defF, runS, b_is_list, startF, D.asTy, sizeLine_eq, D.tyN, asTys, tyNames, isaB, isSq]
  | non => simp [f_is_list, defF, runS, b_is_list, startF, D.asTy, sizeLine_eq, D.tyN, asTys, tyNames, isaB, isSq]
  | bl b => simp [f_is_list, defF, runS, b_is_list, startF, D.asTy, sizeLine_eq, D.tyN, asTys, tyNames, isaB, isSq]
  | int i => simp [f_is_list, defF, runS, b_is_list, startF, D.asTy, sizeLine_eq, D.tyN, asTys, tyNames, isaB, isSq]
  | dct t ks vs => cases t with
    | true => exact (hd ks vs rfl).elim
    | false => simp [f_is_list, defF, runS, b_is_list, startF, D.asTy, sizeLine_eq, D.tyN, asTys, tyNames, isaB, isSq]
  | _ => simp [kindD] at h
/-! ### the kinds of data that come up, through and through -/
mutual
def kd : D → Bool
  | .non => true
  | .bl _ => true
  | .int _ => true
  | .str _ => true
  | .tup ds => kds ds
  | .lst ds => kds ds
  | .dct t ks vs => !t && ks.isEmpty && vs.isEmpty
  | _ => false
def kds : List D → Bool
  | [] => true
  | d :: ds => kd d && kds ds
end
theorem kd_kind {d : D} (h : kd d = true) : kindD d = true ∧ ∀ ks vs, d ≠ .dct true ks vs := by
  cases d with
  | dct t ks vs =>
    cases t with
    | true => simp [kd] at h
    | false => exact ⟨rfl, fun _ _ z => by cases z⟩
  | ins _ _ _ => simp [kd] at h
  | ty _ => simp [kd] at h
  | stm => simp [kd] at h
  | fn _ _ => simp [kd] at h
  | mem _ => simp [kd] at h
  | _ => exact ⟨rfl, fun _ _ z => by cases z⟩
theorem kl {d : D} (h : kd d = true) : f_is_list [d] = .ret (.sh (.bl (isSq d))) := list_any (kd_kind h).1 (kd_kind h).2
/-! ### texts that are checked -/
variable {c : Str → Addr}
end DL
set_option Elab.async false
set_option linter.all false
set_option maxRecDepth 100000
set_option maxHeartbeats 2000000
namespace DL
open PySem L2 PyProof.Rows
/-! ### matches, and by how many lines beginnings agree -/
abbrev Mt := Nat × Nat
/-- by how many lines the first i of the one and the first j of the other can agree -/
def lc (ws vs : List Str) : Nat → Nat → Nat
  | 0, _ => 0
  | _ + 1, 0 => 0
  | i + 1, j + 1 => if ws[i]? = vs[j]? then lc ws vs i j + 1 else max (lc ws vs i (j + 1)) (lc ws vs (i + 1) j)
@[simp] theorem lc_0 (ws vs : List Str) (j : Nat) : lc ws vs 0 j = 0 := by rw [lc]
@[simp] theorem lc_i0 (ws vs : List Str) (i : Nat) : lc ws vs i 0 = 0 := by cases i <;> rw [lc]
end DL
set_option Elab.async false
set_option linter.all false
set_option maxRecDepth 100000
set_option maxHeartbeats 2000000
namespace DL
open PySem L2 PyProof.Rows
theorem seq_nx {f g : ES} {ρ ρ1 : Rho} (h : f ρ = .ret (.nx ρ1)) : eSeq f g ρ = g ρ1 := by simp [h]
/-! ### all matches -/
end DL
set_option Elab.async false
set_option linter.all false
set_option maxRecDepth 100000
set_option maxHeartbeats 2000000
namespace DL
open PySem L2 PyProof.Rows
/-! ### dicts from matches -/
/-- how long a common row can be that ends with a match -/
def rk (ws vs : List Str) (p : Mt) : Nat := lc ws vs p.1 p.2 + 1
theorem filterMap_some' {α β : Type} (f : α → β) : ∀ l : List α, l.filterMap (fun a => some (f a)) = l.map f
  | [] => rfl
  | a :: l => by rw [List.filterMap_cons, List.map_cons, filterMap_some' f l]
/-- seen from the other end -/
def flp (ws vs : List Str) (p : Mt) : Mt := (ws.length - 1 - p.1, vs.length - 1 - p.2)
theorem fEq_int (i j : Int) : fEq [.int i, .int j] = some (.sh (.bl (decide (i = j)))) := by
  by_cases h : i = j <;> simp [D.eqv, D.dep, h]
/-- how long a common row can be that begins with a match -/
def bk (ws vs : List Str) (p : Mt) : Nat := rk ws.reverse vs.reverse (flp ws vs p)
end DL
set_option Elab.async false
set_option linter.all false
set_option maxRecDepth 100000
set_option maxHeartbeats 2000000
namespace DL
open PySem L2 PyProof.Rows
/-! ### common rows, and how long they can be -/
/-- the length of the longest common rows -/
def most (ws vs : List Str) : Nat := lc ws vs ws.length vs.length
/-! ### the row that is picked -/
end DL
set_option Elab.async false
set_option linter.all false
set_option maxRecDepth 100000
set_option maxHeartbeats 2000000
set_option Elab.async false
set_option linter.all false
set_option maxRecDepth 100000
set_option maxHeartbeats 2000000
set_option Elab.async false
set_option linter.all false
set_option maxRecDepth 100000
set_option maxHeartbeats 1000000
set_option Elab.async false
set_option linter.all false
set_option maxRecDepth 100000
set_option maxHeartbeats 1000000
set_option Elab.async false
set_option linter.all false
set_option maxRecDepth 100000
set_option maxHeartbeats 1000000
namespace DL
open PySem L2 PyProof.Rows
/-! ### rising lists -/
/-! ### binomials -/
/-! ### texts of one word -/
section
variable {x : Str} {n m : Nat}
/-- a row without a place -/
def skip (m i : Nat) : List Nat := (List.range m).map fun k => if k < i then k else k + 1
end
end DL
set_option Elab.async false
set_option linter.all false
set_option maxRecDepth 100000
set_option maxHeartbeats 4000000
set_option Elab.async false
set_option linter.all false
set_option maxRecDepth 100000
set_option maxHeartbeats 2000000
set_option Elab.async false
set_option linter.all false
set_option maxRecDepth 100000
set_option maxHeartbeats 2000000
set_option Elab.async false
set_option linter.all false
set_option maxRecDepth 100000
set_option maxHeartbeats 2000000
namespace DL
open PySem L2 PyProof.Rows
theorem as_bools : ∀ bs : List Bool, asBools (bs.map D.bl) = some bs
  | [] => rfl
  | b :: bs => by simp [asBools, as_bools bs]
theorem pred_comp {g : EG} {te : EE} {vs : List Nat} {ρ : Rho} (B : D → Bool) (ds : List D) (tk : ∀ d ∈ ds, eTurn g eYes te vs d ρ = .ret (some (.bl (B d)), ρ)) : eCompGo g eYes te vs ds [] ρ = .ret (.nw (.lst ((ds.map B).map D.bl)), ρ) := by
  rw [comp_eq (fun d => some (.bl (B d))) ds [] tk, filterMap_some', List.nil_append, List.map_map]
  rfl
theorem all_bools (bs : List Bool) : fAll [.lst (bs.map D.bl)] = some (.sh (.bl (bs.all id))) := by
  have := as_bools bs
  generalize bs.map D.bl = A at *
  simp [this]
/-- the two places of a pair -/
def c0 : D → Int
  | .tup (.int i :: _) => i
  | .lst (.int i :: _) => i
  | _ => 0
def c1 : D → Int
  | .tup (_ :: .int i :: _) => i
  | .lst (_ :: .int i :: _) => i
  | _ => 0
variable {c : Str → Addr}
end DL
set_option Elab.async false
set_option linter.all false
set_option maxRecDepth 100000
set_option maxHeartbeats 2000000
namespace DL
open PySem L2 PyProof.Rows
theorem run_box {b : ES} {ρ : Rho} {Q : Vd → Prop} (h : Sat (b ρ) (fun o => ∃ v, o = .rt v ∧ Q v)) : Sat (runS (b ρ)) Q := by
  unfold runS
  refine h.bind fun o ho => ?_
  obtain ⟨v, rfl, q⟩ := ho
  exact Sat.ret q
theorem def_box {np nn : Nat} {b : ES} {ds : List D} {Q : Vd → Prop} (hl : ds.length = np) (h : Sat (b (startF np nn ds)) (fun o => ∃ v, o = .rt v ∧ Q v)) : Sat (defF np nn b ds) Q := by
  have e : defF np nn b ds = runS (b (startF np nn ds)) := if_pos hl
  rw [e]
  exact run_box h
/-! ### a text near to another one -/
/-- words that are drawn are words -/
def AllW (L : List D) : Prop := ∃ ws, L = wsD ws ∧ ws.all okW = true
theorem AllW.take {a : List D} (h : AllW a) (n : Nat) : AllW (a.take n) := by
  obtain ⟨x, rfl, hx⟩ := h
  exact ⟨x.take n, wsD_take x n, List.all_eq_true.mpr fun y hy => List.all_eq_true.mp hx y (List.mem_of_mem_take hy)⟩
theorem AllW.drop {a : List D} (h : AllW a) (n : Nat) : AllW (a.drop n) := by
  obtain ⟨x, rfl, hx⟩ := h
  exact ⟨x.drop n, wsD_drop x n, List.all_eq_true.mpr fun y hy => List.all_eq_true.mp hx y (List.mem_of_mem_drop hy)⟩
theorem AllW.one {d : D} {a : List D} (h : AllW a) (hd : d ∈ a) : AllW [d] := by
  obtain ⟨x, rfl, hx⟩ := h
  obtain ⟨w, hw, rfl⟩ := List.mem_map.mp hd
  exact ⟨[w], rfl, by simpa using List.all_eq_true.mp hx w hw⟩
end DL
set_option Elab.async false
set_option linter.all false
set_option maxRecDepth 100000
set_option maxHeartbeats 2000000
set_option Elab.async false
set_option linter.all false
set_option maxRecDepth 100000
set_option maxHeartbeats 2000000
set_option Elab.async false
set_option linter.all false
set_option maxRecDepth 100000
set_option maxHeartbeats 2000000
namespace DL
open PySem L2 PyProof.Rows
theorem mixed_satL {xs : List D} {Q : Vd → Prop} (hn : xs.length ≤ 1000000) (h : ∀ ys : List D, ys.Perm xs → Q (.nw (.lst ys))) : (f_l_mixed [.stm, .lst xs]).sat Q noW := by
  have b1 : xs.length ≤ 16777216 := by omega
  have b3 : (xs.length : Int) ≤ 16777216 := by omega
  have b2 : -(4611686018427387904 : Int) ≤ (xs.length : Int) := by omega
  have e : f_l_mixed [.stm, .lst xs] = runS ((eCompGo (gN 3) eYes (eMut 2 fPop (aCons (eCall f_l_draw [] (aCons (eVar 0) (aCons (eBor [2] (eOpN fLenS (aCons (eVar 2) aNil))) aNil))) aNil)) [3] (rangeD 0 xs.length) [] [.sh .stm, .sh (.lst xs), .ow (.lst xs), .no]).bind fun p => .ret (.rt p.1)) := by
    simp [f_l_mixed, defF, b_l_mixed, startF, eComp, sizeLine_eq, b1, b3, b2, wipeR, lendR, lend, Vd.slot, Vd.imm, D.imm]
  rw [e]
  unfold runS
  refine sat_bind.mpr (sat_bind.mpr (comp_inv (fun ds acc ρ => ∃ left, ρ = [.sh .stm, .sh (.lst xs), .ow (.lst left), .no] ∧ (acc ++ left).Perm xs ∧ left.length = ds.length) ?_ ?_ _ _ _ ⟨xs, rfl, by simp, by rw [rangeD_len]⟩))
  · rintro acc ρ ⟨left, rfl, h1, h2⟩
    have : left = [] := List.eq_nil_of_length_eq_zero h2
    subst this
    rw [List.append_nil] at h1
    exact h acc h1
  · rintro d ds acc ρ ⟨left, rfl, h1, h2⟩
    unfold eTurn
    refine sat_noex ?_
    have hlen : left.length ≤ 1000000 := by
      have := h1.length_eq
      rw [List.length_append] at this
      omega
    simp only [List.length_cons] at h2
    have b3 : (0 : Int) < (left.length : Int) := by omega
    have b4 : (left.length : Int) < 1073741824 := by omega
    have b5 : 0 < left.length := by omega
    simp [lendR, lend, Vd.imm, D.imm, f_l_draw, b3, b4, b5, Cm.at, -fPop]
    intro i i0 i1
    have e1 : seqIndex? i left.length = some i.toNat := seqIndex_of i0 i1
    have e2 : i.toNat < left.length := by omega
    have e3 : -9223372036854775808 ≤ i := by omega
    have e4 : i < 9223372036854775808 := by omega
    simp [e1, e2, e3, e4, Vd.d, wipeR]
    refine ⟨?_, by rw [List.length_eraseIdx_of_lt e2]; omega⟩
    refine List.Perm.trans ?_ h1
    refine List.Perm.append_left acc ?_
    exact perm_pick e2
end DL
set_option Elab.async false
set_option linter.all false
set_option maxRecDepth 100000
set_option maxHeartbeats 1000000
namespace DL
open PySem L2 PyProof.Rows
/-! ### comprehensions whose turns share slots -/
theorem compI {α : Type} {g : EG} {tt : ET} {te : EE} {vs : List Nat} (I : Rho → Prop) (f : α → D) (k : α → Option D) : ∀ (xs : List α) (acc : List D) (ρ : Rho), I ρ → (∀ x ∈ xs, ∀ ρ, I ρ → ∃ ρ', I ρ' ∧ eTurn g tt te vs (f x) ρ = .ret (k x, ρ')) →
    ∃ ρ', I ρ' ∧ eCompGo g tt te vs (xs.map f) acc ρ = .ret (.nw (.lst (acc ++ xs.filterMap k)), ρ')
  | [], acc, ρ, i, _ => ⟨ρ, i, by simp [eCompGo]⟩
  | x :: xs, acc, ρ, i, h => by
    obtain ⟨ρ1, i1, e1⟩ := h x List.mem_cons_self ρ i
    obtain ⟨ρ2, i2, e2⟩ := compI I f k xs (acc ++ (k x).toList) ρ1 i1 fun y hy => h y (List.mem_cons_of_mem _ hy)
    refine ⟨ρ2, i2, ?_⟩
    rw [List.map_cons, eCompGo, e1]
    simp only [Cm.bind]
    rw [e2]
    cases q : k x <;> simp [q]
theorem compS {α : Type} {g : EG} {tt : ET} {te : EE} {vs : List Nat} {ρ : Rho} (f : α → D) (k : α → Option D) (xs : List α) (acc : List D) (h : ∀ x ∈ xs, eTurn g tt te vs (f x) ρ = .ret (k x, ρ)) :
    eCompGo g tt te vs (xs.map f) acc ρ = .ret (.nw (.lst (acc ++ xs.filterMap k)), ρ) := by
  obtain ⟨ρ', rfl, e⟩ := compI (fun r => r = ρ) f k xs acc ρ rfl fun x hx r e => ⟨ρ, rfl, by rw [e]; exact h x hx⟩
  exact e
theorem fmap_all {α β : Type} (h : α → β) : ∀ xs : List α, xs.filterMap (fun x => some (h x)) = xs.map h
  | [] => rfl
  | x :: xs => by rw [List.filterMap_cons, fmap_all h xs]; rfl
/-! ### sorted by ranks -/
/-! ### ways_to -/
end DL
set_option Elab.async false
set_option linter.all false
set_option maxRecDepth 100000
set_option maxHeartbeats 1000000
set_option Elab.async false
set_option linter.all false
set_option maxRecDepth 100000
set_option maxHeartbeats 1000000
set_option Elab.async false
set_option linter.all false
set_option maxRecDepth 100000
set_option maxHeartbeats 1000000
set_option Elab.async false
set_option linter.all false
set_option maxRecDepth 100000
set_option maxHeartbeats 1000000
set_option Elab.async false
set_option linter.all false
set_option maxRecDepth 100000
set_option maxHeartbeats 1000000
namespace DL
open PySem L2 PyProof.Rows
/-! ### hands exchanged -/
section
variable {x : Str} {n m : Nat}
abbrev rp (x : Str) (n : Nat) : List Str := List.replicate n x
end
/-! ### the ways to pick, step by step -/
end DL
set_option Elab.async false
set_option linter.all false
set_option maxRecDepth 100000
set_option maxHeartbeats 1000000
namespace DL
open PySem L2 PyProof.Rows
/-! ### short rules for terms that draw, and for terms that do not -/
def Is {α : Type} (v x : α) : Prop := x = v
def IsC (P : Vd → Prop) (R : List D → Prop) (l : List D) : Prop := ∃ v ds, P v ∧ R ds ∧ l = v.d :: ds
def IsV (P : Vd → Prop) (R : List Vd → Prop) (l : List Vd) : Prop := ∃ v ds, P v ∧ R ds ∧ l = v :: ds
theorem sat_exact {e : EE} {ρ ρ1 : Rho} {v : Vd} (h : e ρ = .ret (v, ρ1)) : Sat (e ρ) (fun p => Is v p.1 ∧ p.2 = ρ1) := Sat.of h ⟨rfl, rfl⟩
theorem sat_exactA {e : EA} {ρ ρ1 : Rho} {v : List D} (h : e ρ = .ret (v, ρ1)) : Sat (e ρ) (fun p => Is v p.1 ∧ p.2 = ρ1) := Sat.of h ⟨rfl, rfl⟩
theorem sat_call {f : FN} {a : EA} {ρ ρ1 : Rho} {R : List D → Prop} {P : Vd → Prop} (ha : Sat (a ρ) (fun p => R p.1 ∧ p.2 = ρ1)) (hf : ∀ ds, R ds → Sat (f ds) P) : Sat (eCall f [] a ρ) (fun p => P p.1 ∧ p.2 = ρ1) := by
  unfold eCall
  refine ha.bind ?_
  rintro ⟨ds, ρ2⟩ ⟨h, rfl⟩
  simp only [List.append_nil]
  exact (hf ds h).at fun a h => ⟨h, rfl⟩
theorem sat_cons {e : EE} {r : EA} {ρ ρ1 ρ2 : Rho} {P : Vd → Prop} {R : List D → Prop} (he : Sat (e ρ) (fun p => P p.1 ∧ p.2 = ρ1)) (hr : Sat (r ρ1) (fun p => R p.1 ∧ p.2 = ρ2)) : Sat (aCons e r ρ) (fun p => IsC P R p.1 ∧ p.2 = ρ2) := by
  unfold aCons
  refine he.bind ?_
  rintro ⟨v, ρ2⟩ ⟨h, rfl⟩
  refine hr.bind ?_
  rintro ⟨ds, ρ3⟩ ⟨k, rfl⟩
  exact Sat.ret ⟨⟨v, ds, h, k, rfl⟩, rfl⟩
theorem sat_vcons {e : EE} {r : EV} {ρ ρ1 ρ2 : Rho} {P : Vd → Prop} {R : List Vd → Prop} (he : Sat (e ρ) (fun p => P p.1 ∧ p.2 = ρ1)) (hr : Sat (r ρ1) (fun p => R p.1 ∧ p.2 = ρ2)) : Sat (vCons e r ρ) (fun p => IsV P R p.1 ∧ p.2 = ρ2) := by
  unfold vCons
  refine he.bind ?_
  rintro ⟨v, ρ2⟩ ⟨h, rfl⟩
  refine hr.bind ?_
  rintro ⟨ds, ρ3⟩ ⟨k, rfl⟩
  exact Sat.ret ⟨⟨v, ds, h, k, rfl⟩, rfl⟩
theorem sat_set {e : EE} {ρ ρ1 : Rho} {i : Nat} {P : Vd → Prop} (he : Sat (e ρ) (fun p => P p.1 ∧ p.2 = ρ1)) : Sat (eSet i e ρ) (fun o => ∃ v, P v ∧ o = .nx (ρ1.set i v.slot)) := by
  unfold eSet
  refine he.bind ?_
  rintro ⟨v, ρ2⟩ ⟨h, rfl⟩
  exact Sat.ret ⟨v, h, rfl⟩
theorem sat_par2 {a b : EE} {ρ ρ1 ρ2 : Rho} {i j : Nat} {P R : Vd → Prop} (ha : Sat (a ρ) (fun p => P p.1 ∧ p.2 = ρ1)) (hb : Sat (b ρ1) (fun p => R p.1 ∧ p.2 = ρ2)) : Sat (ePar2 i j (vCons a (vCons b vNil)) ρ) (fun o => ∃ v w, P v ∧ R w ∧ o = .nx ((ρ2.set i v.slot).set j w.slot)) := by
  have n : Sat (vNil ρ2) (fun p => Is [] p.1 ∧ p.2 = ρ2) := Sat.of (a := ([], ρ2)) rfl ⟨rfl, rfl⟩
  have := sat_vcons ha (sat_vcons hb n)
  generalize vCons a (vCons b vNil) = V at *
  unfold ePar2
  refine this.bind ?_
  rintro ⟨vs, ρ2⟩ ⟨⟨v, ds, h, ⟨w, es, k, hn, e2⟩, e1⟩, rfl⟩
  cases hn
  subst e2
  subst e1
  exact Sat.ret ⟨v, w, h, k, rfl⟩
theorem A1 {e : EE} {ρ ρ1 : Rho} {v : Vd} (h : e ρ = .ret (v, ρ1)) : aCons e aNil ρ = .ret ([v.d], ρ1) := by simp [h]
theorem A2 {e f : EE} {ρ ρ1 ρ2 : Rho} {v w : Vd} (h : e ρ = .ret (v, ρ1)) (k : f ρ1 = .ret (w, ρ2)) : aCons e (aCons f aNil) ρ = .ret ([v.d, w.d], ρ2) := by simp [h, k]
theorem A3 {e f g : EE} {ρ ρ1 ρ2 ρ3 : Rho} {v w x : Vd} (h : e ρ = .ret (v, ρ1)) (k : f ρ1 = .ret (w, ρ2)) (l : g ρ2 = .ret (x, ρ3)) : aCons e (aCons f (aCons g aNil)) ρ = .ret ([v.d, w.d, x.d], ρ3) := by simp [h, k, l]
theorem O1 {G : List D → Option Vd} {a : EA} {ρ ρ1 : Rho} {ds : List D} {v : Vd} (h : a ρ = .ret (ds, ρ1)) (k : G ds = some v) : eOpN G a ρ = .ret (v, ρ1) := by simp [h, k]
theorem C1 {G : FN} {a : EA} {ρ ρ1 : Rho} {ds : List D} {v : Vd} (h : a ρ = .ret (ds, ρ1)) (k : G ds = .ret v) : eCall G [] a ρ = .ret (v, ρ1) := by simp [h, k, Cm.at]
theorem B2 {F : List D → Option Vd} {a b : EE} {ρ ρ1 ρ2 : Rho} {x y z : Vd} (ha : a ρ = .ret (x, ρ1)) (hb : b ρ1 = .ret (y, ρ2)) (h : F [x.d, y.d] = some z) : eOp2 F a b ρ = .ret (z, ρ2) := by simp [ha, hb, h]
theorem B1 {F : List D → Option Vd} {a : EE} {ρ ρ1 : Rho} {x z : Vd} (ha : a ρ = .ret (x, ρ1)) (h : F [x.d] = some z) : eOp1 F a ρ = .ret (z, ρ1) := by simp [ha, h]
theorem P2 {a b : EE} {ρ ρ1 ρ2 : Rho} {i j : Nat} {v w : Vd} (ha : a ρ = .ret (v, ρ1)) (hb : b ρ1 = .ret (w, ρ2)) : ePar2 i j (vCons a (vCons b vNil)) ρ = .ret (.nx ((ρ2.set i v.slot).set j w.slot)) := by simp [ha, hb]
theorem S1 {a : EE} {ρ ρ1 : Rho} {i : Nat} {v : Vd} (ha : a ρ = .ret (v, ρ1)) : eSet i a ρ = .ret (.nx (ρ1.set i v.slot)) := by simp [ha]
theorem R1 {a : EE} {ρ ρ1 : Rho} {v : Vd} (ha : a ρ = .ret (v, ρ1)) : eRet a ρ = .ret (.rt v) := by simp [ha]
theorem D1 {a : EE} {ρ ρ1 : Rho} {v : Vd} (ha : a ρ = .ret (v, ρ1)) : eDrop a ρ = .ret (.nx ρ1) := by simp [ha]
theorem L1 {a : EA} {ρ ρ1 : Rho} {ds : List D} (ha : a ρ = .ret (ds, ρ1)) (hl : ds.length ≤ 16777216) : eLst a ρ = .ret (.nw (.lst ds), ρ1) := by simp [ha, sizeLine_eq, hl]
theorem isT {a : EE} {ρ ρ1 : Rho} (h : a ρ = .ret (.sh (.bl true), ρ1)) : eTest (eOp2 (fIsB true) a (eC (.bl true))) ρ = .ret (false, ρ1) := by simp [h]
theorem orF {a b : ET} {ρ ρ1 ρ2 : Rho} (h : a ρ = .ret (false, ρ1)) (k : b ρ1 = .ret (false, ρ2)) : eOr a b ρ = .ret (false, ρ2) := by simp [h, k]
theorem T0 {a : EE} {ρ ρ1 : Rho} (h : a ρ = .ret (.sh (.bl false), ρ1)) : eTest a ρ = .ret (false, ρ1) := by simp [h]
theorem T1 {a : EE} {ρ ρ1 : Rho} (h : a ρ = .ret (.sh (.bl true), ρ1)) : eTest a ρ = .ret (true, ρ1) := by simp [h]
theorem N1 {a : ET} {ρ ρ1 : Rho} (h : a ρ = .ret (true, ρ1)) : eNot a ρ = .ret (false, ρ1) := by simp [h]
theorem If0 {t : ET} {a b : ES} {ρ ρ1 : Rho} {o : Out} (h : t ρ = .ret (false, ρ1)) (k : b ρ1 = .ret o) : eIf t a b ρ = .ret o := by simp [h, k]
theorem IfE1 {t : ET} {a b : EE} {ρ ρ1 : Rho} {q : Bool} (h : t ρ = .ret (q, ρ1)) : eIfE t a b ρ = if q = true then a ρ1 else b ρ1 := by simp [h]
theorem ne_same (d : D) (h : d.dep ≤ 64) : fNe [d, d] = some (.sh (.bl false)) := by
  have e := eqv_refl d (by omega)
  show (if _ ∧ _ then some (Vd.sh (.bl (!D.eqv d d))) else none) = _
  rw [e, if_pos ⟨h, h⟩]
  rfl
theorem eq_same (d : D) (h : d.dep ≤ 64) : fEq [d, d] = some (.sh (.bl true)) := by
  have e := eqv_refl d (by omega)
  show (if _ ∧ _ then some (Vd.sh (.bl (D.eqv d d))) else none) = _
  rw [e, if_pos ⟨h, h⟩]
end DL
set_option Elab.async false
set_option linter.all false
set_option maxRecDepth 100000
set_option maxHeartbeats 1000000
namespace DL
open PySem L2 PyProof.Rows
theorem turn_if {g : EG} {tt : ET} {te : EE} {vs : List Nat} {d : D} {ρ ρ1 ρ2 ρ' : Rho} {b : Bool} {v : Vd} (hg : g d ρ = some ρ1) (ht : tt ρ1 = .ret (b, ρ2)) (he : te ρ2 = .ret (v, ρ2)) (hw : wipeR ρ2 vs = ρ') : eTurn g tt te vs d ρ = .ret ((if b = true then some v.d else none), ρ') := by
  subst hw
  cases b <;> simp [eTurn, hg, ht, he]
theorem turn_yes {g : EG} {te : EE} {vs : List Nat} {d : D} {ρ ρ1 ρ2 ρ' : Rho} {v : Vd} (hg : g d ρ = some ρ1) (he : te ρ1 = .ret (v, ρ2)) (hw : wipeR ρ2 vs = ρ') : eTurn g eYes te vs d ρ = .ret (some v.d, ρ') := by
  subst hw
  simp [eTurn, hg, he]
theorem set_back {ρ : Rho} {k : Nat} (h : ρ[k]? = some .no) : ρ.set k .no = ρ := by
  obtain ⟨l, e⟩ := List.getElem?_eq_some_iff.mp h
  rw [← e, List.set_getElem_self]
theorem var_sh {ρ : Rho} {i : Nat} {d : D} (h : ρ[i]? = some (.sh d)) : eVar i ρ = .ret (.sh d, ρ) := by simp [h]
theorem comp_of {α : Type} {tt : ET} {te : EE} {ρ ρ0 : Rho} {it : EA} {k : Nat} {f : α → D} {L : List α} {h : α → Option D} (hi : it ρ0 = .ret (L.map f, ρ)) (hk : ρ[k]? = some .no) (ht : ∀ x ∈ L, eTurn (gN k) tt te [k] (f x) ρ = .ret (h x, ρ)) : eComp it (gN k) tt te [k] ρ0 = .ret (.nw (.lst (L.filterMap h)), ρ) := by
  unfold eComp
  rw [hi]
  show eCompGo _ _ _ _ _ _ (ρ.set k .no) = _
  rw [set_back hk, compS f h L [] ht, List.nil_append]
theorem as_boolsL : ∀ bs : List Bool, asBools (bs.map D.bl) = some bs
  | [] => rfl
  | b :: bs => by simp [asBools, as_boolsL bs]
theorem any_boolsL (bs : List Bool) : fAny [.lst (bs.map D.bl)] = some (.sh (.bl (bs.any id))) := by
  have := as_boolsL bs
  generalize bs.map D.bl = A at *
  simp [this]
theorem all_boolsL (bs : List Bool) : fAll [.lst (bs.map D.bl)] = some (.sh (.bl (bs.all id))) := by
  have := as_boolsL bs
  generalize bs.map D.bl = A at *
  simp [this]
/-! ### in a row, in a list of places -/
/-! ### the loop's body -/
abbrev wD (ws : List Str) : D := .lst (wsD ws)
theorem len_ws (ws : List Str) : fLenS [wD ws] = some (.sh (.int ws.length)) := by simp [wD, wsD]
def OwSh (s : Slot) (d : D) : Prop := s = .ow d ∨ s = .sh d
end DL
set_option Elab.async false
set_option linter.all false
set_option maxRecDepth 100000
set_option maxHeartbeats 1000000
namespace DL
open PySem L2 PyProof.Rows
/-! ### names -/
def poolL : List Str := ["a", "b", "c1", "d", "zed", "m9", "k", "stranger"]
theorem pool_name (x : Str) (h : x ∈ poolL) : f_is_name [.str x] = .ret (.sh (.bl true)) := by
  unfold poolL at h
  simp only [List.mem_cons, List.not_mem_nil, or_false] at h
  rcases h with rfl | rfl | rfl | rfl | rfl | rfl | rfl | rfl <;> kernel_rfl
/-- names that can come up -/
def Nm (ws : List Str) : Prop := ∀ w ∈ ws, w ∈ poolL
theorem str_eqv (a b : Str) : D.eqv (.str a) (.str b) = decide (a = b) := by
  have e : D.eqv (.str a) (.str b) = (a == b) := by simp [D.eqv]
  rw [e, Bool.eq_iff_iff, beq_iff_eq, decide_eq_true_eq]
theorem N0 {a : ET} {ρ ρ1 : Rho} (h : a ρ = .ret (false, ρ1)) : eNot a ρ = .ret (true, ρ1) := by simp [h]
theorem orS {a b : ET} {ρ ρ1 ρ2 : Rho} {q : Bool} (h : a ρ = .ret (false, ρ1)) (k : b ρ1 = .ret (q, ρ2)) : eOr a b ρ = .ret (q, ρ2) := by simp [h, k]
theorem orT {a b : ET} {ρ ρ1 : Rho} (h : a ρ = .ret (true, ρ1)) : eOr a b ρ = .ret (true, ρ1) := by simp [h]
theorem testQ {e : EE} {ρ ρ1 : Rho} {b : Bool} (h : e ρ = .ret (.sh (.bl b), ρ1)) : eTest e ρ = .ret (b, ρ1) := by simp [h]
theorem ifT1 {t : ET} {a b : ES} {ρ ρ1 : Rho} (h : t ρ = .ret (true, ρ1)) : eIf t a b ρ = a ρ1 := by simp [h]
theorem ws_any (w : Str) (ws : List Str) : (wsD ws).any (fun z => D.eqv z (.str w)) = decide (w ∈ ws) := by
  induction ws with
  | nil => rfl
  | cons a ws ih =>
    show (D.eqv (.str a) (.str w) || (wsD ws).any _) = _
    rw [ih, str_eqv, ← Bool.decide_or]
    refine decide_eq_decide.mpr ?_
    rw [List.mem_cons]
    exact or_congr_left ⟨fun h => h.symm, fun h => h.symm⟩
theorem dep_wsd (ws : List Str) : D.deps (wsD ws) ≤ 63 := Nat.le_trans (deps_le (k := 0) fun d hd => by
  obtain ⟨w, _, rfl⟩ := List.mem_map.mp hd
  simp [D.dep]) (by decide)
theorem in_ws (w : Str) (ws : List Str) (neg : Bool) : fInB neg [.str w, .lst (wsD ws)] = some (.sh (.bl (neg ^^ decide (w ∈ ws)))) := by
  have d1 : (D.str w).dep ≤ 64 := by simp [D.dep]
  have a := ws_any w ws
  have d2 := dep_wsd ws
  generalize wsD ws = M at *
  show (if _ ∧ _ then some (Vd.sh (.bl (neg ^^ _))) else none) = _
  rw [if_pos ⟨d1, d2⟩, a]
/-! ### checked_suspects -/
section
variable {c : Str → Addr}
abbrev csG : EG := (gT (gsC (gN 1) (gsC (gN 2) gsN)))
abbrev csT : ET := (eOr (eNot (eTest (eCall f_is_name [] (aCons (eVar 2) aNil)))) (eTest (eOp2 (fInB false) (eVar 2) (eSl (eVar 0) oNone (oSome (eVar 1))))))
abbrev csB (c : Str → Addr) : ES := (eIf csT (eRaise (c "BadSuspects") ["index"] (aCons (eVar 1) aNil)) eSkip)
theorem sl_to {X : List D} {k : Nat} {e : EE} {i : Nat} {ρ : Rho} (h : ρ[i]? = some (.sh (.lst X))) (he : e ρ = .ret (.sh (.int (k : Int)), ρ)) : eSl (eVar i) oNone (oSome e) ρ = .ret (.nw (.lst (X.take k)), ρ) := by
  rw [← cut_to]
  simp [h, he]
theorem cs_test {X : List D} {k : Nat} {w : Str} (hw : w ∈ poolL) {pre : List Str} (hp : X.take k = wsD pre) : csT [.sh (.lst X), .sh (.int (k : Nat)), .sh (.str w)] = .ret (decide (w ∈ pre), [.sh (.lst X), .sh (.int (k : Nat)), .sh (.str w)]) := by
  have n := pool_name w hw
  have s := sl_to (X := X) (k := k) (e := eVar 1) (i := 0) (ρ := [.sh (.lst X), .sh (.int (k : Nat)), .sh (.str w)]) rfl rfl
  rw [hp] at s
  have i2 := in_ws w pre false
  have b := B2 (F := fInB false) (var_sh (i := 2) (ρ := [.sh (.lst X), .sh (.int (k : Nat)), .sh (.str w)]) (d := .str w) rfl) s i2
  rw [Bool.false_xor] at b
  exact orS (N1 (T1 (C1 (A1 (var_sh (i := 2) rfl)) n))) (testQ b)
/-- the walk over good names that stand at the head -/
theorem cs_go {X : List D} : ∀ (ws : List Str) (pre : List Str) (rest : List D), X = wsD pre ++ (wsD ws ++ rest) → Nm ws → (pre ++ ws).Nodup →
    eForGo csG (csB c) [1, 2] (enumD pre.length (wsD ws ++ rest)) [.sh (.lst X), .no, .no] = eForGo csG (csB c) [1, 2] (enumD (pre.length + ws.length) rest) [.sh (.lst X), .no, .no]
  | [], pre, rest, _, _, _ => rfl
  | w :: ws, pre, rest, e, hw, nd => by
    have tk : X.take pre.length = wsD pre := by
      rw [e, List.take_left' (by simp [wsD])]
    have ni : w ∉ pre := fun h => (List.nodup_append.mp nd).2.2 w h w List.mem_cons_self rfl
    have t := cs_test (k := pre.length) (hw w List.mem_cons_self) tk
    rw [decide_eq_false ni] at t
    have b : csB c [.sh (.lst X), .sh (.int (pre.length : Nat)), .sh (.str w)] = .ret (.nx [.sh (.lst X), .sh (.int (pre.length : Nat)), .sh (.str w)]) := If0 t rfl
    have ih := cs_go (X := X) ws (pre ++ [w]) rest (by rw [e]; simp [wsD]) (fun x hx => hw x (List.mem_cons_of_mem _ hx)) (by simpa using nd)
    have l1 : (pre ++ [w]).length = pre.length + 1 := by simp
    rw [l1] at ih
    show eForGo csG (csB c) [1, 2] (.tup [.int (pre.length : Nat), .str w] :: enumD (pre.length + 1) (wsD ws ++ rest)) _ = _
    rw [eForGo]
    generalize csB c = E at *
    show ((E [.sh (.lst X), .sh (.int (pre.length : Nat)), .sh (.str w)]).bind _) = _
    rw [b]
    show eForGo csG E [1, 2] _ [.sh (.lst X), .no, .no] = _
    rw [ih, List.length_cons, show pre.length + 1 + ws.length = pre.length + (ws.length + 1) by omega]
theorem list_l (X : List D) : f_is_list [.lst X] = .ret (.sh (.bl true)) := ev_is_list_l X
abbrev csE : ET := (eOr (eNot (eTest (eCall f_is_list [] (aCons (eVar 0) aNil)))) (eTest (eOp2 fEq (eOpN fLenS (aCons (eVar 0) aNil)) (eC (.int 0)))))
abbrev csA (c : Str → Addr) (n : Str) : ES := (eIf csE (eRaise (c n) ["index"] (aCons (eC (.int 0)) aNil)) eSkip)
theorem len_zero {X : List D} (h : X ≠ []) : fEq [.int (X.length : Nat), .int 0] = some (.sh (.bl false)) := by
  simp [D.dep, D.eqv, h]
theorem cs_head {X : List D} (h : X ≠ []) (n : Str) (r : Rho) : csA c n (.sh (.lst X) :: r) = .ret (.nx (.sh (.lst X) :: r)) := by
  have l := list_l X
  have z := len_zero h
  have e : fLenS [.lst X] = some (.sh (.int (X.length : Nat))) := rfl
  exact If0 (orF (N1 (T1 (C1 (A1 (var_sh (i := 0) rfl)) l))) (T0 (B2 (F := fEq) (O1 (A1 (var_sh (i := 0) rfl)) e) (rfl : eC (.int 0) _ = .ret (.sh (.int 0), _)) z))) rfl
theorem cs_for {X : List D} : eFor (iEnum (aCons (eVar 0) aNil)) csG (csB c) [1, 2] [.sh (.lst X), .no, .no] = eForGo csG (csB c) [1, 2] (enumD 0 X) [.sh (.lst X), .no, .no] := by
  generalize csB c = E at *
  simp [eFor, wipeR]
theorem cs_ok {ws : List Str} (h0 : ws ≠ []) (hw : Nm ws) (nd : ws.Nodup) : f_checked_suspects_e c [wD ws] = .ret (.nw (wD ws)) := by
  have g := cs_go (c := c) (X := wsD ws) ws [] [] (by simp [wsD]) hw nd
  rw [List.append_nil] at g
  have hd := cs_head (c := c) (X := wsD ws) (by simpa [wsD] using h0) "BadSuspects" [.no, .no]
  have f : eFor (iEnum (aCons (eVar 0) aNil)) csG (csB c) [1, 2] [.sh (.lst (wsD ws)), .no, .no] = .ret (.nx [.sh (.lst (wsD ws)), .no, .no]) := cs_for.trans g
  have all : b_checked_suspects_e c (startF 1 3 [.lst (wsD ws)]) = .ret (.rt (.nw (.lst (wsD ws)))) := by
    show eSeq (csA c "BadSuspects") (eSeq (eFor (iEnum (aCons (eVar 0) aNil)) csG (csB c) [1, 2]) (eRet (eOpN fList (aCons (eVar 0) aNil)))) [.sh (.lst (wsD ws)), .no, .no] = _
    rw [seq_nx hd, seq_nx f]
    exact R1 (O1 (v := .nw (.lst (wsD ws))) (A1 (var_sh (i := 0) rfl)) rfl)
  simp only [f_checked_suspects_e, defF, runS, all, Cm.bind, List.length_cons, List.length_nil]
  rfl
/-! ### askings -/
theorem lenset_ev {a : EE} {ρ ρ1 : Rho} {v : Vd} {ds : List D} {ws : List Str} (ha : a ρ = .ret (v, ρ1)) (h1 : itemsOf v.d = some ds) (h2 : asStrs ds = some ws) (h3 : ws.length < 4000) : eLenSet a ρ = .ret (.sh (.int (onceT ws).length), ρ1) := by simp [ha, h1, h2, h3, -itemsOf]
theorem asStrs_ws (ws : List Str) : asStrs (wsD ws) = some ws := asStrs_map ws
theorem an_ok {ws : List Str} (hw : Nm ws) (nd : ws.Nodup) (hl : ws.length < 4000) : f_are_names [wD ws] = .ret (.sh (.bl true)) := by
  have l := list_l (wsD ws)
  have tk : ∀ d ∈ wsD ws, eTurn (gN 1) eYes (eCall f_is_name [] (aCons (eVar 1) aNil)) [1] d [.sh (wD ws), .no] = .ret (some (.bl ((fun _ => true) d)), [.sh (wD ws), .no]) := by
    intro d hd
    obtain ⟨w, h, rfl⟩ := List.mem_map.mp hd
    exact turn_yes (ρ1 := [.sh (wD ws), .sh (.str w)]) (v := .sh (.bl true)) rfl (C1 (A1 (var_sh (i := 1) rfl)) (pool_name w (hw w h))) rfl
  have cg := pred_comp (fun _ => true) (wsD ws) tk
  have al := all_bools ((wsD ws).map fun _ => true)
  rw [show (((wsD ws).map fun _ => true).all id) = true from by simp] at al
  have cm : eComp (iItems (eVar 0)) (gN 1) eYes (eCall f_is_name [] (aCons (eVar 1) aNil)) [1] [.sh (wD ws), .no] = .ret (.nw (.lst (((wsD ws).map fun _ => true).map D.bl)), [.sh (wD ws), .no]) := cg
  have t1 : eOr (eNot (eTest (eCall f_is_list [] (aCons (eVar 0) aNil)))) (eNot (eTest (eOpN fAll (aCons (eComp (iItems (eVar 0)) (gN 1) eYes (eCall f_is_name [] (aCons (eVar 1) aNil)) [1]) aNil)))) [.sh (wD ws), .no] = .ret (false, [.sh (wD ws), .no]) :=
    orF (N1 (T1 (C1 (A1 (var_sh (i := 0) rfl)) l))) (N1 (T1 (O1 (A1 cm) al)))
  have s : eLenSet (eVar 0) [.sh (wD ws), .no] = .ret (.sh (.int (ws.length : Nat)), [.sh (wD ws), .no]) := by
    have e := lenset_ev (a := eVar 0) (ρ := [.sh (wD ws), .no]) (v := .sh (wD ws)) (ds := wsD ws) rfl rfl (asStrs_ws ws) hl
    rw [onceT_nodup nd] at e
    exact e
  have ln : fLenS [wD ws] = some (.sh (.int (ws.length : Nat))) := len_ws ws
  have eq : fEq [.int (ws.length : Nat), .int (ws.length : Nat)] = some (.sh (.bl true)) := eq_same _ (by simp [D.dep])
  have all : b_are_names (startF 1 2 [wD ws]) = .ret (.rt (.sh (.bl true))) := by
    show eSeq (eIf (eOr (eNot (eTest (eCall f_is_list [] (aCons (eVar 0) aNil)))) (eNot (eTest (eOpN fAll (aCons (eComp (iItems (eVar 0)) (gN 1) eYes (eCall f_is_name [] (aCons (eVar 1) aNil)) [1]) aNil))))) (eRet (eC (.bl false))) eSkip) (eRet (eOp2 fEq (eLenSet (eVar 0)) (eOpN fLenS (aCons (eVar 0) aNil)))) [.sh (wD ws), .no] = _
    rw [seq_nx (If0 t1 rfl)]
    exact R1 (B2 (F := fEq) s (O1 (A1 (var_sh (i := 0) rfl)) ln) eq)
  simp only [f_are_names, defF, runS, all, Cm.bind, List.length_cons, List.length_nil]
  rfl
/-- askings that can come up -/
structure Ask (ks : List (List Str)) : Prop where
  ne : ks ≠ []
  le : ks.length ≤ 5
  ok : ∀ k ∈ ks, Nm k ∧ k.Nodup ∧ k.length ≤ 10
abbrev caB (c : Str → Addr) : ES := (eIf (eNot (eTest (eCall f_are_names [] (aCons (eVar 2) aNil)))) (eRaise (c "BadAskings") ["index"] (aCons (eVar 1) aNil)) eSkip)
theorem ca_go {X : D} : ∀ (ks : List (List Str)) (k : Nat) (rest : List D) (s : Slot), (∀ k ∈ ks, Nm k ∧ k.Nodup ∧ k.length ≤ 10) →
    ∃ s', eForGo csG (caB c) [1] (enumD k (ks.map wD ++ rest)) [.sh X, .no, s] = eForGo csG (caB c) [1] (enumD (k + ks.length) rest) [.sh X, .no, s']
  | [], k, rest, s, _ => ⟨s, rfl⟩
  | w :: ks, k, rest, s, h => by
    obtain ⟨h1, h2, h3⟩ := h w List.mem_cons_self
    obtain ⟨s', ih⟩ := ca_go (X := X) ks (k + 1) rest (.sh (wD w)) fun x hx => h x (List.mem_cons_of_mem _ hx)
    refine ⟨s', ?_⟩
    have a := an_ok h1 h2 (by omega)
    have b : caB c [.sh X, .sh (.int (k : Nat)), .sh (wD w)] = .ret (.nx [.sh X, .sh (.int (k : Nat)), .sh (wD w)]) := If0 (N1 (T1 (C1 (A1 (var_sh (i := 2) rfl)) a))) rfl
    show eForGo csG (caB c) [1] (.tup [.int (k : Nat), wD w] :: enumD (k + 1) (ks.map wD ++ rest)) _ = _
    rw [eForGo]
    generalize caB c = E at *
    show ((E [.sh X, .sh (.int (k : Nat)), .sh (wD w)]).bind _) = _
    rw [b]
    show eForGo csG E [1] _ [.sh X, .no, .sh (wD w)] = _
    rw [ih, List.length_cons, show k + 1 + ks.length = k + (ks.length + 1) by omega]
theorem ca_for {X : List D} : eFor (iEnum (aCons (eVar 0) aNil)) csG (caB c) [1] [.sh (.lst X), .no, .no] = eForGo csG (caB c) [1] (enumD 0 X) [.sh (.lst X), .no, .no] := by
  generalize caB c = E at *
  simp [eFor, wipeR]
abbrev caR : ES := (eRet (eComp (iItems (eVar 0)) (gN 2) eYes (eOpN fList (aCons (eVar 2) aNil)) [2]))
theorem ca_ok {ks : List (List Str)} (h : Ask ks) : f_checked_askings_e c [.lst (ks.map wD)] = .ret (.nw (.lst (ks.map wD))) := by
  obtain ⟨s', g⟩ := ca_go (c := c) (X := .lst (ks.map wD)) ks 0 [] .no h.ok
  rw [List.append_nil] at g
  have hd := cs_head (c := c) (X := ks.map wD) (by simpa using h.ne) "BadAskings" [.no, .no]
  have f : eFor (iEnum (aCons (eVar 0) aNil)) csG (caB c) [1] [.sh (.lst (ks.map wD)), .no, .no] = .ret (.nx [.sh (.lst (ks.map wD)), .no, s']) := ca_for.trans g
  have cm : eComp (iItems (eVar 0)) (gN 2) eYes (eOpN fList (aCons (eVar 2) aNil)) [2] [.sh (.lst (ks.map wD)), .no, s'] = .ret (.nw (.lst (ks.map wD)), [.sh (.lst (ks.map wD)), .no, .no]) := by
    have k := compS (g := gN 2) (tt := eYes) (te := eOpN fList (aCons (eVar 2) aNil)) (vs := [2]) (ρ := [.sh (.lst (ks.map wD)), .no, .no]) wD (fun k => some (wD k)) ks [] (fun k _ => turn_yes (ρ1 := [.sh (.lst (ks.map wD)), .no, .sh (wD k)]) (v := .nw (wD k)) rfl (O1 (A1 (var_sh (i := 2) rfl)) rfl) rfl)
    rw [fmap_all, List.nil_append] at k
    exact k
  have all : b_checked_askings_e c (startF 1 3 [.lst (ks.map wD)]) = .ret (.rt (.nw (.lst (ks.map wD)))) := by
    show eSeq (csA c "BadAskings") (eSeq (eFor (iEnum (aCons (eVar 0) aNil)) csG (caB c) [1]) caR) [.sh (.lst (ks.map wD)), .no, .no] = _
    rw [seq_nx hd, seq_nx f]
    exact R1 cm
  simp only [f_checked_askings_e, defF, runS, all, Cm.bind, List.length_cons, List.length_nil]
  rfl
/-! ### lies, answers, numbers -/
theorem cl_ok {i : Int} (h : i = 0 ∨ i = 1) : f_checked_lies_e c [.int i] = .ret (.sh (.int i)) := by
  rcases h with rfl | rfl <;> kernel_rfl
/-! the same of tuples -/
theorem list_l_t (X : List D) : f_is_list [.tup X] = .ret (.sh (.bl true)) := ev_is_list_t X
theorem cs_head_t {X : List D} (h : X ≠ []) (n : Str) (r : Rho) : csA c n (.sh (.tup X) :: r) = .ret (.nx (.sh (.tup X) :: r)) := by
  have l := list_l_t X
  have z := len_zero h
  have e : fLenS [.tup X] = some (.sh (.int (X.length : Nat))) := rfl
  exact If0 (orF (N1 (T1 (C1 (A1 (var_sh (i := 0) rfl)) l))) (T0 (B2 (F := fEq) (O1 (A1 (var_sh (i := 0) rfl)) e) (rfl : eC (.int 0) _ = .ret (.sh (.int 0), _)) z))) rfl
theorem ca_for_t {X : List D} : eFor (iEnum (aCons (eVar 0) aNil)) csG (caB c) [1] [.sh (.tup X), .no, .no] = eForGo csG (caB c) [1] (enumD 0 X) [.sh (.tup X), .no, .no] := by
  generalize caB c = E at *
  simp [eFor, wipeR]
theorem ca_ok_t {ks : List (List Str)} (h : Ask ks) : f_checked_askings_e c [.tup (ks.map wD)] = .ret (.nw (.lst (ks.map wD))) := by
  obtain ⟨s', g⟩ := ca_go (c := c) (X := .tup (ks.map wD)) ks 0 [] .no h.ok
  rw [List.append_nil] at g
  have hd := cs_head_t (c := c) (X := ks.map wD) (by simpa using h.ne) "BadAskings" [.no, .no]
  have f : eFor (iEnum (aCons (eVar 0) aNil)) csG (caB c) [1] [.sh (.tup (ks.map wD)), .no, .no] = .ret (.nx [.sh (.tup (ks.map wD)), .no, s']) := ca_for_t.trans g
  have cm : eComp (iItems (eVar 0)) (gN 2) eYes (eOpN fList (aCons (eVar 2) aNil)) [2] [.sh (.tup (ks.map wD)), .no, s'] = .ret (.nw (.lst (ks.map wD)), [.sh (.tup (ks.map wD)), .no, .no]) := by
    have k := compS (g := gN 2) (tt := eYes) (te := eOpN fList (aCons (eVar 2) aNil)) (vs := [2]) (ρ := [.sh (.tup (ks.map wD)), .no, .no]) wD (fun k => some (wD k)) ks [] (fun k _ => turn_yes (ρ1 := [.sh (.tup (ks.map wD)), .no, .sh (wD k)]) (v := .nw (wD k)) rfl (O1 (A1 (var_sh (i := 2) rfl)) rfl) rfl)
    rw [fmap_all, List.nil_append] at k
    exact k
  have all : b_checked_askings_e c (startF 1 3 [.tup (ks.map wD)]) = .ret (.rt (.nw (.lst (ks.map wD)))) := by
    show eSeq (csA c "BadAskings") (eSeq (eFor (iEnum (aCons (eVar 0) aNil)) csG (caB c) [1]) caR) [.sh (.tup (ks.map wD)), .no, .no] = _
    rw [seq_nx hd, seq_nx f]
    exact R1 cm
  simp only [f_checked_askings_e, defF, runS, all, Cm.bind, List.length_cons, List.length_nil]
  rfl
end
end DL
set_option Elab.async false
set_option linter.all false
set_option maxRecDepth 100000
set_option maxHeartbeats 1000000
namespace DL
open PySem L2 PyProof.Rows
theorem setF_ev {C y : Addr} {f : Str} {e : EE} {ρ ρ1 : Rho} {v : Vd} {ns : List Str} {vs : List D} (he : e ρ = .ret (v, ρ1)) (h0 : ρ1[0]? = some (.ob y C ns vs)) (hl : vs.length < 1000) : eSetF 0 C f e ρ = .ret (.nx (ρ1.set 0 (.ob y C (putD f v.d ns vs).1 (putD f v.d ns vs).2))) := by
  simp [he, h0, hl]
section
variable {c : Str → Addr}
abbrev ho (y C : Addr) (ns : List Str) (vs : List D) (s a l s4 : Slot) : Rho := [.ob y C ns vs, s, a, l, s4, .no, .no]
abbrev hi1 (c : Str → Addr) : ES := (eSetF 0 (c "Hunt") "ones" (eCall (f_checked_suspects_e c) [] (aCons (eVar 1) aNil)))
abbrev hi2 (c : Str → Addr) : ES := (eSet 4 (eCall (f_checked_askings_e c) [] (aCons (eVar 2) aNil)))
abbrev hi3 (c : Str → Addr) : ES := (eSetF 0 (c "Hunt") "most" (eCall (f_checked_lies_e c) [] (aCons (eVar 3) aNil)))
abbrev hiI (c : Str → Addr) : EE := (eComp (iItems (eFldO 0 (c "Hunt") "ones")) (gN 6) eYes (eOp2 (fInB false) (eVar 6) (eVar 5)) [6])
abbrev hi4 (c : Str → Addr) : ES := (eSetF 0 (c "Hunt") "signs" (eComp (iItems (eVar 4)) (gN 5) eYes (hiI c) [5]))
theorem h1_ev {s a l : D} {v : Vd} (y : Addr) (h : f_checked_suspects_e c [s] = .ret v) : hi1 c (ho y (c "Hunt") [] [] (.sh s) (.sh a) (.sh l) .no) = .ret (.nx (ho y (c "Hunt") ["ones"] [v.d] (.sh s) (.sh a) (.sh l) .no)) :=
  setF_ev (ns := []) (vs := []) (C1 (A1 (var_sh (i := 1) rfl)) h) rfl (by decide)
theorem h2_ev {a : D} {v : Vd} {s l : Slot} {ns : List Str} {vs : List D} {C : Addr} (y : Addr) (h : f_checked_askings_e c [a] = .ret v) : hi2 c (ho y C ns vs s (.sh a) l .no) = .ret (.nx (ho y C ns vs s (.sh a) l v.slot)) :=
  S1 (i := 4) (C1 (A1 (var_sh (i := 2) rfl)) h)
abbrev hF : List Str := ["ones", "most", "signs", "known"]
abbrev hF3 : List Str := ["ones", "most", "signs"]
theorem ne1 : ¬ ("ones" : Str) = "most" := by decide
theorem ne2 : ¬ ("ones" : Str) = "signs" := by decide
theorem ne3 : ¬ ("most" : Str) = "signs" := by decide
theorem fldO_ones {y C : Addr} {ns : List Str} {v : D} {vs : List D} {r : Rho} : eFldO 0 C "ones" (.ob y C ("ones" :: ns) (v :: vs) :: r) = .ret (.sh v, .ob y C ("ones" :: ns) (v :: vs) :: r) := by simp
abbrev sgD (ns : List Str) (ks : List (List Str)) : D := .lst (ks.map fun k => .lst (ns.map fun n => .bl (decide (n ∈ k))))
theorem hunt_ok {ns : List Str} {ks : List (List Str)} {i : Int} {SD AD : D} (e1 : f_checked_suspects_e c [SD] = .ret (.nw (wD ns))) (e2 : f_checked_askings_e c [AD] = .ret (.nw (.lst (ks.map wD)))) (hi : i = 0 ∨ i = 1) : f_Hunt_init_e c [SD, AD, .int i] = .ret (hF3, [wD ns, .int i, sgD ns ks]) := by
  have e3 := cl_ok (c := c) hi
  refine yF_eq fun y => ?_
  have p1 : hi1 c (ho y (c "Hunt") [] [] (.sh SD) (.sh AD) (.sh (.int i)) .no) = .ret (.nx (ho y (c "Hunt") ["ones"] [wD ns] (.sh SD) (.sh AD) (.sh (.int i)) .no)) := h1_ev (a := AD) (l := .int i) y e1
  have p2 : hi2 c (ho y (c "Hunt") ["ones"] [wD ns] (.sh SD) (.sh AD) (.sh (.int i)) .no) = .ret (.nx (ho y (c "Hunt") ["ones"] [wD ns] (.sh SD) (.sh AD) (.sh (.int i)) (.ow (.lst (ks.map wD))))) := h2_ev (s := .sh SD) (l := .sh (.int i)) (ns := ["ones"]) (vs := [wD ns]) (C := c "Hunt") y e2
  have p3 : hi3 c (ho y (c "Hunt") ["ones"] [wD ns] (.sh SD) (.sh AD) (.sh (.int i)) (.ow (.lst (ks.map wD)))) = .ret (.nx (ho y (c "Hunt") ["ones", "most"] [wD ns, .int i] (.sh SD) (.sh AD) (.sh (.int i)) (.ow (.lst (ks.map wD))))) := by
    have := setF_ev (f := "most") (C1 (A1 (var_sh (i := 3) (ρ := ho y (c "Hunt") ["ones"] [wD ns] (.sh SD) (.sh AD) (.sh (.int i)) (.ow (.lst (ks.map wD)))) (d := .int i) rfl)) e3) (y := y) (C := c "Hunt") rfl (by simp)
    refine this.trans ?_
    simp only [putD, if_neg ne1]
    rfl
  have inner : ∀ k ∈ ks, hiI c ((ho y (c "Hunt") ["ones", "most"] [wD ns, .int i] (.sh SD) (.sh AD) (.sh (.int i)) (.sh (.lst (ks.map wD)))).set 5 (.sh (wD k))) = .ret (.nw (.lst (ns.map fun n => .bl (decide (n ∈ k)))), (ho y (c "Hunt") ["ones", "most"] [wD ns, .int i] (.sh SD) (.sh AD) (.sh (.int i)) (.sh (.lst (ks.map wD)))).set 5 (.sh (wD k))) := by
    intro k _
    have it : iItems (eFldO 0 (c "Hunt") "ones") ((ho y (c "Hunt") ["ones", "most"] [wD ns, .int i] (.sh SD) (.sh AD) (.sh (.int i)) (.sh (.lst (ks.map wD)))).set 5 (.sh (wD k))) = .ret (ns.map D.str, (ho y (c "Hunt") ["ones", "most"] [wD ns, .int i] (.sh SD) (.sh AD) (.sh (.int i)) (.sh (.lst (ks.map wD)))).set 5 (.sh (wD k))) := by
      show ((eFldO 0 (c "Hunt") "ones" _).bind _) = _
      rw [show (ho y (c "Hunt") ["ones", "most"] [wD ns, .int i] (.sh SD) (.sh AD) (.sh (.int i)) (.sh (.lst (ks.map wD)))).set 5 (.sh (wD k)) = [.ob y (c "Hunt") ["ones", "most"] [wD ns, .int i], .sh SD, .sh AD, .sh (.int i), .sh (.lst (ks.map wD)), .sh (wD k), .no] from rfl, fldO_ones]
      rfl
    have cm := comp_of (f := D.str) (L := ns) (h := fun n => some (.bl (decide (n ∈ k)))) (k := 6) (tt := eYes) (te := eOp2 (fInB false) (eVar 6) (eVar 5)) it rfl (fun n _ => turn_yes (ρ1 := [.ob y (c "Hunt") ["ones", "most"] [wD ns, .int i], .sh SD, .sh AD, .sh (.int i), .sh (.lst (ks.map wD)), .sh (wD k), .sh (.str n)]) (v := .sh (.bl (decide (n ∈ k)))) rfl (B2 (F := fInB false) (var_sh (i := 6) (d := .str n) rfl) (var_sh (i := 5) (d := wD k) rfl) (by have := in_ws n k false; rwa [Bool.false_xor] at this)) rfl)
    rw [fmap_all] at cm
    exact cm
  have p4 : hi4 c (ho y (c "Hunt") ["ones", "most"] [wD ns, .int i] (.sh SD) (.sh AD) (.sh (.int i)) (.ow (.lst (ks.map wD)))) = .ret (.nx (ho y (c "Hunt") ["ones", "most", "signs"] [wD ns, .int i, .lst (ks.map fun k => .lst (ns.map fun n => .bl (decide (n ∈ k))))] (.sh SD) (.sh AD) (.sh (.int i)) (.sh (.lst (ks.map wD))))) := by
    have it : iItems (eVar 4) (ho y (c "Hunt") ["ones", "most"] [wD ns, .int i] (.sh SD) (.sh AD) (.sh (.int i)) (.ow (.lst (ks.map wD)))) = .ret (ks.map wD, ho y (c "Hunt") ["ones", "most"] [wD ns, .int i] (.sh SD) (.sh AD) (.sh (.int i)) (.sh (.lst (ks.map wD)))) := rfl
    have cm := comp_of (f := wD) (L := ks) (h := fun k => some (.lst (ns.map fun n => .bl (decide (n ∈ k))))) (k := 5) (tt := eYes) (te := hiI c) it rfl (fun k hk => turn_yes (ρ1 := (ho y (c "Hunt") ["ones", "most"] [wD ns, .int i] (.sh SD) (.sh AD) (.sh (.int i)) (.sh (.lst (ks.map wD)))).set 5 (.sh (wD k))) (v := .nw (.lst (ns.map fun n => .bl (decide (n ∈ k))))) rfl (inner k hk) rfl)
    rw [fmap_all] at cm
    have := setF_ev (f := "signs") cm (y := y) (C := c "Hunt") rfl (by simp)
    refine this.trans ?_
    simp only [putD, if_neg ne2, if_neg ne3]
    rfl
  have run : eSeq (hi1 c) (eSeq (hi2 c) (eSeq (hi3 c) (eSeq (hi4 c) eSkip))) (ho y (c "Hunt") [] [] (.sh SD) (.sh AD) (.sh (.int i)) .no) = .ret (.nx (ho y (c "Hunt") hF3 [wD ns, .int i, sgD ns ks] (.sh SD) (.sh AD) (.sh (.int i)) (.sh (.lst (ks.map wD))))) := by
    rw [seq_nx p1, seq_nx p2, seq_nx p3, seq_nx p4]
    rfl
  have ini : initF (c "Hunt") y 4 7 (b_Hunt_init_e c) [SD, AD, .int i] = .ret (hF3, [wD ns, .int i, sgD ns ks]) := by
    unfold initF req
    rw [if_pos (show [SD, AD, .int i].length + 1 = 4 from rfl)]
    show ((eSeq (hi1 c) (eSeq (hi2 c) (eSeq (hi3 c) (eSeq (hi4 c) eSkip))) (ho y (c "Hunt") [] [] (.sh SD) (.sh AD) (.sh (.int i)) .no)).bind _) = _
    rw [run]
    simp
  rw [ini]
  rfl
end
end DL
set_option Elab.async false
set_option linter.all false
set_option maxRecDepth 100000
set_option maxHeartbeats 1000000
namespace DL
open PySem L2 PyProof.Rows
section
variable {c : Str → Addr}
theorem lk1 {a b s m : D} : lookF "ones" hF [a, b, s, m] = some a := by kernel_rfl
theorem lk2 {a b s m : D} : lookF "most" hF [a, b, s, m] = some b := by kernel_rfl
theorem lk3 {a b s m : D} : lookF "signs" hF [a, b, s, m] = some s := by kernel_rfl
theorem lk4 {a b s m : D} : lookF "known" hF [a, b, s, m] = some m := by kernel_rfl
theorem mn1 : ("left_ones" : Str) ∉ hF := by decide
theorem mn2 : ("behind_answer" : Str) ∉ hF := by decide
theorem mn3 : ("begun" : Str) ∉ hF := by decide
theorem mn4 : ("is_enough" : Str) ∉ hF := by decide
theorem mn5 : ("is_right" : Str) ∉ hF := by decide
theorem mn6 : ("unparted" : Str) ∉ hF := by decide
theorem mn7 : ("fewest_from" : Str) ∉ hF := by decide
theorem fld_ev {C : Addr} {f : Str} {i : Nat} {ρ : Rho} {ns : List Str} {vs : List D} {d : D} (h : ρ[i]? = some (.sh (.ins C ns vs))) (l : lookF f ns vs = some d) : eFld C f (eVar i) ρ = .ret (.sh d, ρ) := by simp [h, l]
theorem meth_ev {C : Addr} {mn : Str} {f : FN} {o : EE} {a : EA} {ρ ρ1 : Rho} {ns : List Str} {vs ds : List D} {v : Vd} (ho : o ρ = .ret (.sh (.ins C ns vs), ρ)) (hm : mn ∉ ns) (ha : a ρ = .ret (ds, ρ1)) (hf : f (.ins C ns vs :: ds) = .ret v) : eMeth C mn f [] o a ρ = .ret (v, ρ1) := by
  simp [ho, hm, ha, hf]
theorem zip_ev {a b : EE} {ρ ρ1 ρ2 : Rho} {v w : Vd} {xs ys : List D} (ha : a ρ = .ret (v, ρ1)) (hb : b ρ1 = .ret (w, ρ2)) (hx : itemsOf v.d = some xs) (hy : itemsOf w.d = some ys) : iZip (aCons a (aCons b aNil)) ρ = .ret (zipD xs ys, ρ2) := by
  simp [ha, hb, hx, hy, -itemsOf]
theorem rng_ev {a : EE} {ρ ρ1 : Rho} {v : Vd} {n : Nat} (ha : a ρ = .ret (v, ρ1)) (hv : v.d = .int n) (hn : n ≤ 16777216) : iRng1 (aCons a aNil) ρ = .ret (rangeD 0 n, ρ1) := by
  have h2 : -(2 ^ 62 : Int) ≤ (n : Int) := by omega
  have h3 : (n : Int) ≤ 16777216 := by omega
  simp [ha, hv, sizeLine_eq, hn, h2, h3]
theorem def_ev {np nn : Nat} {b : ES} {ds : List D} {v : Vd} (hl : ds.length = np) (h : b (startF np nn ds) = .ret (.rt v)) : defF np nn b ds = .ret v := by
  unfold defF req
  rw [if_pos hl]
  unfold runS
  rw [h]
  rfl
theorem sq_rt {f g : ES} {ρ : Rho} {v : Vd} (h : f ρ = .ret (.rt v)) : eSeq f g ρ = .ret (.rt v) := by simp [h]
theorem ifQ {t : ET} {a b : ES} {ρ ρ1 : Rho} {q : Bool} {o : Out} (h : t ρ = .ret (q, ρ1)) (k : (if q = true then a ρ1 else b ρ1) = .ret o) : eIf t a b ρ = .ret o := by simp [h, k]
/-! ### data -/
abbrev iD (st : List Int) : List D := st.map D.int
abbrev zsD (st : List Int) : D := .tup (iD st)
abbrev memD (ns : List Str) (mo : Int) (ks : List (List Str)) : D := .tup [.int ns.length, .int mo, sgD ns ks]
abbrev hun (c : Str → Addr) (ns : List Str) (mo : Int) (ks : List (List Str)) : D := .ins (c "Hunt") hF [wD ns, .int mo, sgD ns ks, .mem (memD ns mo ks)]
def prD (p : Str × Int) : D := .tup [.str p.1, .int p.2]
theorem zip_prD : ∀ (ns : List Str) (st : List Int), zipD (wsD ns) (iD st) = (ns.zip st).map prD
  | [], _ => by simp [zipD, wsD]
  | _ :: _, [] => by simp [zipD, wsD, iD]
  | n :: ns, s :: st => by
    have ih := zip_prD ns st
    unfold zipD wsD iD at ih ⊢
    simp only [List.map_cons, List.zip_cons_cons, ih]
    rfl
def leftW (ns : List Str) (mo : Int) (st : List Int) : List Str := ((ns.zip st).filter fun p => decide (p.2 ≤ mo)).map (·.1)
theorem filt_left (mo : Int) : ∀ L : List (Str × Int), L.filterMap (fun p => if decide (p.2 ≤ mo) = true then some (D.str p.1) else none) = wsD ((L.filter fun p => decide (p.2 ≤ mo)).map (·.1))
  | [] => rfl
  | p :: L => by
    have ih := filt_left mo L
    rw [List.filterMap_cons, List.filter_cons]
    by_cases h : decide (p.2 ≤ mo) = true
    · rw [if_pos h, if_pos h, ih]; rfl
    · rw [if_neg h, if_neg h]; exact ih
abbrev leI : List D → Option Vd := fInt2 fun a b => .bl (decide (a ≤ b))
theorem left_ev {ns : List Str} {mo : Int} {ks : List (List Str)} {st : List Int} : f_Hunt_left_ones_e c [hun c ns mo ks, zsD st] = .ret (.nw (wD (leftW ns mo st))) := by
  refine def_ev rfl ?_
  show eRet (eComp (iZip (aCons (eFld (c "Hunt") "ones" (eVar 0)) (aCons (eVar 1) aNil))) (gT (gsC (gN 2) (gsC (gN 3) gsN))) (eTest (eOp2 leI (eVar 3) (eFld (c "Hunt") "most" (eVar 0)))) (eVar 2) [2, 3]) [.sh (hun c ns mo ks), .sh (zsD st), .no, .no] = _
  generalize hH : hun c ns mo ks = h
  have it : iZip (aCons (eFld (c "Hunt") "ones" (eVar 0)) (aCons (eVar 1) aNil)) [.sh h, .sh (zsD st), .no, .no] = .ret (zipD (wsD ns) (iD st), [.sh h, .sh (zsD st), .no, .no]) := by
    refine zip_ev (v := .sh (wD ns)) (w := .sh (zsD st)) ?_ (var_sh (i := 1) rfl) rfl rfl
    rw [← hH]
    exact fld_ev rfl lk1
  refine R1 (ρ1 := [.sh h, .sh (zsD st), .no, .no]) ?_
  unfold eComp
  rw [it, zip_prD]
  show eCompGo _ _ _ _ _ _ [.sh h, .sh (zsD st), .no, .no] = _
  rw [compS prD (fun p => if decide (p.2 ≤ mo) = true then some (D.str p.1) else none) (ns.zip st) [] fun p _ => ?_, List.nil_append, filt_left]
  · rfl
  · have b : eOp2 leI (eVar 3) (eFld (c "Hunt") "most" (eVar 0)) [.sh h, .sh (zsD st), .sh (.str p.1), .sh (.int p.2)] = .ret (.sh (.bl (decide (p.2 ≤ mo))), [.sh h, .sh (zsD st), .sh (.str p.1), .sh (.int p.2)]) := by
      refine B2 (F := leI) (x := .sh (.int p.2)) (y := .sh (.int mo)) (var_sh (i := 3) rfl) ?_ rfl
      rw [← hH]
      exact fld_ev rfl lk2
    exact turn_if (ρ1 := [.sh h, .sh (zsD st), .sh (.str p.1), .sh (.int p.2)]) rfl (testQ b) (var_sh (i := 2) (d := .str p.1) rfl) rfl
theorem mleft_ev {ns : List Str} {mo : Int} {st : List Int} : f_l_m_left [wD ns, zsD st, .int mo] = .ret (.nw (wD (leftW ns mo st))) := by
  refine def_ev rfl ?_
  show eRet (eComp (iZip (aCons (eVar 0) (aCons (eVar 1) aNil))) (gT (gsC (gN 3) (gsC (gN 4) gsN))) (eTest (eOp2 leI (eVar 4) (eVar 2))) (eVar 3) [3, 4]) [.sh (wD ns), .sh (zsD st), .sh (.int mo), .no, .no] = _
  have it : iZip (aCons (eVar 0) (aCons (eVar 1) aNil)) [.sh (wD ns), .sh (zsD st), .sh (.int mo), .no, .no] = .ret (zipD (wsD ns) (iD st), [.sh (wD ns), .sh (zsD st), .sh (.int mo), .no, .no]) :=
    zip_ev (v := .sh (wD ns)) (w := .sh (zsD st)) (var_sh (i := 0) rfl) (var_sh (i := 1) rfl) rfl rfl
  refine R1 (ρ1 := [.sh (wD ns), .sh (zsD st), .sh (.int mo), .no, .no]) ?_
  unfold eComp
  rw [it, zip_prD]
  show eCompGo _ _ _ _ _ _ [.sh (wD ns), .sh (zsD st), .sh (.int mo), .no, .no] = _
  rw [compS prD (fun p => if decide (p.2 ≤ mo) = true then some (D.str p.1) else none) (ns.zip st) [] fun p _ => ?_, List.nil_append, filt_left]
  · rfl
  · have b : eOp2 leI (eVar 4) (eVar 2) [.sh (wD ns), .sh (zsD st), .sh (.int mo), .sh (.str p.1), .sh (.int p.2)] = .ret (.sh (.bl (decide (p.2 ≤ mo))), [.sh (wD ns), .sh (zsD st), .sh (.int mo), .sh (.str p.1), .sh (.int p.2)]) :=
      B2 (F := leI) (x := .sh (.int p.2)) (y := .sh (.int mo)) (var_sh (i := 4) rfl) (var_sh (i := 2) rfl) rfl
    exact turn_if (ρ1 := [.sh (wD ns), .sh (zsD st), .sh (.int mo), .sh (.str p.1), .sh (.int p.2)]) rfl (testQ b) (var_sh (i := 3) (d := .str p.1) rfl) rfl
/-! ### behind an answer -/
abbrev zRow (ns : List Str) (k : List Str) : List Bool := ns.map fun n => decide (n ∈ k)
abbrev rowsB (ns : List Str) (ks : List (List Str)) : List (List Bool) := ks.map (zRow ns)
abbrev rwB (ns : List Str) (k : List Str) : D := .lst (ns.map fun n => .bl (decide (n ∈ k)))
def pbD (p : Int × Bool) : D := .tup [.int p.1, .bl p.2]
theorem zip_pbD : ∀ (st : List Int) (ns : List Str) (k : List Str), zipD (iD st) (ns.map fun n => .bl (decide (n ∈ k))) = (st.zip (zRow ns k)).map pbD
  | [], _, _ => by simp [zipD, iD]
  | _ :: _, [], _ => by simp [zipD, iD]
  | s :: st, n :: ns, k => by
    have ih := zip_pbD st ns k
    unfold zipD iD zRow at ih ⊢
    simp only [List.map_cons, List.zip_cons_cons, ih]
    rfl
theorem ne_bl (a b : Bool) : fNe [.bl a, .bl b] = some (.sh (.bl (a != b))) := by cases a <;> cases b <;> rfl
abbrev baE (c : Str → Addr) : EE := eOpN (fInt2 fun a b => .int (min a b)) (aCons (eOp2 fAdd (eVar 5) (eOpN fInt (aCons (eOp2 fNe (eVar 6) (eVar 3)) aNil))) (aCons (eOp2 fAdd (eFld (c "Hunt") "most" (eVar 0)) (eC (.int 1))) aNil))
theorem fmapSome {α : Type} (f : α → D) : ∀ L : List α, L.filterMap (fun x => some (f x)) = L.map f
  | [] => rfl
  | x :: L => by rw [List.filterMap_cons]; simp [fmapSome f L]
theorem zipT_ev {i : Nat} {as : EA} {g : EG} {te : EE} {vs : List Nat} {ρ ρ1 ρ2 : Rho} {l ds : List D} {q r : Vd} (ha : as ρ = .ret (l, ρ1)) (hz : zip2 l = some ds) (hl : i < ρ1.length) (hc : eCompGo g eYes te vs ds [] (wipeR (ρ1.set i .no) vs) = .ret (q, ρ2)) (hr : fTuple [q.d] = some r) : eZipT i as g te vs ρ = .ret (.rt r) := by
  unfold eZipT
  rw [ha]
  show (opt (zip2 l) fun ds => req (i < ρ1.length) ((eCompGo g eYes te vs ds [] (wipeR (ρ1.set i .no) vs)).bind fun q => opt (fTuple [q.1.d]) fun r => .ret (Out.rt r))) = _
  rw [hz]
  show (if i < ρ1.length then _ else _) = _
  rw [if_pos hl, hc]
  show (opt (fTuple [q.d]) fun r => .ret (Out.rt r)) = _
  rw [hr]
  rfl
theorem behind_ev {ns : List Str} {mo : Int} {ks : List (List Str)} {st : List Int} {i : Nat} {a : Bool} {k : List Str} (hi : ks[i]? = some k) : f_Hunt_behind_answer_e c [hun c ns mo ks, zsD st, .int i, .bl a] = .ret (.sh (zsD (bhd mo st (zRow ns k) a))) := by
  refine def_ev rfl ?_
  show eZipT 4 (aCons (eVar 1) (aCons (eOp2 fIx (eFld (c "Hunt") "signs" (eVar 0)) (eVar 2)) aNil)) (gT (gsC (gN 5) (gsC (gN 6) gsN))) (baE c) [5, 6] [.sh (hun c ns mo ks), .sh (zsD st), .sh (.int i), .sh (.bl a), .no, .no, .no] = _
  generalize hH : hun c ns mo ks = h
  have f1 : eFld (c "Hunt") "signs" (eVar 0) [.sh h, .sh (zsD st), .sh (.int i), .sh (.bl a), .no, .no, .no] = .ret (.sh (sgD ns ks), [.sh h, .sh (zsD st), .sh (.int i), .sh (.bl a), .no, .no, .no]) := by
    rw [← hH]; exact fld_ev rfl lk3
  have ix : fIx [sgD ns ks, .int i] = some (.sh (rwB ns k)) := by
    have : (ks.map fun k => rwB ns k)[i]? = some (rwB ns k) := by rw [List.getElem?_map, hi]; rfl
    show (atI (ks.map fun k => rwB ns k) (i : Int)).map Vd.sh = _
    rw [atI_nat, this]
    rfl
  have as : aCons (eVar 1) (aCons (eOp2 fIx (eFld (c "Hunt") "signs" (eVar 0)) (eVar 2)) aNil) [.sh h, .sh (zsD st), .sh (.int i), .sh (.bl a), .no, .no, .no] = .ret ([zsD st, rwB ns k], [.sh h, .sh (zsD st), .sh (.int i), .sh (.bl a), .no, .no, .no]) :=
    A2 (var_sh (i := 1) (d := zsD st) rfl) (B2 (F := fIx) f1 (var_sh (i := 2) rfl) ix)
  have z : zip2 [zsD st, rwB ns k] = some ((st.zip (zRow ns k)).map pbD) := by
    rw [← zip_pbD]
    rfl
  have cg := compS (g := (gT (gsC (gN 5) (gsC (gN 6) gsN)))) (tt := eYes) (te := baE c) (vs := [5, 6]) (ρ := [.sh h, .sh (zsD st), .sh (.int i), .sh (.bl a), .no, .no, .no]) pbD (fun p => some (D.int (min (p.1 + (if (p.2 != a) = true then 1 else 0)) (mo + 1)))) (st.zip (zRow ns k)) [] fun p _ => ?_
  · rw [List.nil_append, fmapSome] at cg
    refine zipT_ev as z (by simp) cg ?_
    unfold bhd
    show some (Vd.sh (.tup _)) = some (Vd.sh (.tup (List.map D.int (List.map _ _))))
    rw [List.map_map]
    rfl
  · have m : eFld (c "Hunt") "most" (eVar 0) [.sh h, .sh (zsD st), .sh (.int i), .sh (.bl a), .no, .sh (.int p.1), .sh (.bl p.2)] = .ret (.sh (.int mo), [.sh h, .sh (zsD st), .sh (.int i), .sh (.bl a), .no, .sh (.int p.1), .sh (.bl p.2)]) := by
      rw [← hH]; exact fld_ev rfl lk2
    refine turn_yes (v := .sh (.int (min (p.1 + (if (p.2 != a) = true then 1 else 0)) (mo + 1)))) (ρ1 := [.sh h, .sh (zsD st), .sh (.int i), .sh (.bl a), .no, .sh (.int p.1), .sh (.bl p.2)]) (ρ2 := [.sh h, .sh (zsD st), .sh (.int i), .sh (.bl a), .no, .sh (.int p.1), .sh (.bl p.2)]) rfl ?_ rfl
    exact O1 (A2 (B2 (F := fAdd) (z := .sh (.int (p.1 + (if (p.2 != a) = true then 1 else 0)))) (var_sh (i := 5) (d := .int p.1) rfl) (O1 (A1 (B2 (F := fNe) (var_sh (i := 6) (d := .bl p.2) rfl) (var_sh (i := 3) (d := .bl a) rfl) (ne_bl p.2 a))) (show fInt [.bl (p.2 != a)] = some (.sh (.int (if (p.2 != a) = true then 1 else 0))) from rfl)) rfl) (B2 (F := fAdd) (z := .sh (.int (mo + 1))) m (rfl : eC (.int 1) _ = .ret (.sh (.int 1), _)) rfl)) rfl
end
end DL
set_option Elab.async false
set_option linter.all false
set_option maxRecDepth 100000
set_option maxHeartbeats 1000000
namespace DL
open PySem L2 PyProof.Rows
section
variable {c : Str → Addr}
/-! ### the memo's data -/
theorem kiDs_i : ∀ st : List Int, kiDs (iD st) = some (st.map NestedKey.num)
  | [] => rfl
  | i :: st => by
    show kiDs (.int i :: iD st) = _
    rw [kiDs, kiD, kiDs_i st]
    rfl
theorem nums_i : ∀ st : List Int, numsK (st.map NestedKey.num) = some st
  | [] => rfl
  | i :: st => by
    rw [List.map_cons, numsK, nums_i st]
    rfl
theorem bits_i : ∀ (ns : List Str) (k : List Str), bitsD (ns.map fun n => D.bl (decide (n ∈ k))) = some (zRow ns k)
  | [], _ => rfl
  | n :: ns, k => by
    show bitsD (.bl _ :: ns.map fun n => D.bl (decide (n ∈ k))) = _
    rw [bitsD, bits_i ns k]
    rfl
theorem rows_i (ns : List Str) : ∀ ks : List (List Str), rowsD (ks.map fun k => rwB ns k) = some (rowsB ns ks)
  | [] => rfl
  | k :: ks => by
    show rowsD (.lst (ns.map fun n => D.bl (decide (n ∈ k))) :: ks.map fun k => rwB ns k) = _
    rw [rowsD, bits_i, rows_i ns ks]
    rfl
theorem dep_nums : ∀ st : List Int, NestedKey.depthAll (st.map NestedKey.num) = 0
  | [] => rfl
  | i :: st => by
    rw [List.map_cons, NestedKey.depthAll, dep_nums st]
    rfl
/-- a state of a hunt -/
structure Gst (n : Nat) (mo : Int) (st : List Int) : Prop where
  len : st.length = n
  mem : ∀ i ∈ st, 0 ≤ i ∧ i ≤ mo + 1
theorem gst_small {n : Nat} {mo : Int} {st : List Int} (g : Gst n mo st) (hn : n ≤ 5) (hm : mo = 0 ∨ mo = 1) : smallS st = true := by
  unfold smallS
  rw [Bool.and_eq_true, decide_eq_true_eq, List.all_eq_true]
  refine ⟨by rw [g.len]; omega, fun i hi => ?_⟩
  have := g.mem i hi
  simp only [Bool.and_eq_true, decide_eq_true_eq]
  omega
theorem gst_bhd {mo : Int} {st : List Int} {ns : List Str} {k : List Str} {a : Bool} (g : Gst ns.length mo st) (hm : mo = 0 ∨ mo = 1) : Gst ns.length mo (bhd mo st (zRow ns k) a) := by
  refine ⟨by simp [bhd, g.len], fun i hi => ?_⟩
  unfold bhd at hi
  obtain ⟨p, hp, rfl⟩ := List.mem_map.mp hi
  have := g.mem p.1 (List.of_mem_zip hp).1
  split <;> omega
theorem mem_ev {ns : List Str} {mo : Int} {ks : List (List Str)} {st : List Int} {m : Nat} (hs : smallS st = true) (hm : m < 64) : memE (memD ns mo ks) (.tup [.tup (st.map .num), .num m]) = some (enB ns.length mo (rowsB ns ks) m st) := by
  have r := rows_i ns ks
  show ((rowsD (ks.map fun k => rwB ns k)).bind fun rows => (numsK (st.map NestedKey.num)).bind fun st => if smallS st = true ∧ (0 : Int) ≤ (m : Int) ∧ (m : Int) < 64 then some (enB ((ns.length : Int)).toNat mo rows ((m : Int)).toNat st) else none) = _
  rw [r, nums_i]
  show (if smallS st = true ∧ (0 : Int) ≤ (m : Int) ∧ (m : Int) < 64 then _ else _) = _
  rw [if_pos ⟨hs, by omega, by omega⟩]
  rfl
theorem memo_gen {C : Addr} {f : Str} {i0 i j : Nat} {fe : EE} {ρ : Rho} {r : Addr × List Str × List D} {s m d : D} {k : NestedKey} {b : Bool} (e0 : insAt ρ i0 = some r) (e1 : shAt ρ i = some s) (e2 : shAt ρ j = some m) (e3 : (lookF f r.2.1 r.2.2).bind asMem = some d) (e4 : kiD (.tup [s, m]) = some k) (e5 : memE d k = some b)
    (hC : r.1 = C) (hd : k.depth ≤ 8) (hf : fe ρ = .ret (.sh (.bl b), ρ)) : eMemo C f i0 i j fe ρ = .ret (.rt (.sh (.bl b))) := by
  have o : ∀ {α β : Type} (a : α) (k : α → Cm β), opt (some a) k = k a := fun _ _ => rfl
  have ar : asRet (fe ρ) = some (.sh (.bl b), ρ) := by rw [hf]; rfl
  unfold eMemo
  simp only [e0, e1, e2, e3, e4, e5, ar, o, req]
  rw [if_pos ⟨hC, hd⟩, if_pos (by simp)]
theorem memo_ev {ns : List Str} {mo : Int} {ks : List (List Str)} {st : List Int} {m : Nat} {fe : EE} {b : Bool} {s : Slot} (hs : smallS st = true) (hm : m < 64) (hb : enB ns.length mo (rowsB ns ks) m st = b)
    (hf : fe [.sh (hun c ns mo ks), .sh (zsD st), .sh (.int m), s] = .ret (.sh (.bl b), [.sh (hun c ns mo ks), .sh (zsD st), .sh (.int m), s])) :
    eMemo (c "Hunt") "known" 0 1 2 fe [.sh (hun c ns mo ks), .sh (zsD st), .sh (.int m), s] = .ret (.rt (.sh (.bl b))) := by
  have k : kiD (.tup [zsD st, .int m]) = some (.tup [.tup (st.map .num), .num m]) := by
    show ((kiDs [.tup (iD st), .int m]).map NestedKey.tup) = _
    rw [kiDs, kiD, kiDs_i]
    rfl
  have e := mem_ev (ns := ns) (mo := mo) (ks := ks) hs hm
  rw [hb] at e
  have dp : (NestedKey.tup [.tup (st.map .num), .num (m : Int)]).depth ≤ 8 := by
    rw [NestedKey.depth, NestedKey.depthAll, NestedKey.depth, dep_nums]
    show max (0 + 1) (NestedKey.depthAll [NestedKey.num (m : Int)]) + 1 ≤ 8
    rw [NestedKey.depthAll, NestedKey.depth, NestedKey.depthAll]
    decide
  exact memo_gen (r := (c "Hunt", hF, [wD ns, .int mo, sgD ns ks, .mem (memD ns mo ks)])) rfl rfl rfl (by rw [lk4]; rfl) k e rfl dp hf
/-! ### is_enough, is_right -/
theorem filt_zip (mo : Int) : ∀ (ns : List Str) (st : List Int), st.length = ns.length → ((ns.zip st).filter fun p => decide (p.2 ≤ mo)).length = (st.filter fun w => decide (w ≤ mo)).length
  | [], [], _ => rfl
  | [], _ :: _, h => by simp at h
  | _ :: _, [], h => by simp at h
  | n :: ns, s :: st, h => by
    have ih := filt_zip mo ns st (by simpa using h)
    rw [List.zip_cons_cons, List.filter_cons, List.filter_cons]
    by_cases q : s ≤ mo
    · simp [q, ih]
    · simp [q, ih]
theorem leftW_len {ns : List Str} {mo : Int} {st : List Int} (h : st.length = ns.length) : (leftW ns mo st).length = leftN ns.length mo st := by
  unfold leftW leftN
  rw [List.length_map, filt_zip mo ns st h, ← h, List.take_length]
theorem leN_ev {ns : List Str} {mo : Int} {ks : List (List Str)} {st : List Int} {r : Rho} (h : st.length = ns.length) : eTest (eOp2 (fInt2 fun a b => .bl (decide (a < b))) (eOpN fLenS (aCons (eMeth (c "Hunt") "left_ones" (f_Hunt_left_ones_e c) [] (eVar 0) (aCons (eVar 1) aNil)) aNil)) (eC (.int 2))) (.sh (hun c ns mo ks) :: .sh (zsD st) :: r) = .ret (decide (leftN ns.length mo st < 2), .sh (hun c ns mo ks) :: .sh (zsD st) :: r) := by
  have m := meth_ev (mn := "left_ones") (ρ := .sh (hun c ns mo ks) :: .sh (zsD st) :: r) (var_sh (i := 0) rfl) mn1 (A1 (var_sh (i := 1) (d := zsD st) rfl)) (left_ev (c := c) (ns := ns) (mo := mo) (ks := ks) (st := st))
  refine testQ (B2 (F := fInt2 fun a b => .bl (decide (a < b))) (O1 (A1 m) (len_ws _)) (rfl : eC (.int 2) _ = .ret (.sh (.int 2), _)) ?_)
  show some (Vd.sh (.bl (decide (((leftW ns mo st).length : Int) < 2)))) = _
  rw [leftW_len h]
  congr 3
  exact decide_eq_decide.mpr (by omega)
end
end DL
set_option Elab.async false
set_option linter.all false
set_option maxRecDepth 100000
set_option maxHeartbeats 1000000
namespace DL
open PySem L2 PyProof.Rows
section
variable {c : Str → Addr}
theorem rangeD_nat (n : Nat) : rangeD 0 n = (List.range n).map fun i : Nat => D.int (i : Int) := by
  unfold rangeD
  exact List.map_congr_left fun i _ => by rw [Int.zero_add]
theorem rng_map {α β : Type} (f : α → β) (d : α) (l : List α) : (List.range l.length).map (fun i => f ((l[i]?).getD d)) = l.map f := by
  refine List.ext_getElem (by simp) fun i h1 h2 => ?_
  have h3 : i < l.length := by simpa using h2
  simp [h3]
abbrev kk (ks : List (List Str)) (i : Nat) : List Str := (ks[i]?).getD []
theorem kk_some {ks : List (List Str)} {i : Nat} (h : i < ks.length) : ks[i]? = some (kk ks i) := by
  unfold kk
  rw [List.getElem?_eq_getElem h]
  rfl
abbrev rB (ns : List Str) (mo : Int) (ks : List (List Str)) (m : Nat) (st : List Int) (row : List Bool) : Bool := enB ns.length mo (rowsB ns ks) m (bhd mo st row true) && enB ns.length mo (rowsB ns ks) m (bhd mo st row false)
abbrev baX1 (c : Str → Addr) (a : Bool) : EE := eMeth (c "Hunt") "behind_answer" (f_Hunt_behind_answer_e c) [] (eVar 0) (aCons (eVar 1) (aCons (eVar 2) (aCons (eC (.bl a)) aNil)))
abbrev subI : List D → Option Vd := fInt2 fun a b => .int (a - b)
abbrev enX (c : Str → Addr) (fe : FN) (a : Bool) : EE := eMeth (c "Hunt") "is_enough" fe [] (eVar 0) (aCons (baX1 c a) (aCons (eOp2 subI (eVar 3) (eC (.int 1))) aNil))
theorem sub_nat (m : Nat) : subI [.int ((m + 1 : Nat) : Int), .int 1] = some (.sh (.int (m : Int))) := by
  show some (Vd.sh (.int (((m + 1 : Nat) : Int) - 1))) = _
  rw [show (((m + 1 : Nat) : Int) - 1) = (m : Int) by omega]
theorem right_ev {fe : FN} {ns : List Str} {mo : Int} {ks : List (List Str)} {m : Nat} (hm : mo = 0 ∨ mo = 1) (ih : ∀ st, Gst ns.length mo st → fe [hun c ns mo ks, zsD st, .int m] = .ret (.sh (.bl (enB ns.length mo (rowsB ns ks) m st)))) {st : List Int} (g : Gst ns.length mo st) {i : Nat} (hi : i < ks.length) :
    f_Hunt_is_right_e c fe [hun c ns mo ks, zsD st, .int i, .int ((m + 1 : Nat) : Int)] = .ret (.sh (.bl (rB ns mo ks m st (zRow ns (kk ks i))))) := by
  refine def_ev rfl ?_
  show eSeq (eIf (eNot (eTest (enX c fe true))) (eRet (eC (.bl false))) eSkip) (eRet (enX c fe false)) [.sh (hun c ns mo ks), .sh (zsD st), .sh (.int i), .sh (.int ((m + 1 : Nat) : Int))] = _
  have sn := sub_nat m
  have call : ∀ a, enX c fe a [.sh (hun c ns mo ks), .sh (zsD st), .sh (.int i), .sh (.int ((m + 1 : Nat) : Int))] = .ret (.sh (.bl (enB ns.length mo (rowsB ns ks) m (bhd mo st (zRow ns (kk ks i)) a))), [.sh (hun c ns mo ks), .sh (zsD st), .sh (.int i), .sh (.int ((m + 1 : Nat) : Int))]) := fun a => by
    have b := behind_ev (c := c) (ns := ns) (mo := mo) (ks := ks) (st := st) (a := a) (kk_some hi)
    have e := ih _ (gst_bhd (k := kk ks i) (a := a) g hm)
    generalize ((m + 1 : Nat) : Int) = M at *
    exact meth_ev (var_sh (i := 0) rfl) mn4 (A2 (meth_ev (var_sh (i := 0) rfl) mn2 (A3 (var_sh (i := 1) (d := zsD st) rfl) (var_sh (i := 2) (d := .int i) rfl) (rfl : eC (.bl a) _ = .ret (.sh (.bl a), _))) b) (B2 (F := subI) (var_sh (i := 3) (d := .int M) rfl) (rfl : eC (.int 1) _ = .ret (.sh (.int 1), _)) sn)) e
  have c1 := call true
  have c2 := call false
  generalize enX c fe true = X1 at *
  generalize enX c fe false = X2 at *
  generalize [Slot.sh (hun c ns mo ks), .sh (zsD st), .sh (.int i), .sh (.int ((m + 1 : Nat) : Int))] = ρ at *
  unfold rB
  cases h : enB ns.length mo (rowsB ns ks) m (bhd mo st (zRow ns (kk ks i)) true) with
  | true =>
    rw [h] at c1
    rw [seq_nx (If0 (N1 (T1 c1)) rfl), Bool.true_and]
    exact R1 c2
  | false =>
    rw [h] at c1
    rw [Bool.false_and]
    exact sq_rt (ifQ (N0 (T0 c1)) rfl)
abbrev ltI : List D → Option Vd := fInt2 fun a b => .bl (decide (a < b))
abbrev riX (c : Str → Addr) (fe : FN) : EE := eMeth (c "Hunt") "is_right" (f_Hunt_is_right_e c fe) [] (eVar 0) (aCons (eVar 1) (aCons (eVar 3) (aCons (eVar 2) aNil)))
theorem zEq_int (i j : Int) : fEq [.int i, .int j] = some (.sh (.bl (decide (i = j)))) := by
  have e : D.eqv (.int i) (.int j) = decide (i = j) := by rw [Bool.eq_iff_iff]; simp [D.eqv]
  simp [D.dep, e]
theorem eq_int0 (m : Nat) : fEq [.int (m : Int), .int 0] = some (.sh (.bl (decide (m = 0)))) := by
  rw [zEq_int]
  congr 3
  exact decide_eq_decide.mpr (by omega)
theorem it_signs {ns : List Str} {mo : Int} {ks : List (List Str)} {r : Rho} (hk : ks.length ≤ 5) : iRng1 (aCons (eOpN fLenS (aCons (eFld (c "Hunt") "signs" (eVar 0)) aNil)) aNil) (.sh (hun c ns mo ks) :: r) = .ret ((List.range ks.length).map (fun i : Nat => D.int (i : Int)), .sh (hun c ns mo ks) :: r) := by
  have l : fLenS [sgD ns ks] = some (.sh (.int (ks.length : Nat))) := by
    show some (Vd.sh (.int ((ks.map _).length : Nat))) = _
    rw [List.length_map]
  have := rng_ev (n := ks.length) (O1 (A1 (fld_ev (f := "signs") (i := 0) (ρ := .sh (hun c ns mo ks) :: r) rfl lk3)) l) rfl (by omega)
  rw [rangeD_nat] at this
  exact this
theorem enough_ev {ns : List Str} {mo : Int} {ks : List (List Str)} (hn : ns.length ≤ 5) (hk : ks.length ≤ 5) (hm : mo = 0 ∨ mo = 1) : ∀ (f m : Nat) (st : List Int), m ≤ f → m < 64 → Gst ns.length mo st →
    f_Hunt_is_enough_e c (f + 1) [hun c ns mo ks, zsD st, .int m] = .ret (.sh (.bl (enB ns.length mo (rowsB ns ks) m st)))
  | f, m, st, hf, h64, g => by
    refine def_ev rfl ?_
    show eSeq (eIf (eTest (eOp2 ltI (eOpN fLenS (aCons (eMeth (c "Hunt") "left_ones" (f_Hunt_left_ones_e c) [] (eVar 0) (aCons (eVar 1) aNil)) aNil)) (eC (.int 2)))) (eRet (eC (.bl true))) eSkip)
      (eSeq (eIf (eTest (eOp2 fEq (eVar 2) (eC (.int 0)))) (eRet (eC (.bl false))) eSkip)
      (eMemo (c "Hunt") "known" 0 1 2 (eOpN fAny (aCons (eComp (iRng1 (aCons (eOpN fLenS (aCons (eFld (c "Hunt") "signs" (eVar 0)) aNil)) aNil)) (gN 3) eYes (riX c (f_Hunt_is_enough_e c f)) [3]) aNil)))) [.sh (hun c ns mo ks), .sh (zsD st), .sh (.int m), .no] = _
    have t1 := leN_ev (c := c) (ns := ns) (mo := mo) (ks := ks) (st := st) (r := [.sh (.int m), .no]) g.len
    have t2 : eTest (eOp2 fEq (eVar 2) (eC (.int 0))) [.sh (hun c ns mo ks), .sh (zsD st), .sh (.int m), .no] = .ret (decide (m = 0), [.sh (hun c ns mo ks), .sh (zsD st), .sh (.int m), .no]) :=
      testQ (B2 (F := fEq) (var_sh (i := 2) (d := .int m) rfl) (rfl : eC (.int 0) _ = .ret (.sh (.int 0), _)) (eq_int0 m))
    by_cases h2 : leftN ns.length mo st < 2
    · have e : enB ns.length mo (rowsB ns ks) m st = true := by cases m <;> simp [enB, h2]
      rw [e]
      rw [decide_eq_true h2] at t1
      exact sq_rt (ifQ t1 rfl)
    · rw [decide_eq_false h2] at t1
      rw [seq_nx (If0 t1 rfl)]
      cases m with
      | zero =>
        have e : enB ns.length mo (rowsB ns ks) 0 st = false := by simp [enB, h2]
        rw [e]
        exact sq_rt (ifQ t2 rfl)
      | succ m =>
        rw [decide_eq_false (Nat.succ_ne_zero m)] at t2
        rw [seq_nx (If0 t2 rfl)]
        refine memo_ev (gst_small g hn hm) h64 rfl ?_
        cases f with
        | zero => omega
        | succ f =>
          have ih : ∀ st, Gst ns.length mo st → f_Hunt_is_enough_e c (f + 1) [hun c ns mo ks, zsD st, .int m] = .ret (.sh (.bl (enB ns.length mo (rowsB ns ks) m st))) := fun st g => enough_ev hn hk hm f m st (by omega) (by omega) g
          have it := it_signs (c := c) (ns := ns) (mo := mo) (ks := ks) (r := [.sh (zsD st), .sh (.int ((m + 1 : Nat) : Int)), .no]) hk
          have cm := comp_of (f := fun i : Nat => D.int (i : Int)) (L := List.range ks.length) (h := fun i => some (.bl (rB ns mo ks m st (zRow ns (kk ks i))))) (k := 3) (tt := eYes) (te := riX c (f_Hunt_is_enough_e c (f + 1))) it rfl fun i hi => by
            have r := right_ev (c := c) hm ih g (List.mem_range.mp hi)
            generalize ((m + 1 : Nat) : Int) = M at *
            exact turn_yes (ρ1 := [.sh (hun c ns mo ks), .sh (zsD st), .sh (.int M), .sh (.int i)]) (v := .sh (.bl (rB ns mo ks m st (zRow ns (kk ks i))))) rfl (meth_ev (var_sh (i := 0) rfl) mn5 (A3 (var_sh (i := 1) (d := zsD st) rfl) (var_sh (i := 3) (d := .int i) rfl) (var_sh (i := 2) (d := .int M) rfl)) r) rfl
          rw [fmapSome] at cm
          have an := any_boolsL ((List.range ks.length).map fun i => rB ns mo ks m st (zRow ns (kk ks i)))
          rw [List.map_map] at an
          refine (O1 (A1 cm) an).trans ?_
          have rm := rng_map (fun k => rB ns mo ks m st (zRow ns k)) [] ks
          have e : enB ns.length mo (rowsB ns ks) (m + 1) st = ((List.range ks.length).map fun i => rB ns mo ks m st (zRow ns (kk ks i))).any id := by
            rw [rm, enB, decide_eq_false h2, Bool.false_or, List.any_map, List.any_map]
            rfl
          rw [e]
end
end DL
set_option Elab.async false
set_option linter.all false
set_option maxRecDepth 100000
set_option maxHeartbeats 1000000
namespace DL
open PySem L2 PyProof.Rows
/-! ### numbers of wrong answers, cut off or not -/
def aft (ns k : List Str) (st : List Int) (a : Bool) : List Int := (ns.zip st).map fun p => p.2 + (if (decide (p.1 ∈ k) != a) = true then 1 else 0)
def clamp (mo : Int) (st : List Int) : List Int := st.map fun w => min w (mo + 1)
theorem clamp_aft {mo : Int} {k : List Str} {a : Bool} : ∀ (ns : List Str) (st : List Int), clamp mo (aft ns k st a) = bhd mo (clamp mo st) (zRow ns k) a
  | [], st => by simp [clamp, aft, bhd]
  | _ :: _, [] => by simp [clamp, aft, bhd]
  | n :: ns, w :: st => by
    have ih := clamp_aft (mo := mo) (k := k) (a := a) ns st
    unfold clamp aft bhd zRow at ih ⊢
    simp only [List.zip_cons_cons, List.map_cons, ih]
    congr 1
    split <;> omega
theorem left_clamp {mo : Int} : ∀ (ns : List Str) (st : List Int), leftW ns mo (clamp mo st) = leftW ns mo st
  | [], _ => by simp [leftW]
  | _ :: _, [] => by simp [leftW, clamp]
  | n :: ns, w :: st => by
    have ih := left_clamp (mo := mo) ns st
    unfold leftW clamp at ih ⊢
    simp only [List.map_cons, List.zip_cons_cons, List.filter_cons]
    by_cases q : w ≤ mo
    · have q2 : min w (mo + 1) ≤ mo := by omega
      simp only [decide_eq_true q, decide_eq_true q2, if_true, List.map_cons, ih]
    · have q2 : ¬ min w (mo + 1) ≤ mo := by omega
      simp only [decide_eq_false q, decide_eq_false q2, Bool.false_eq_true, if_false, ih]
theorem clamp_clamp {mo : Int} (st : List Int) : clamp mo (clamp mo st) = clamp mo st := by
  unfold clamp
  rw [List.map_map]
  exact List.map_congr_left fun w _ => by show min (min w (mo + 1)) (mo + 1) = _; omega
theorem clamp_gst {mo : Int} {n : Nat} (hm : mo = 0 ∨ mo = 1) {st : List Int} (h : st.length = n) (h0 : ∀ i ∈ st, 0 ≤ i) : Gst n mo (clamp mo st) := ⟨by simp [clamp, h], fun i hi => by
  unfold clamp at hi
  obtain ⟨w, hw, rfl⟩ := List.mem_map.mp hi
  have := h0 w hw
  omega⟩
theorem clamp_of {mo : Int} {n : Nat} {st : List Int} (g : Gst n mo st) : clamp mo st = st := by
  unfold clamp
  refine (List.map_congr_left (g := id) fun w hw => ?_).trans (List.map_id _)
  have := (g.mem w hw).2
  show min w (mo + 1) = w
  omega
theorem aft_len {ns k : List Str} {st : List Int} {a : Bool} (h : st.length = ns.length) : (aft ns k st a).length = ns.length := by simp [aft, h]
theorem aft_pos {ns k : List Str} {st : List Int} {a : Bool} (h : ∀ i ∈ st, 0 ≤ i) : ∀ i ∈ aft ns k st a, 0 ≤ i := fun i hi => by
  unfold aft at hi
  obtain ⟨p, hp, rfl⟩ := List.mem_map.mp hi
  have := h p.2 (List.of_mem_zip hp).2
  split <;> omega
abbrev aftE : EE := eOp2 fAdd (eVar 6) (eOpN fInt (aCons (eOp2 fNe (eOp2 (fInB false) (eVar 5) (eOp2 fIx (eVar 1) (eVar 3))) (eVar 4)) aNil))
abbrev kD9 (ks : List (List Str)) : D := .lst (ks.map wD)
theorem ix_ks {ks : List (List Str)} {i : Nat} (h : i < ks.length) : fIx [kD9 ks, .int i] = some (.sh (wD (kk ks i))) := by
  have : (ks.map wD)[i]? = some (wD (kk ks i)) := by rw [List.getElem?_map, kk_some h]; rfl
  show (atI (ks.map wD) (i : Int)).map Vd.sh = _
  rw [atI_nat, this]
  rfl
theorem after_ev {ns : List Str} {ks : List (List Str)} {st : List Int} {i : Nat} {a : Bool} (hi : i < ks.length) : f_l_m_after [wD ns, kD9 ks, zsD st, .int i, .bl a] = .ret (.sh (zsD (aft ns (kk ks i) st a))) := by
  refine def_ev rfl ?_
  have ix := ix_ks hi
  generalize hK : kD9 ks = K at *
  show eRet (eOpN fTuple (aCons (eComp (iZip (aCons (eVar 0) (aCons (eVar 2) aNil))) (gT (gsC (gN 5) (gsC (gN 6) gsN))) eYes aftE [5, 6]) aNil)) [.sh (wD ns), .sh K, .sh (zsD st), .sh (.int i), .sh (.bl a), .no, .no] = _
  have it : iZip (aCons (eVar 0) (aCons (eVar 2) aNil)) [.sh (wD ns), .sh K, .sh (zsD st), .sh (.int i), .sh (.bl a), .no, .no] = .ret (zipD (wsD ns) (iD st), [.sh (wD ns), .sh K, .sh (zsD st), .sh (.int i), .sh (.bl a), .no, .no]) :=
    zip_ev (v := .sh (wD ns)) (w := .sh (zsD st)) (var_sh (i := 0) rfl) (var_sh (i := 2) rfl) rfl rfl
  have cm : eComp (iZip (aCons (eVar 0) (aCons (eVar 2) aNil))) (gT (gsC (gN 5) (gsC (gN 6) gsN))) eYes aftE [5, 6] [.sh (wD ns), .sh K, .sh (zsD st), .sh (.int i), .sh (.bl a), .no, .no] = .ret (.nw (.lst ((ns.zip st).map fun p => D.int (p.2 + (if (decide (p.1 ∈ kk ks i) != a) = true then 1 else 0)))), [.sh (wD ns), .sh K, .sh (zsD st), .sh (.int i), .sh (.bl a), .no, .no]) := by
    unfold eComp
    rw [it, zip_prD]
    show eCompGo _ _ _ _ _ _ [.sh (wD ns), .sh K, .sh (zsD st), .sh (.int i), .sh (.bl a), .no, .no] = _
    rw [compS prD (fun p => some (D.int (p.2 + (if (decide (p.1 ∈ kk ks i) != a) = true then 1 else 0)))) (ns.zip st) [] fun p _ => ?_, List.nil_append, fmapSome]
    have w := in_ws p.1 (kk ks i) false
    rw [Bool.false_xor] at w
    refine turn_yes (v := .sh (.int (p.2 + (if (decide (p.1 ∈ kk ks i) != a) = true then 1 else 0)))) (ρ1 := [.sh (wD ns), .sh K, .sh (zsD st), .sh (.int i), .sh (.bl a), .sh (.str p.1), .sh (.int p.2)]) (ρ2 := [.sh (wD ns), .sh K, .sh (zsD st), .sh (.int i), .sh (.bl a), .sh (.str p.1), .sh (.int p.2)]) rfl ?_ rfl
    exact B2 (F := fAdd) (var_sh (i := 6) (d := .int p.2) rfl) (O1 (A1 (B2 (F := fNe) (B2 (F := fInB false) (var_sh (i := 5) (d := .str p.1) rfl) (B2 (F := fIx) (var_sh (i := 1) (d := K) rfl) (var_sh (i := 3) (d := .int i) rfl) ix) w) (var_sh (i := 4) (d := .bl a) rfl) (ne_bl _ a))) (show fInt [.bl (decide (p.1 ∈ kk ks i) != a)] = some (.sh (.int (if (decide (p.1 ∈ kk ks i) != a) = true then 1 else 0))) from rfl)) rfl
  refine R1 (O1 (A1 cm) ?_)
  unfold aft
  show some (Vd.sh (.tup _)) = some (Vd.sh (.tup (List.map D.int (List.map _ _))))
  rw [List.map_map]
  rfl
theorem A5 {e1 e2 e3 e4 e5 : EE} {ρ : Rho} {v1 v2 v3 v4 v5 : Vd} (h1 : e1 ρ = .ret (v1, ρ)) (h2 : e2 ρ = .ret (v2, ρ)) (h3 : e3 ρ = .ret (v3, ρ)) (h4 : e4 ρ = .ret (v4, ρ)) (h5 : e5 ρ = .ret (v5, ρ)) : aCons e1 (aCons e2 (aCons e3 (aCons e4 (aCons e5 aNil)))) ρ = .ret ([v1.d, v2.d, v3.d, v4.d, v5.d], ρ) := by
  simp [h1, h2, h3, h4, h5]
theorem A6 {e1 e2 e3 e4 e5 e6 : EE} {ρ : Rho} {v1 v2 v3 v4 v5 v6 : Vd} (h1 : e1 ρ = .ret (v1, ρ)) (h2 : e2 ρ = .ret (v2, ρ)) (h3 : e3 ρ = .ret (v3, ρ)) (h4 : e4 ρ = .ret (v4, ρ)) (h5 : e5 ρ = .ret (v5, ρ)) (h6 : e6 ρ = .ret (v6, ρ)) : aCons e1 (aCons e2 (aCons e3 (aCons e4 (aCons e5 (aCons e6 aNil))))) ρ = .ret ([v1.d, v2.d, v3.d, v4.d, v5.d, v6.d], ρ) := by
  simp [h1, h2, h3, h4, h5, h6]
theorem isn_ev (d : D) : fIsN false [d, .non] = some (.sh (.bl d.isNon)) := by simp
theorem chain_ev {a : EE} {n : EE} {ρ : Rho} {i : Int} {k : Nat} (ha : a ρ = .ret (.sh (.int i), ρ)) (hn : n ρ = .ret (.sh (.int (k : Nat)), ρ)) : eChain leI ltI (eC (.int 0)) a n ρ = .ret (.sh (.bl (decide (0 ≤ i ∧ i < k))), ρ) := by
  by_cases h : 0 ≤ i
  · simp [ha, hn, h]
  · simp [ha, hn, h]
theorem not_ev {a : ET} {ρ ρ1 : Rho} {p : Bool} (h : a ρ = .ret (p, ρ1)) : eNot a ρ = .ret (!p, ρ1) := by simp [h]
abbrev noneE (i : Nat) : EE := eOp2 (fIsN false) (eVar i) (eC .non)
theorem none_ev {i : Nat} {ρ : Rho} {d : D} (h : ρ[i]? = some (.sh d)) : eTest (noneE i) ρ = .ret (d.isNon, ρ) := testQ (B2 (F := fIsN false) (var_sh h) (rfl : eC .non ρ = .ret (.sh .non, ρ)) (isn_ev d))
theorem tup_ev {a : EA} {ρ ρ1 : Rho} {ds : List D} (h : a ρ = .ret (ds, ρ1)) (l : ds.length ≤ 16777216) : eTup a ρ = .ret (.sh (.tup ds), ρ1) := by simp [h, sizeLine_eq, l]
/-! nothing of a memo, nothing of a stream -/
theorem fres_of : ∀ {ds : List D}, (∀ d ∈ ds, D.fre d = true) → D.fres ds = true
  | [], _ => rfl
  | d :: ds, h => by
    rw [D.fres, h d List.mem_cons_self, fres_of fun x hx => h x (List.mem_cons_of_mem _ hx)]
    rfl
theorem fre_wD (ws : List Str) : D.fre (wD ws) = true := by
  show D.fre (.lst (wsD ws)) = true
  rw [D.fre]
  exact fres_of fun d hd => by
    obtain ⟨w, _, rfl⟩ := List.mem_map.mp hd
    rfl
theorem fre_kD9 (ks : List (List Str)) : D.fre (kD9 ks) = true := by
  show D.fre (.lst (ks.map wD)) = true
  rw [D.fre]
  exact fres_of fun d hd => by
    obtain ⟨k, _, rfl⟩ := List.mem_map.mp hd
    exact fre_wD k
theorem fre_zsD (st : List Int) : D.fre (zsD st) = true := by
  show D.fre (.tup (iD st)) = true
  rw [D.fre]
  exact fres_of fun d hd => by
    obtain ⟨k, _, rfl⟩ := List.mem_map.mp hd
    rfl
theorem fre_ints (L : List Nat) : D.fres (L.map fun i : Nat => D.int (i : Int)) = true := fres_of fun d hd => by
  obtain ⟨k, _, rfl⟩ := List.mem_map.mp hd
  rfl
end DL
set_option Elab.async false
set_option linter.all false
set_option maxRecDepth 100000
set_option maxHeartbeats 1000000
namespace DL
open PySem L2 PyProof.Rows
/-! ### the law's own _law_m_is_enough, with what stands in its memo for the time being -/
abbrev mD (ns : List Str) (mo : Int) (ks : List (List Str)) (ov : List D) : D := .tup (.int ns.length :: .int mo :: sgD ns ks :: ov)
abbrev kyN (st : List Int) (m : Nat) : NestedKey := .tup [.tup (st.map .num), .num (m : Int)]
abbrev kyD (st : List Int) (m : Nat) : D := .tup [zsD st, .int (m : Int)]
def OvUp (ov : List D) (m : Nat) : Prop := ∀ o ∈ ov, ∃ (st : List Int) (m' : Nat) (b : Bool), o = .tup [kyD st m', .bl b] ∧ m < m'
theorem ki_key (st : List Int) (m : Nat) : kiD (kyD st m) = some (kyN st m) := by
  show ((kiDs [.tup (iD st), .int m]).map NestedKey.tup) = _
  rw [kiDs, kiD, kiDs_i]
  rfl
theorem dep_key (st : List Int) (m : Nat) : (kyN st m).depth ≤ 8 := by
  rw [NestedKey.depth, NestedKey.depthAll, NestedKey.depth, dep_nums]
  show max (0 + 1) (NestedKey.depthAll [NestedKey.num (m : Int)]) + 1 ≤ 8
  rw [NestedKey.depthAll, NestedKey.depth, NestedKey.depthAll]
  decide
theorem look_up {m m' : Nat} {st : List Int} (hm : m' ≤ m) : ∀ ov : List D, OvUp ov m → lookO ov (kyN st m') = none
  | [], _ => rfl
  | o :: ov, h => by
    obtain ⟨st2, m2, b, rfl, h2⟩ := h o List.mem_cons_self
    have ne : ¬ kiD (kyD st2 m2) = some (kyN st m') := fun z => by
      rw [ki_key] at z
      injection z with z
      injection z with z
      injection z with _ z
      injection z with z _
      injection z with z
      omega
    rw [lookO_ne ne]
    exact look_up hm ov fun x hx => h x (List.mem_cons_of_mem _ hx)
theorem OvUp.less {ov : List D} {m m' : Nat} (h : OvUp ov m) (l : m' ≤ m) : OvUp ov m' := fun o ho => by
  obtain ⟨st, m2, b, e, h2⟩ := h o ho
  exact ⟨st, m2, b, e, by omega⟩
theorem mem_up {ns : List Str} {mo : Int} {ks : List (List Str)} {st : List Int} {m : Nat} {ov : List D} (hs : smallS st = true) (hm : m < 64) (ho : OvUp ov m) : memE (mD ns mo ks ov) (kyN st m) = some (enB ns.length mo (rowsB ns ks) m st) := by
  have r := rows_i ns ks
  have l := look_up (st := st) (Nat.le_refl m) ov ho
  show memE (.tup (.int ns.length :: .int mo :: .lst (ks.map fun k => rwB ns k) :: ov)) (.tup [.tup (st.map .num), .num (m : Int)]) = _
  rw [memE_eq, r]
  show ((numsK (st.map NestedKey.num)).bind _) = _
  rw [nums_i]
  show (if smallS st = true ∧ (0 : Int) ≤ (m : Int) ∧ (m : Int) < 64 then some ((lookO ov (kyN st m)).getD (enB _ _ _ _ _)) else none) = _
  rw [if_pos ⟨hs, by omega, by omega⟩, l]
  rfl
theorem lmemo_gen {i js jm : Nat} {fi : EA} {g : EG} {fb : ES} {ft : ET} {ρ ρ0 ρe : Rho} {d s : D} {mv : Int} {k : NestedKey} {b : Bool} {ds : List D} (e1 : memAtS ρ i = some d) (e2 : shAt ρ js = some s) (e3 : intS ρ jm = some mv) (hp : 0 < mv) (hk : kiD (.tup [s, .int mv]) = some k) (h0 : memE d k = some b) (hd : k.depth ≤ 8) (hf : (ρ.set i .no).all Slot.fre2 = true)
    (hi : fi (ρ.set i (.sh (.mem (ovD d (.tup [s, .int mv]) false)))) = .ret (ds, ρ0)) (hds : D.fres ds = true) (hm : memAtS ρ0 i = some (ovD d (.tup [s, .int mv]) false)) (hg : lmGo g fb ft i js jm d s (.int mv) ds false ρ0 = some (b, ρe)) (k1 : shAt ρe js = some s) (k2 : shAt ρe jm = some (.int mv)) (n1 : js ≠ i) (n2 : jm ≠ i) (hfe : (ρe.set i .no).all Slot.fre2 = true) :
    eLMemo i js jm fi g fb ft ρ = .ret (.rt (.sh (.bl b))) := by
  have o : ∀ {α β : Type} (a : α) (k : α → Cm β), opt (some a) k = k a := fun _ _ => rfl
  unfold eLMemo
  simp only [e1, e2, e3, hk, h0, o, if_pos hp, req, if_pos (And.intro hd hf)]
  rw [hi]
  show (opt (some (ds, ρ0)) _) = _
  simp only [o]
  rw [if_pos ⟨hds, hm⟩]
  simp only [hg, o]
  rw [if_pos ⟨trivial, k1, k2, n1, n2, hfe⟩]
theorem lmemo_zero {i js jm : Nat} {fi : EA} {g : EG} {fb : ES} {ft : ET} {ρ : Rho} {d s : D} (e1 : memAtS ρ i = some d) (e2 : shAt ρ js = some s) (e3 : intS ρ jm = some 0) : eLMemo i js jm fi g fb ft ρ = .ret (.rt (.sh (.bl false))) := by
  have o : ∀ {α β : Type} (a : α) (k : α → Cm β), opt (some a) k = k a := fun _ _ => rfl
  unfold eLMemo
  simp only [e1, e2, e3, o]
  rfl
theorem lm_step {g : EG} {fb : ES} {ft : ET} {i js jm : Nat} {d s m : D} {x : D} {xs : List D} {v t : Bool} {ρ ρ1 ρ2 ρ3 : Rho} (hg : g x ρ = some ρ1) (hb : fb ρ1 = .ret (.nx ρ2)) (ht : ft ρ2 = .ret (t, ρ3)) (h1 : memAtS ρ3 i = some (ovD d (.tup [s, m]) v)) (h2 : shAt ρ3 js = some s) (h3 : shAt ρ3 jm = some m) (h4 : (ρ3.set i .no).all Slot.fre2 = true) :
    lmGo g fb ft i js jm d s m (x :: xs) v ρ = lmGo g fb ft i js jm d s m xs (v || t) (if t = true then ρ3.set i (.sh (.mem (ovD d (.tup [s, m]) true))) else ρ3) := by
  rw [lmGo, hg]
  show (match fb ρ1 with
    | .ret (.nx ρ2) => _
    | _ => none) = _
  rw [hb]
  show (match ft ρ2 with
    | .ret (t, ρ3) => _
    | _ => none) = _
  rw [ht]
  show (if _ then _ else none) = _
  rw [if_pos ⟨h1, h2, h3, h4⟩]
abbrev meF (ns : List Str) (ks : List (List Str)) (mo : Int) (st : List Int) (M : Int) (d : D) (s6 s7 s8 s9 s10 : Slot) : Rho := [.sh (wD ns), .sh (kD9 ks), .sh (.int mo), .sh (zsD st), .sh (.int M), .sh (.mem d), s6, s7, s8, s9, s10]
abbrev meI : EA := iRng1 (aCons (eOpN fLenS (aCons (eVar 1) aNil)) aNil)
abbrev meB : ES := eSet 8 (eComp (iItems (eTup (aCons (eC (.bl true)) (aCons (eC (.bl false)) aNil)))) (gN 9) eYes (eCall f_l_m_after [] (aCons (eVar 0) (aCons (eVar 1) (aCons (eVar 3) (aCons (eVar 7) (aCons (eVar 9) aNil)))))) [9])
abbrev meT (fe : FN) : ET := eTest (eOpN fAll (aCons (eComp (iItems (eVar 8)) (gN 10) eYes (eCall fe [] (aCons (eVar 0) (aCons (eVar 1) (aCons (eVar 2) (aCons (eVar 10) (aCons (eOp2 (fInt2 fun a b => .int (a - b)) (eVar 4) (eC (.int 1))) (aCons (eVar 5) aNil))))))) [10]) aNil))
theorem me_eq (fe : FN) : b_l_m_is_enough fe = eSeq (eIf (eTest (eOp2 (fInt2 fun a b => .bl (decide (a < b))) (eOpN fLenS (aCons (eCall f_l_m_left [] (aCons (eVar 0) (aCons (eVar 3) (aCons (eVar 2) aNil)))) aNil)) (eC (.int 2)))) (eRet (eC (.bl true))) eSkip)
    (eSeq (eSet 3 (eOpN fTuple (aCons (eComp (iItems (eVar 3)) (gN 6) eYes (eOpN (fInt2 fun a b => .int (min a b)) (aCons (eVar 6) (aCons (eOp2 fAdd (eVar 2) (eC (.int 1))) aNil))) [6]) aNil)))
    (eLMemo 5 3 4 meI (gN 7) meB (meT fe))) := rfl
theorem meB_ev {ns : List Str} {ks : List (List Str)} {mo M : Int} {st : List Int} {d : D} {i : Nat} {s8 : Slot} (hi : i < ks.length) : meB (meF ns ks mo st M d .no (.sh (.int i)) s8 .no .no) = .ret (.nx (meF ns ks mo st M d .no (.sh (.int i)) (.ow (.lst [zsD (aft ns (kk ks i) st true), zsD (aft ns (kk ks i) st false)])) .no .no)) := by
  have it : iItems (eTup (aCons (eC (.bl true)) (aCons (eC (.bl false)) aNil))) (meF ns ks mo st M d .no (.sh (.int i)) s8 .no .no) = .ret ([true, false].map D.bl, meF ns ks mo st M d .no (.sh (.int i)) s8 .no .no) := rfl
  have cm := comp_of (f := D.bl) (L := [true, false]) (h := fun a => some (zsD (aft ns (kk ks i) st a))) (k := 9) (tt := eYes) (te := eCall f_l_m_after [] (aCons (eVar 0) (aCons (eVar 1) (aCons (eVar 3) (aCons (eVar 7) (aCons (eVar 9) aNil)))))) it rfl fun a _ => by
    have e := after_ev (ns := ns) (st := st) (a := a) hi
    exact turn_yes (ρ1 := [.sh (wD ns), .sh (kD9 ks), .sh (.int mo), .sh (zsD st), .sh (.int M), .sh (.mem d), .no, .sh (.int i), s8, .sh (.bl a), .no]) (v := .sh (zsD (aft ns (kk ks i) st a))) rfl (C1 (A5 (var_sh (i := 0) (d := wD ns) rfl) (var_sh (i := 1) (d := kD9 ks) rfl) (var_sh (i := 3) (d := zsD st) rfl) (var_sh (i := 7) (d := .int i) rfl) (var_sh (i := 9) (d := .bl a) rfl)) e) rfl
  exact S1 (i := 8) cm
theorem meT_ev {fe : FN} {ns : List Str} {ks : List (List Str)} {mo : Int} {m : Nat} {st : List Int} {d : D} {k : List Str} {s7 : Slot} {r : Bool → Bool} (he : ∀ a, fe [wD ns, kD9 ks, .int mo, zsD (aft ns k st a), .int m, .mem d] = .ret (.sh (.bl (r a)))) :
    meT fe (meF ns ks mo st ((m + 1 : Nat) : Int) d .no s7 (.ow (.lst [zsD (aft ns k st true), zsD (aft ns k st false)])) .no .no) = .ret (r true && r false, meF ns ks mo st ((m + 1 : Nat) : Int) d .no s7 (.sh (.lst [zsD (aft ns k st true), zsD (aft ns k st false)])) .no .no) := by
  have sn := sub_nat m
  generalize ((m + 1 : Nat) : Int) = M at *
  have it : iItems (eVar 8) (meF ns ks mo st M d .no s7 (.ow (.lst [zsD (aft ns k st true), zsD (aft ns k st false)])) .no .no) = .ret ([true, false].map (fun a => zsD (aft ns k st a)), meF ns ks mo st M d .no s7 (.sh (.lst [zsD (aft ns k st true), zsD (aft ns k st false)])) .no .no) := rfl
  have cm := comp_of (f := fun a => zsD (aft ns k st a)) (L := [true, false]) (h := fun a => some (.bl (r a))) (k := 10) (tt := eYes) (te := eCall fe [] (aCons (eVar 0) (aCons (eVar 1) (aCons (eVar 2) (aCons (eVar 10) (aCons (eOp2 (fInt2 fun a b => .int (a - b)) (eVar 4) (eC (.int 1))) (aCons (eVar 5) aNil))))))) it rfl fun a _ => by
    have e := he a
    generalize zsD (aft ns k st a) = Z at *
    generalize (.lst [zsD (aft ns k st true), zsD (aft ns k st false)] : D) = Y at *
    exact turn_yes (ρ1 := [.sh (wD ns), .sh (kD9 ks), .sh (.int mo), .sh (zsD st), .sh (.int M), .sh (.mem d), .no, s7, .sh Y, .no, .sh Z]) (v := .sh (.bl (r a))) rfl (C1 (A6 (var_sh (i := 0) (d := wD ns) rfl) (var_sh (i := 1) (d := kD9 ks) rfl) (var_sh (i := 2) (d := .int mo) rfl) (var_sh (i := 10) (d := Z) rfl) (B2 (F := subI) (var_sh (i := 4) (d := .int M) rfl) (rfl : eC (.int 1) _ = .ret (.sh (.int 1), _)) sn) (var_sh (i := 5) (d := .mem d) rfl)) e) rfl
  rw [fmapSome] at cm
  have al := all_boolsL ([true, false].map r)
  rw [List.map_map] at al
  refine (testQ (O1 (A1 cm) al)).trans ?_
  simp
theorem me_fre {ns : List Str} {ks : List (List Str)} {mo M : Int} {st : List Int} {d : D} {s6 s7 s8 s9 s10 : Slot} (h6 : s6.fre2 = true) (h7 : s7.fre2 = true) (h8 : s8.fre2 = true) (h9 : s9.fre2 = true) (h10 : s10.fre2 = true) : ((meF ns ks mo st M d s6 s7 s8 s9 s10).set 5 .no).all Slot.fre2 = true := by
  show (D.fre (wD ns) && (D.fre (kD9 ks) && (true && (D.fre (zsD st) && (true && (true && (s6.fre2 && (s7.fre2 && (s8.fre2 && (s9.fre2 && (s10.fre2 && true))))))))))) = true
  rw [fre_wD, fre_kD9, fre_zsD, h6, h7, h8, h9, h10]
  rfl
theorem fre_two {a b : List Int} : D.fre (.lst [zsD a, zsD b]) = true := by
  rw [D.fre, D.fres, D.fres, fre_zsD, fre_zsD]
  rfl
theorem me_go {fe : FN} {ns : List Str} {ks : List (List Str)} {mo : Int} {m : Nat} {st : List Int} {ov : List D} (hc : clamp mo st = st)
    (he : ∀ v i a, i < ks.length → fe [wD ns, kD9 ks, .int mo, zsD (aft ns (kk ks i) st a), .int m, .mem (mD ns mo ks (.tup [kyD st (m + 1), .bl v] :: ov))] = .ret (.sh (.bl (enB ns.length mo (rowsB ns ks) m (bhd mo st (zRow ns (kk ks i)) a))))) :
    ∀ (L : List Nat) (v : Bool) (s7 s8 : Slot), (∀ i ∈ L, i < ks.length) → s7.fre2 = true → s8.fre2 = true → ∃ s7' s8' : Slot, s7'.fre2 = true ∧ s8'.fre2 = true ∧
      lmGo (gN 7) meB (meT fe) 5 3 4 (mD ns mo ks ov) (zsD st) (.int ((m + 1 : Nat) : Int)) (L.map fun i : Nat => D.int (i : Int)) v (meF ns ks mo st ((m + 1 : Nat) : Int) (mD ns mo ks (.tup [kyD st (m + 1), .bl v] :: ov)) .no s7 s8 .no .no)
        = some (v || L.any fun i => rB ns mo ks m st (zRow ns (kk ks i)), meF ns ks mo st ((m + 1 : Nat) : Int) (mD ns mo ks (.tup [kyD st (m + 1), .bl (v || L.any fun i => rB ns mo ks m st (zRow ns (kk ks i)))] :: ov)) .no s7' s8' .no .no)
  | [], v, s7, s8, _, h7, h8 => ⟨s7, s8, h7, h8, by
    rw [List.any_nil, Bool.or_false]
    rfl⟩
  | i :: L, v, s7, s8, hL, h7, h8 => by
    have hi := hL i List.mem_cons_self
    have b := meB_ev (ns := ns) (mo := mo) (M := ((m + 1 : Nat) : Int)) (st := st) (d := mD ns mo ks (.tup [kyD st (m + 1), .bl v] :: ov)) (s8 := s8) hi
    have t := meT_ev (fe := fe) (ns := ns) (ks := ks) (mo := mo) (m := m) (st := st) (d := mD ns mo ks (.tup [kyD st (m + 1), .bl v] :: ov)) (k := kk ks i) (s7 := .sh (.int i)) (fun a => he v i a hi)
    obtain ⟨s7', s8', g7, g8, e⟩ := me_go hc he L (v || rB ns mo ks m st (zRow ns (kk ks i))) (.sh (.int i)) (.sh (.lst [zsD (aft ns (kk ks i) st true), zsD (aft ns (kk ks i) st false)])) (fun j hj => hL j (List.mem_cons_of_mem _ hj)) rfl fre_two
    refine ⟨s7', s8', g7, g8, ?_⟩
    rw [List.map_cons, List.any_cons, ← Bool.or_assoc, ← e]
    refine (lm_step (ρ1 := meF ns ks mo st ((m + 1 : Nat) : Int) (mD ns mo ks (.tup [kyD st (m + 1), .bl v] :: ov)) .no (.sh (.int i)) s8 .no .no) rfl b t rfl rfl rfl (me_fre rfl rfl fre_two rfl rfl)).trans ?_
    show lmGo _ _ _ _ _ _ _ _ _ _ (v || rB ns mo ks m st (zRow ns (kk ks i))) (if rB ns mo ks m st (zRow ns (kk ks i)) = true then _ else _) = _
    cases rB ns mo ks m st (zRow ns (kk ks i)) with
    | true => rw [if_pos rfl, Bool.or_true]; rfl
    | false => rw [if_neg (by decide), Bool.or_false]
theorem men_ev {ns : List Str} {mo : Int} {ks : List (List Str)} (hn : ns.length ≤ 5) (hk : ks.length ≤ 5) (hm : mo = 0 ∨ mo = 1) : ∀ (f m : Nat) (st : List Int) (ov : List D), m ≤ f → m < 64 → st.length = ns.length → (∀ i ∈ st, 0 ≤ i) → OvUp ov m →
    f_l_m_is_enough (f + 1) [wD ns, kD9 ks, .int mo, zsD st, .int m, .mem (mD ns mo ks ov)] = .ret (.sh (.bl (enB ns.length mo (rowsB ns ks) m (clamp mo st))))
  | f, m, st, ov, hf, h64, hl, h0, ho => by
    refine def_ev rfl ?_
    rw [me_eq]
    have g := clamp_gst hm hl h0
    have ln : leftN ns.length mo (clamp mo st) = (leftW ns mo st).length := by rw [← leftW_len g.len, left_clamp]
    show eSeq _ _ (meF ns ks mo st m (mD ns mo ks ov) .no .no .no .no .no) = _
    have t1 : eTest (eOp2 (fInt2 fun a b => .bl (decide (a < b))) (eOpN fLenS (aCons (eCall f_l_m_left [] (aCons (eVar 0) (aCons (eVar 3) (aCons (eVar 2) aNil)))) aNil)) (eC (.int 2))) (meF ns ks mo st m (mD ns mo ks ov) .no .no .no .no .no) = .ret (decide (leftN ns.length mo (clamp mo st) < 2), meF ns ks mo st m (mD ns mo ks ov) .no .no .no .no .no) := by
      refine testQ (B2 (F := ltI) (O1 (A1 (C1 (A3 (var_sh (i := 0) (d := wD ns) rfl) (var_sh (i := 3) (d := zsD st) rfl) (var_sh (i := 2) (d := .int mo) rfl)) mleft_ev)) (len_ws _)) (rfl : eC (.int 2) _ = .ret (.sh (.int 2), _)) ?_)
      show some (Vd.sh (.bl (decide (((leftW ns mo st).length : Int) < 2)))) = _
      rw [ln]
      congr 3
      exact decide_eq_decide.mpr (by omega)
    by_cases h2 : leftN ns.length mo (clamp mo st) < 2
    · have e : enB ns.length mo (rowsB ns ks) m (clamp mo st) = true := by cases m <;> simp [enB, h2]
      rw [e]
      rw [decide_eq_true h2] at t1
      exact sq_rt (ifQ t1 rfl)
    · rw [decide_eq_false h2] at t1
      rw [seq_nx (If0 t1 rfl)]
      have it : iItems (eVar 3) (meF ns ks mo st m (mD ns mo ks ov) .no .no .no .no .no) = .ret (st.map D.int, meF ns ks mo st m (mD ns mo ks ov) .no .no .no .no .no) := rfl
      have cm := comp_of (f := D.int) (L := st) (h := fun w => some (.int (min w (mo + 1)))) (k := 6) (tt := eYes) (te := eOpN (fInt2 fun a b => .int (min a b)) (aCons (eVar 6) (aCons (eOp2 fAdd (eVar 2) (eC (.int 1))) aNil))) it rfl fun w _ =>
        turn_yes (ρ1 := meF ns ks mo st m (mD ns mo ks ov) (.sh (.int w)) .no .no .no .no) (v := .sh (.int (min w (mo + 1)))) rfl (O1 (A2 (var_sh (i := 6) (d := .int w) rfl) (B2 (F := fAdd) (z := .sh (.int (mo + 1))) (var_sh (i := 2) (d := .int mo) rfl) (rfl : eC (.int 1) _ = .ret (.sh (.int 1), _)) rfl)) rfl) rfl
      rw [fmapSome] at cm
      have s := S1 (i := 3) (O1 (A1 cm) (show fTuple [.lst (st.map fun w => D.int (min w (mo + 1)))] = some (.sh (zsD (clamp mo st))) from by
        unfold clamp
        show some (Vd.sh (.tup _)) = some (Vd.sh (.tup (List.map D.int (List.map _ _))))
        rw [List.map_map]
        rfl))
      refine (seq_nx s).trans ?_
      show eLMemo 5 3 4 meI (gN 7) meB (meT (f_l_m_is_enough f)) (meF ns ks mo (clamp mo st) m (mD ns mo ks ov) .no .no .no .no .no) = _
      have cc := clamp_clamp (mo := mo) st
      have c0 : ∀ i ∈ clamp mo st, 0 ≤ i := fun i hi => (g.mem i hi).1
      generalize clamp mo st = S at *
      cases m with
      | zero =>
        have e : enB ns.length mo (rowsB ns ks) 0 S = false := by simp [enB, h2]
        rw [e]
        exact lmemo_zero rfl rfl rfl
      | succ m =>
        cases f with
        | zero => omega
        | succ f =>
          have ih : ∀ v i a, i < ks.length → f_l_m_is_enough (f + 1) [wD ns, kD9 ks, .int mo, zsD (aft ns (kk ks i) S a), .int m, .mem (mD ns mo ks (.tup [kyD S (m + 1), .bl v] :: ov))] = .ret (.sh (.bl (enB ns.length mo (rowsB ns ks) m (bhd mo S (zRow ns (kk ks i)) a)))) := fun v i a hi => by
            have := men_ev hn hk hm f m (aft ns (kk ks i) S a) (.tup [kyD S (m + 1), .bl v] :: ov) (by omega) (by omega) (aft_len g.len) (aft_pos c0) (fun o h => by
              rcases List.mem_cons.mp h with rfl | h
              · exact ⟨S, m + 1, v, rfl, Nat.lt_succ_self _⟩
              · exact (ho.less (Nat.le_succ m)) o h)
            rw [clamp_aft, cc] at this
            exact this
          obtain ⟨s7, s8, h7, h8, go⟩ := me_go cc ih (List.range ks.length) false .no .no (fun i hi => List.mem_range.mp hi) rfl rfl
          have en : (false || (List.range ks.length).any fun i => rB ns mo ks m S (zRow ns (kk ks i))) = enB ns.length mo (rowsB ns ks) (m + 1) S := by
            have rm := rng_map (fun k => rB ns mo ks m S (zRow ns k)) [] ks
            rw [enB, decide_eq_false h2, List.any_map]
            have a1 : (List.range ks.length).any (fun i => rB ns mo ks m S (zRow ns (kk ks i))) = ((List.range ks.length).map fun i => rB ns mo ks m S (zRow ns (kk ks i))).any id := by rw [List.any_map]; rfl
            rw [a1, rm, List.any_map]
            rfl
          rw [en] at go
          have ml : fLenS [kD9 ks] = some (.sh (.int (ks.length : Nat))) := by
            show some (Vd.sh (.int ((ks.map _).length : Nat))) = _
            rw [List.length_map]
          have itx := rng_ev (n := ks.length) (O1 (A1 (var_sh (i := 1) (ρ := meF ns ks mo S ((m + 1 : Nat) : Int) (mD ns mo ks (.tup [kyD S (m + 1), .bl false] :: ov)) .no .no .no .no .no) (d := kD9 ks) rfl)) ml) rfl (by omega)
          rw [rangeD_nat] at itx
          exact lmemo_gen (k := kyN S (m + 1)) (d := mD ns mo ks ov) rfl rfl rfl (by omega) (ki_key S (m + 1)) (mem_up (gst_small g hn hm) h64 ho) (dep_key S (m + 1)) (me_fre rfl rfl rfl rfl rfl) itx (fre_ints _) rfl go rfl rfl (by decide) (by decide) (me_fre rfl h7 h8 rfl rfl)
end DL
set_option Elab.async false
set_option linter.all false
set_option maxRecDepth 100000
set_option maxHeartbeats 1000000
namespace DL
open PySem L2 PyProof.Rows
/-! ### how few askings are enough: states told by names -/
def nxt (mo : Int) (k : List Str) (a : Bool) (w : Str → Int) : Str → Int := fun n => min (w n + (if (decide (n ∈ k) != a) = true then 1 else 0)) (mo + 1)
theorem bhd_map {mo : Int} {k : List Str} {a : Bool} {w : Str → Int} : ∀ ns : List Str, bhd mo (ns.map w) (zRow ns k) a = ns.map (nxt mo k a w)
  | [] => rfl
  | n :: ns => by
    have ih := bhd_map (mo := mo) (k := k) (a := a) (w := w) ns
    unfold bhd zRow at ih ⊢
    simp only [List.map_cons, List.zip_cons_cons, ih]
    rfl
abbrev lefts (ns : List Str) (mo : Int) (w : Str → Int) : List Str := ns.filter fun n => decide (w n ≤ mo)
theorem left_map {mo : Int} {w : Str → Int} : ∀ ns : List Str, leftW ns mo (ns.map w) = lefts ns mo w
  | [] => rfl
  | n :: ns => by
    have ih := left_map (mo := mo) (w := w) ns
    unfold leftW lefts at ih ⊢
    simp only [List.map_cons, List.zip_cons_cons, List.filter_cons]
    by_cases q : w n ≤ mo
    · simp only [decide_eq_true q, if_true, List.map_cons, ih]
    · simp only [decide_eq_false q, Bool.false_eq_true, if_false, ih]
theorem leftN_map {mo : Int} {w : Str → Int} (ns : List Str) : leftN ns.length mo (ns.map w) = (lefts ns mo w).length := by
  rw [← left_map, leftW_len (by simp)]
/-- any state is told by names -/
theorem by_names : ∀ (ns : List Str) (st : List Int), ns.Nodup → st.length = ns.length → ∃ w : Str → Int, st = ns.map w
  | [], [], _, _ => ⟨fun _ => 0, rfl⟩
  | [], _ :: _, _, h => by simp at h
  | _ :: _, [], _, h => by simp at h
  | n :: ns, s :: st, nd, h => by
    obtain ⟨h1, h2⟩ := List.nodup_cons.mp nd
    obtain ⟨w, e⟩ := by_names ns st h2 (by simpa using h)
    refine ⟨fun x => if x = n then s else w x, ?_⟩
    rw [List.map_cons, if_pos rfl, e]
    congr 1
    exact List.map_congr_left fun x hx => by
      have : x ≠ n := fun z => h1 (z ▸ hx)
      rw [if_neg this]
abbrev enW (ns : List Str) (mo : Int) (ks : List (List Str)) (m : Nat) (w : Str → Int) : Bool := enB ns.length mo (rowsB ns ks) m (ns.map w)
theorem enW_zero {ns : List Str} {mo : Int} {ks : List (List Str)} {w : Str → Int} : enW ns mo ks 0 w = decide ((lefts ns mo w).length < 2) := by
  unfold enW
  rw [enB, leftN_map]
theorem enW_succ {ns : List Str} {mo : Int} {ks : List (List Str)} {m : Nat} {w : Str → Int} : enW ns mo ks (m + 1) w = (decide ((lefts ns mo w).length < 2) || ks.any fun k => enW ns mo ks m (nxt mo k true w) && enW ns mo ks m (nxt mo k false w)) := by
  unfold enW
  rw [enB, leftN_map, List.any_map]
  congr 1
  refine congrArg (fun f => ks.any f) (funext fun k => ?_)
  show (enB ns.length mo (rowsB ns ks) m (bhd mo (ns.map w) (zRow ns k) true) && _) = _
  rw [bhd_map]
  show (_ && enB ns.length mo (rowsB ns ks) m (bhd mo (ns.map w) (zRow ns k) false)) = _
  rw [bhd_map]
theorem twoLe {l : List Str} {x y : Str} (hx : x ∈ l) (hy : y ∈ l) (ne : x ≠ y) : ¬ l.length < 2 := by
  match l, hx, hy with
  | [a], hx, hy =>
    rw [List.mem_singleton] at hx hy
    exact absurd (hx.trans hy.symm) ne
  | a :: b :: l, _, _ => simp
theorem twoOf {l : List Str} (nd : l.Nodup) (h : ¬ l.length < 2) : ∃ x y, x ∈ l ∧ y ∈ l ∧ x ≠ y := by
  match l, nd, h with
  | [], _, h => simp at h
  | [a], _, h => simp at h
  | a :: b :: l, nd, _ =>
    refine ⟨a, b, by simp, by simp, fun z => ?_⟩
    have := (List.nodup_cons.mp nd).1
    rw [z] at this
    simp at this
/-- two that no asking parts -/
theorem never {ns : List Str} {mo : Int} {ks : List (List Str)} {x y : Str} (hx : x ∈ ns) (hy : y ∈ ns) (ne : x ≠ y) (same : ∀ k ∈ ks, decide (x ∈ k) = decide (y ∈ k)) : ∀ (m : Nat) (w : Str → Int), w x ≤ mo → w y ≤ mo → enW ns mo ks m w = false
  | m, w, h1, h2 => by
    have two : ¬ (lefts ns mo w).length < 2 := twoLe (x := x) (y := y) (List.mem_filter.mpr ⟨hx, decide_eq_true h1⟩) (List.mem_filter.mpr ⟨hy, decide_eq_true h2⟩) ne
    cases m with
    | zero => rw [enW_zero, decide_eq_false two]
    | succ m =>
      rw [enW_succ, decide_eq_false two, Bool.false_or, List.any_eq_false]
      intro k hk z
      rw [Bool.and_eq_true] at z
      have st : ∀ a, a = decide (x ∈ k) → enW ns mo ks m (nxt mo k a w) = false := fun a ha => by
        refine never hx hy ne same m _ ?_ ?_
        · unfold nxt
          rw [ha]
          simp
          omega
        · unfold nxt
          rw [ha, same k hk]
          simp
          omega
      cases hq : decide (x ∈ k) with
      | true => rw [st true hq.symm] at z; exact Bool.noConfusion z.1
      | false => rw [st false hq.symm] at z; exact Bool.noConfusion z.2
def pot (ns : List Str) (mo : Int) (w : Str → Int) : Nat := (ns.map fun n => (mo + 1 - w n).toNat).sum
theorem sumLe {f g : Str → Nat} : ∀ ns : List Str, (∀ n ∈ ns, f n ≤ g n) → (ns.map f).sum ≤ (ns.map g).sum
  | [], _ => Nat.le_refl _
  | n :: ns, h => by
    have ih := sumLe ns fun x hx => h x (List.mem_cons_of_mem _ hx)
    have := h n List.mem_cons_self
    simp only [List.map_cons, List.sum_cons]
    omega
theorem sumLt {f g : Str → Nat} {x : Str} : ∀ ns : List Str, (∀ n ∈ ns, f n ≤ g n) → x ∈ ns → f x < g x → (ns.map f).sum < (ns.map g).sum
  | [], _, h, _ => by simp at h
  | n :: ns, h, hx, hl => by
    have h0 := h n List.mem_cons_self
    have hr := sumLe ns fun x hx => h x (List.mem_cons_of_mem _ hx)
    simp only [List.map_cons, List.sum_cons]
    rcases List.mem_cons.mp hx with rfl | hx
    · omega
    · have ih := sumLt ns (fun x hx => h x (List.mem_cons_of_mem _ hx)) hx hl
      omega
def Parted (ns : List Str) (mo : Int) (ks : List (List Str)) (w : Str → Int) : Prop := ∀ x ∈ ns, ∀ y ∈ ns, x ≠ y → w x ≤ mo → w y ≤ mo → ∃ k ∈ ks, decide (x ∈ k) ≠ decide (y ∈ k)
theorem nxt_pot {mo : Int} {k : List Str} {a : Bool} {w : Str → Int} (n : Str) : (mo + 1 - nxt mo k a w n).toNat ≤ (mo + 1 - w n).toNat := by
  unfold nxt
  split <;> omega
theorem nxt_one {mo : Int} {k : List Str} {a : Bool} {w : Str → Int} {n : Str} (h : w n ≤ mo) (ne : decide (n ∈ k) ≠ a) : (mo + 1 - nxt mo k a w n).toNat < (mo + 1 - w n).toNat := by
  unfold nxt
  rw [if_pos (by simpa using ne)]
  omega
theorem nxt_left {mo : Int} {k : List Str} {a : Bool} {w : Str → Int} {n : Str} (h : nxt mo k a w n ≤ mo) : w n ≤ mo := by
  unfold nxt at h
  split at h <;> omega
theorem enough_pot {ns : List Str} {mo : Int} {ks : List (List Str)} (nd : ns.Nodup) : ∀ (m : Nat) (w : Str → Int), Parted ns mo ks w → pot ns mo w ≤ m → enW ns mo ks m w = true
  | m, w, hp, hm => by
    by_cases two : (lefts ns mo w).length < 2
    · cases m with
      | zero => rw [enW_zero, decide_eq_true two]
      | succ m => rw [enW_succ, decide_eq_true two, Bool.true_or]
    · obtain ⟨x, y, hx, hy, ne⟩ := twoOf (nd.sublist List.filter_sublist) two
      obtain ⟨x1, x2⟩ := List.mem_filter.mp hx
      obtain ⟨y1, y2⟩ := List.mem_filter.mp hy
      have x2 := of_decide_eq_true x2
      have y2 := of_decide_eq_true y2
      obtain ⟨k, hk, d⟩ := hp x x1 y y1 ne x2 y2
      have less : ∀ a, pot ns mo (nxt mo k a w) < pot ns mo w := fun a => by
        by_cases e : decide (x ∈ k) = a
        · have e2 : decide (y ∈ k) ≠ a := fun z => d (e.trans z.symm)
          exact sumLt (x := y) ns (fun n _ => nxt_pot n) y1 (nxt_one y2 e2)
        · exact sumLt (x := x) ns (fun n _ => nxt_pot n) x1 (nxt_one x2 e)
      have st : ∀ a, Parted ns mo ks (nxt mo k a w) := fun a x1 h1 y1 h2 ne l1 l2 => hp x1 h1 y1 h2 ne (nxt_left l1) (nxt_left l2)
      cases m with
      | zero =>
        have := less true
        omega
      | succ m =>
        rw [enW_succ, Bool.or_eq_true, List.any_eq_true]
        have l1 := less true
        have l2 := less false
        exact .inr ⟨k, hk, by rw [enough_pot nd m _ (st true) (by omega), enough_pot nd m _ (st false) (by omega)]; rfl⟩
theorem pot_le {mo : Int} (hm : mo = 0 ∨ mo = 1) {w : Str → Int} : ∀ ns : List Str, (∀ n ∈ ns, 0 ≤ w n) → (pot ns mo w : Int) ≤ (1 + 2 * mo) * (ns.length : Int)
  | [], _ => by simp [pot]
  | n :: ns, h => by
    have ih := pot_le hm ns fun x hx => h x (List.mem_cons_of_mem _ hx)
    have h0 := h n List.mem_cons_self
    unfold pot at ih ⊢
    simp only [List.map_cons, List.sum_cons, List.length_cons]
    rcases hm with rfl | rfl <;> omega
/-- the signs of those who are left -/
abbrev sgnW (ks : List (List Str)) (n : Str) : List Bool := ks.map fun k => decide (n ∈ k)
theorem sgn_ne {ks : List (List Str)} {x y : Str} : sgnW ks x ≠ sgnW ks y ↔ ∃ k ∈ ks, decide (x ∈ k) ≠ decide (y ∈ k) := by
  induction ks with
  | nil => simp [sgnW]
  | cons k ks ih =>
    show (decide (x ∈ k) :: sgnW ks x ≠ decide (y ∈ k) :: sgnW ks y) ↔ _
    constructor
    · intro h
      by_cases e : decide (x ∈ k) = decide (y ∈ k)
      · have : sgnW ks x ≠ sgnW ks y := fun z => h (by rw [e, z])
        obtain ⟨k', h1, h2⟩ := ih.mp this
        exact ⟨k', List.mem_cons_of_mem _ h1, h2⟩
      · exact ⟨k, List.mem_cons_self, e⟩
    · rintro ⟨k', h1, h2⟩ z
      injection z with z1 z2
      rcases List.mem_cons.mp h1 with rfl | h1
      · exact h2 z1
      · exact (ih.mpr ⟨k', h1, h2⟩) z2
theorem pw_mem {R : Str → Str → Prop} (sy : ∀ a b, R a b → R b a) : ∀ {l : List Str}, l.Pairwise R → ∀ {x y : Str}, x ∈ l → y ∈ l → x ≠ y → R x y
  | [], _, _, _, h, _, _ => by simp at h
  | a :: l, h, x, y, hx, hy, ne => by
    obtain ⟨h1, h2⟩ := List.pairwise_cons.mp h
    rcases List.mem_cons.mp hx with e1 | k1
    · rcases List.mem_cons.mp hy with e2 | k2
      · exact absurd (e1.trans e2.symm) ne
      · rw [e1]
        exact h1 y k2
    · rcases List.mem_cons.mp hy with e2 | k2
      · rw [e2]
        exact sy _ _ (h1 x k1)
      · exact pw_mem sy h2 k1 k2 ne
theorem parted_iff {ns : List Str} {mo : Int} {ks : List (List Str)} {w : Str → Int} (nd : ns.Nodup) : Parted ns mo ks w ↔ ((lefts ns mo w).map (sgnW ks)).Nodup := by
  unfold List.Nodup
  rw [List.pairwise_map]
  constructor
  · intro h
    refine List.Pairwise.imp_of_mem ?_ (nd.sublist List.filter_sublist)
    intro a b ha hb ne
    obtain ⟨a1, a2⟩ := List.mem_filter.mp ha
    obtain ⟨b1, b2⟩ := List.mem_filter.mp hb
    exact sgn_ne.mpr (h a a1 b b1 ne (of_decide_eq_true a2) (of_decide_eq_true b2))
  · intro h x hx y hy ne h1 h2
    exact sgn_ne.mp (pw_mem (R := fun a b => sgnW ks a ≠ sgnW ks b) (fun a b z => z.symm) h (List.mem_filter.mpr ⟨hx, decide_eq_true h1⟩) (List.mem_filter.mpr ⟨hy, decide_eq_true h2⟩) ne)
/-- the fewest askings: M is enough, and no fewer are -/
structure Few (ns : List Str) (mo : Int) (ks : List (List Str)) (st : List Int) (M : Nat) : Prop where
  yes : enB ns.length mo (rowsB ns ks) M st = true
  no : ∀ m, m < M → enB ns.length mo (rowsB ns ks) m st = false
theorem least_of {p : Nat → Bool} : ∀ (T : Nat), p T = true → ∃ M, M ≤ T ∧ p M = true ∧ ∀ m, m < M → p m = false
  | 0, h => ⟨0, Nat.le_refl _, h, fun m hm => absurd hm (Nat.not_lt_zero _)⟩
  | T + 1, h => by
    by_cases q : ∃ t, t ≤ T ∧ p t = true
    · obtain ⟨t, ht, e⟩ := q
      obtain ⟨M, h1, h2, h3⟩ := least_of t e
      exact ⟨M, by omega, h2, h3⟩
    · refine ⟨T + 1, Nat.le_refl _, h, fun m hm => ?_⟩
      cases e : p m with
      | false => rfl
      | true => exact absurd ⟨m, by omega, e⟩ q
theorem few_or {ns : List Str} {mo : Int} {ks : List (List Str)} (nd : ns.Nodup) (hm : mo = 0 ∨ mo = 1) {st : List Int} (g : Gst ns.length mo st) :
    (((leftW ns mo st).map (sgnW ks)).Nodup ∧ ∃ M : Nat, (M : Int) ≤ (1 + 2 * mo) * (ns.length : Int) ∧ Few ns mo ks st M) ∨ (¬ ((leftW ns mo st).map (sgnW ks)).Nodup ∧ ∀ m, enB ns.length mo (rowsB ns ks) m st = false) := by
  obtain ⟨w, rfl⟩ := by_names ns st nd g.len
  rw [left_map, ← parted_iff nd]
  by_cases p : Parted ns mo ks w
  · refine .inl ⟨p, ?_⟩
    have pl := pot_le (w := w) hm ns fun n hn => (g.mem (w n) (List.mem_map_of_mem hn)).1
    obtain ⟨M, h1, h2, h3⟩ := least_of (p := fun m => enW ns mo ks m w) _ (enough_pot (ks := ks) nd _ w p (Nat.le_refl _))
    exact ⟨M, by omega, h2, h3⟩
  · refine .inr ⟨p, fun m => ?_⟩
    have q : ∃ x y, x ∈ ns ∧ y ∈ ns ∧ x ≠ y ∧ w x ≤ mo ∧ w y ≤ mo ∧ ∀ k ∈ ks, decide (x ∈ k) = decide (y ∈ k) := by
      refine Classical.byContradiction fun z => p fun x hx y hy ne h1 h2 => Classical.byContradiction fun z2 => z ⟨x, y, hx, hy, ne, h1, h2, fun k hk => Classical.byContradiction fun z3 => z2 ⟨k, hk, z3⟩⟩
    obtain ⟨x, y, hx, hy, ne, h1, h2, sm⟩ := q
    exact never hx hy ne sm m w h1 h2
theorem few_zero {ns : List Str} {mo : Int} {ks : List (List Str)} {st : List Int} {M : Nat} (f : Few ns mo ks st M) : M = 0 ↔ leftN ns.length mo st < 2 := by
  constructor
  · intro h
    subst h
    have := f.yes
    rw [enB] at this
    exact of_decide_eq_true this
  · intro h
    cases M with
    | zero => rfl
    | succ M =>
      have := f.no 0 (Nat.succ_pos _)
      rw [enB, decide_eq_true h] at this
      exact Bool.noConfusion this
end DL
set_option Elab.async false
set_option linter.all false
set_option maxRecDepth 100000
set_option maxHeartbeats 1000000
namespace DL
open PySem L2 PyProof.Rows
theorem go_det {g : EG} {b : ES} {vs : List Nat} {ρ : Rho} {P : Vd → Prop} : ∀ ds : List D, (∀ d ∈ ds, ∃ ρ1, g d ρ = some ρ1 ∧ ((∃ ρ2, b ρ1 = .ret (.nx ρ2) ∧ wipeR ρ2 vs = ρ) ∨ ∃ v, b ρ1 = .ret (.rt v) ∧ P v)) →
    eForGo g b vs ds ρ = .ret (.nx ρ) ∨ ∃ v, eForGo g b vs ds ρ = .ret (.rt v) ∧ P v
  | [], _ => .inl rfl
  | d :: ds, h => by
    obtain ⟨ρ1, e, w⟩ := h d List.mem_cons_self
    rcases w with ⟨ρ2, e2, e3⟩ | ⟨v, e2, p⟩
    · have ih := go_det ds fun x hx => h x (List.mem_cons_of_mem _ hx)
      have s : eForGo g b vs (d :: ds) ρ = eForGo g b vs ds ρ := by
        simp [eForGo, e, e2, e3]
      rw [s]
      exact ih
    · exact .inr ⟨v, by simp [eForGo, e, e2], p⟩
section
variable {c : Str → Addr}
theorem begun9_ev {ns : List Str} {mo : Int} {ks : List (List Str)} (h0 : ns ≠ []) (hl : ns.length ≤ 5) : f_Hunt_begun_e c [hun c ns mo ks] = .ret (.sh (zsD (List.replicate ns.length 0))) := by
  have l : fLenS [wD ns] = some (.sh (.int (ns.length : Nat))) := len_ws ns
  have pos : 1 ≤ ns.length := List.length_pos_iff.mpr h0
  have fl : ∀ n : Nat, (List.replicate n [D.int 0]).flatten = (List.replicate n (0 : Int)).map D.int := fun n => by
    induction n with
    | zero => rfl
    | succ n ih => rw [List.replicate_succ, List.flatten_cons, ih, List.replicate_succ]; rfl
  have m : fMul [.tup [.int 0], .int (ns.length : Nat)] = some (.sh (zsD (List.replicate ns.length 0))) := by
    have h1 : (1 : Int) ≤ (ns.length : Int) := by omega
    have h2 : (ns.length : Int) ≤ 1000 := by omega
    show (if [D.int 0] ≠ [] ∧ (1 : Int) ≤ (ns.length : Int) ∧ (ns.length : Int) ≤ 1000 ∧ [D.int 0].length ≤ 1000 then some (Vd.sh (.tup (List.replicate ((ns.length : Int)).toNat [D.int 0]).flatten)) else none) = _
    rw [if_pos ⟨by simp, h1, h2, by simp⟩, Int.toNat_natCast, fl]
  refine def_ev rfl ?_
  have t : eTup (aCons (eC (.int 0)) aNil) [.sh (hun c ns mo ks)] = .ret (.sh (.tup [.int 0]), [.sh (hun c ns mo ks)]) := by simp [sizeLine_eq]
  exact R1 (B2 (F := fMul) t (O1 (A1 (fld_ev (f := "ones") (i := 0) rfl lk1)) l) m)
/-! ### unparted -/
theorem ix_row {ns k : List Str} {i : Nat} (h : i < ns.length) : fIx [rwB ns k, .int i] = some (.sh (.bl ((zRow ns k)[i]?.getD false))) := by
  have e : (ns.map fun n => D.bl (decide (n ∈ k)))[i]? = some (.bl ((zRow ns k)[i]?.getD false)) := by
    rw [List.getElem?_map, List.getElem?_map, List.getElem?_eq_getElem h]
    rfl
  show (atI (ns.map fun n => D.bl (decide (n ∈ k))) (i : Int)).map Vd.sh = _
  rw [atI_nat, e]
  rfl
theorem eq_bl (a b : Bool) : fEq [.bl a, .bl b] = some (.sh (.bl (a == b))) := by cases a <;> cases b <;> rfl
theorem rng2_ev {a b : EE} {ρ : Rho} {i j : Int} (ha : a ρ = .ret (.sh (.int i), ρ)) (hb : b ρ = .ret (.sh (.int j), ρ)) (h1 : 0 ≤ i ∧ i ≤ 1000) (h2 : 0 ≤ j ∧ j ≤ 1000) : iRng2 (aCons a (aCons b aNil)) ρ = .ret (rangeD i (j - i).toNat, ρ) := by
  have k1 : j ≤ 16777216 + i := by omega
  have k2 : -(2 ^ 62 : Int) ≤ i := by omega
  have k3 : i < 2 ^ 62 := by omega
  have k4 : -(2 ^ 62 : Int) ≤ j := by omega
  have k5 : j < 2 ^ 62 := by omega
  simp [ha, hb, sizeLine_eq, k1, k2, k3, k4, k5]
  omega
theorem enum_ev {a : EE} {ρ ρ1 : Rho} {v : Vd} {xs : List D} (ha : a ρ = .ret (v, ρ1)) (hx : itemsOf v.d = some xs) : iEnum (aCons a aNil) ρ = .ret (enumD 0 xs, ρ1) := by
  simp [ha, hx, -itemsOf]
theorem unparted_ev {ns : List Str} {mo : Int} {ks : List (List Str)} (hl : ns.length ≤ 5) : ∃ v, f_Hunt_unparted_e c [hun c ns mo ks] = .ret v ∧ (v = .sh .non ∨ ∃ ds, v = .sh (.tup ds)) := by
  have hH : ∃ h, h = hun c ns mo ks := ⟨_, rfl⟩
  obtain ⟨h, hH⟩ := hH
  rw [← hH]
  have f1 : ∀ r : Rho, eFld (c "Hunt") "ones" (eVar 0) (.sh h :: r) = .ret (.sh (wD ns), .sh h :: r) := fun r => by rw [hH]; exact fld_ev rfl lk1
  have f3 : ∀ r : Rho, eFld (c "Hunt") "signs" (eVar 0) (.sh h :: r) = .ret (.sh (sgD ns ks), .sh h :: r) := fun r => by rw [hH]; exact fld_ev rfl lk3
  have inner : ∀ (i : Nat) (x : Str), i < ns.length → (∃ ρ2, eFor (iRng2 (aCons (eOp2 fAdd (eVar 1) (eC (.int 1))) (aCons (eOpN fLenS (aCons (eFld (c "Hunt") "ones" (eVar 0)) aNil)) aNil))) (gN 3) (eIf (eTest (eOpN fAll (aCons (eComp (iItems (eFld (c "Hunt") "signs" (eVar 0))) (gN 4) eYes (eOp2 fEq (eOp2 fIx (eVar 4) (eVar 1)) (eOp2 fIx (eVar 4) (eVar 3))) [4]) aNil))) (eRet (eTup (aCons (eVar 2) (aCons (eOp2 fIx (eFld (c "Hunt") "ones" (eVar 0)) (eVar 3)) aNil)))) eSkip) [3] [.sh h, .sh (.int i), .sh (.str x), .no, .no] = .ret (.nx ρ2) ∧ wipeR ρ2 [1, 2, 3] = [.sh h, .no, .no, .no, .no]) ∨
      ∃ v, eFor (iRng2 (aCons (eOp2 fAdd (eVar 1) (eC (.int 1))) (aCons (eOpN fLenS (aCons (eFld (c "Hunt") "ones" (eVar 0)) aNil)) aNil))) (gN 3) (eIf (eTest (eOpN fAll (aCons (eComp (iItems (eFld (c "Hunt") "signs" (eVar 0))) (gN 4) eYes (eOp2 fEq (eOp2 fIx (eVar 4) (eVar 1)) (eOp2 fIx (eVar 4) (eVar 3))) [4]) aNil))) (eRet (eTup (aCons (eVar 2) (aCons (eOp2 fIx (eFld (c "Hunt") "ones" (eVar 0)) (eVar 3)) aNil)))) eSkip) [3] [.sh h, .sh (.int i), .sh (.str x), .no, .no] = .ret (.rt v) ∧ ∃ ds, v = .sh (.tup ds) := by
    intro i x hi
    have it := rng2_ev (a := eOp2 fAdd (eVar 1) (eC (.int 1))) (b := eOpN fLenS (aCons (eFld (c "Hunt") "ones" (eVar 0)) aNil)) (ρ := [.sh h, .sh (.int i), .sh (.str x), .no, .no]) (i := (i : Int) + 1) (j := (ns.length : Nat)) (B2 (F := fAdd) (var_sh (i := 1) (d := .int i) rfl) (rfl : eC (.int 1) _ = .ret (.sh (.int 1), _)) rfl) (O1 (A1 (f1 _)) (len_ws ns)) (by omega) (by omega)
    unfold eFor
    rw [it]
    show (∃ ρ2, eForGo _ _ [3] _ [.sh h, .sh (.int i), .sh (.str x), .no, .no] = .ret (.nx ρ2) ∧ _) ∨ ∃ v, eForGo _ _ [3] _ [.sh h, .sh (.int i), .sh (.str x), .no, .no] = .ret (.rt v) ∧ _
    refine (go_det (g := gN 3) (vs := [3]) (ρ := [.sh h, .sh (.int i), .sh (.str x), .no, .no]) (P := fun v => ∃ ds, v = .sh (.tup ds)) (b := eIf (eTest (eOpN fAll (aCons (eComp (iItems (eFld (c "Hunt") "signs" (eVar 0))) (gN 4) eYes (eOp2 fEq (eOp2 fIx (eVar 4) (eVar 1)) (eOp2 fIx (eVar 4) (eVar 3))) [4]) aNil))) (eRet (eTup (aCons (eVar 2) (aCons (eOp2 fIx (eFld (c "Hunt") "ones" (eVar 0)) (eVar 3)) aNil)))) eSkip) (rangeD ((i : Int) + 1) (((ns.length : Nat) : Int) - ((i : Int) + 1)).toNat) fun d hd => ?_).imp (fun e => ⟨_, e, rfl⟩) fun ⟨v, e, p⟩ => ⟨v, e, p⟩
    · unfold rangeD at hd
      obtain ⟨j, hj, rfl⟩ := List.mem_map.mp hd
      have hj := List.mem_range.mp hj
      have ht : i + 1 + j < ns.length := by omega
      rw [show (i : Int) + 1 + (j : Int) = ((i + 1 + j : Nat) : Int) by omega]
      generalize i + 1 + j = t at ht
      refine ⟨[.sh h, .sh (.int i), .sh (.str x), .sh (.int t), .no], rfl, ?_⟩
      have it2 : iItems (eFld (c "Hunt") "signs" (eVar 0)) [.sh h, .sh (.int i), .sh (.str x), .sh (.int t), .no] = .ret (ks.map (fun k => rwB ns k), [.sh h, .sh (.int i), .sh (.str x), .sh (.int t), .no]) := by
        show ((eFld (c "Hunt") "signs" (eVar 0) _).bind _) = _
        rw [f3]
        rfl
      have cm := comp_of (f := fun k => rwB ns k) (L := ks) (h := fun k => some (.bl ((zRow ns k)[i]?.getD false == (zRow ns k)[t]?.getD false))) (k := 4) (tt := eYes) (te := eOp2 fEq (eOp2 fIx (eVar 4) (eVar 1)) (eOp2 fIx (eVar 4) (eVar 3))) it2 rfl fun k _ => by
        have r1 := ix_row (k := k) hi
        have r2 := ix_row (k := k) ht
        generalize rwB ns k = R at *
        exact turn_yes (v := .sh (.bl ((zRow ns k)[i]?.getD false == (zRow ns k)[t]?.getD false))) (ρ1 := [.sh h, .sh (.int i), .sh (.str x), .sh (.int t), .sh R]) (ρ2 := [.sh h, .sh (.int i), .sh (.str x), .sh (.int t), .sh R]) rfl (B2 (F := fEq) (B2 (F := fIx) (var_sh (i := 4) (d := R) rfl) (var_sh (i := 1) (d := .int i) rfl) r1) (B2 (F := fIx) (var_sh (i := 4) (d := R) rfl) (var_sh (i := 3) (d := .int t) rfl) r2) (eq_bl _ _)) rfl
      rw [fmapSome] at cm
      have al := all_boolsL (ks.map fun k => ((zRow ns k)[i]?.getD false == (zRow ns k)[t]?.getD false))
      rw [List.map_map] at al
      have te := testQ (O1 (A1 cm) al)
      cases hq : (ks.map fun k => ((zRow ns k)[i]?.getD false == (zRow ns k)[t]?.getD false)).all id with
      | false =>
        rw [hq] at te
        exact .inl ⟨_, If0 te rfl, rfl⟩
      | true =>
        rw [hq] at te
        obtain ⟨y, hy⟩ : ∃ y, fIx [wD ns, .int t] = some (.sh y) := by
          refine ⟨.str (ns[t]), ?_⟩
          have e : (wsD ns)[t]? = some (.str ns[t]) := by
            unfold wsD
            rw [List.getElem?_map, List.getElem?_eq_getElem ht]
            rfl
          show (atI (wsD ns) (t : Int)).map Vd.sh = _
          rw [atI_nat, e]
          rfl
        refine .inr ⟨.sh (.tup [.str x, y]), ifQ te (R1 (ρ1 := [.sh h, .sh (.int i), .sh (.str x), .sh (.int t), .no]) ?_), _, rfl⟩
        have as := A2 (var_sh (i := 2) (ρ := [.sh h, .sh (.int i), .sh (.str x), .sh (.int t), .no]) (d := .str x) rfl) (B2 (F := fIx) (f1 _) (var_sh (i := 3) (d := .int t) rfl) hy)
        show ((aCons _ _ _).bind _) = _
        rw [as]
        simp [sizeLine_eq]
  have all : (eFor (iEnum (aCons (eFld (c "Hunt") "ones" (eVar 0)) aNil)) (gT (gsC (gN 1) (gsC (gN 2) gsN))) (eFor (iRng2 (aCons (eOp2 fAdd (eVar 1) (eC (.int 1))) (aCons (eOpN fLenS (aCons (eFld (c "Hunt") "ones" (eVar 0)) aNil)) aNil))) (gN 3) (eIf (eTest (eOpN fAll (aCons (eComp (iItems (eFld (c "Hunt") "signs" (eVar 0))) (gN 4) eYes (eOp2 fEq (eOp2 fIx (eVar 4) (eVar 1)) (eOp2 fIx (eVar 4) (eVar 3))) [4]) aNil))) (eRet (eTup (aCons (eVar 2) (aCons (eOp2 fIx (eFld (c "Hunt") "ones" (eVar 0)) (eVar 3)) aNil)))) eSkip) [3]) [1, 2, 3] [.sh h, .no, .no, .no, .no] = .ret (.nx [.sh h, .no, .no, .no, .no])) ∨
      ∃ v, (eFor (iEnum (aCons (eFld (c "Hunt") "ones" (eVar 0)) aNil)) (gT (gsC (gN 1) (gsC (gN 2) gsN))) (eFor (iRng2 (aCons (eOp2 fAdd (eVar 1) (eC (.int 1))) (aCons (eOpN fLenS (aCons (eFld (c "Hunt") "ones" (eVar 0)) aNil)) aNil))) (gN 3) (eIf (eTest (eOpN fAll (aCons (eComp (iItems (eFld (c "Hunt") "signs" (eVar 0))) (gN 4) eYes (eOp2 fEq (eOp2 fIx (eVar 4) (eVar 1)) (eOp2 fIx (eVar 4) (eVar 3))) [4]) aNil))) (eRet (eTup (aCons (eVar 2) (aCons (eOp2 fIx (eFld (c "Hunt") "ones" (eVar 0)) (eVar 3)) aNil)))) eSkip) [3]) [1, 2, 3] [.sh h, .no, .no, .no, .no] = .ret (.rt v)) ∧ ∃ ds, v = .sh (.tup ds) := by
    generalize (eFor (iRng2 (aCons (eOp2 fAdd (eVar 1) (eC (.int 1))) (aCons (eOpN fLenS (aCons (eFld (c "Hunt") "ones" (eVar 0)) aNil)) aNil))) (gN 3) (eIf (eTest (eOpN fAll (aCons (eComp (iItems (eFld (c "Hunt") "signs" (eVar 0))) (gN 4) eYes (eOp2 fEq (eOp2 fIx (eVar 4) (eVar 1)) (eOp2 fIx (eVar 4) (eVar 3))) [4]) aNil))) (eRet (eTup (aCons (eVar 2) (aCons (eOp2 fIx (eFld (c "Hunt") "ones" (eVar 0)) (eVar 3)) aNil)))) eSkip) [3]) = B at *
    have it : iEnum (aCons (eFld (c "Hunt") "ones" (eVar 0)) aNil) [.sh h, .no, .no, .no, .no] = .ret (enumD 0 (wsD ns), [.sh h, .no, .no, .no, .no]) := enum_ev (f1 _) rfl
    unfold eFor
    rw [it]
    show eForGo _ B [1, 2, 3] (enumD 0 (wsD ns)) [.sh h, .no, .no, .no, .no] = _ ∨ ∃ v, eForGo _ B [1, 2, 3] (enumD 0 (wsD ns)) [.sh h, .no, .no, .no, .no] = _ ∧ _
    refine go_det (enumD 0 (wsD ns)) fun d hd => ?_
    obtain ⟨i, hi, e⟩ := List.getElem_of_mem hd
    have g := enumD_get 0 (wsD ns) i
    rw [List.getElem?_eq_getElem hi, e] at g
    have hi2 : i < ns.length := by
      rw [enumD_len] at hi
      simpa [wsD] using hi
    have w : (wsD ns)[i]? = some (.str ns[i]) := by
      unfold wsD
      rw [List.getElem?_map, List.getElem?_eq_getElem hi2]
      rfl
    rw [w] at g
    have g : d = .tup [.int ((0 + i : Nat) : Int), .str ns[i]] := Option.some.inj g
    subst g
    rw [Nat.zero_add]
    exact ⟨[.sh h, .sh (.int i), .sh (.str ns[i]), .no, .no], rfl, inner i ns[i] hi2⟩
  have un : ∀ o, b_Hunt_unparted_e c [.sh h, .no, .no, .no, .no] = .ret (.rt o) → f_Hunt_unparted_e c [h] = .ret o := fun o e => def_ev rfl e
  rcases all with e | ⟨v, e, ds, rfl⟩
  · exact ⟨_, un _ ((seq_nx e).trans (R1 rfl)), .inl rfl⟩
  · exact ⟨_, un _ (sq_rt e), .inr ⟨ds, rfl⟩⟩
end
end DL
set_option Elab.async false
set_option linter.all false
set_option maxRecDepth 100000
set_option maxHeartbeats 1000000
namespace DL
open PySem L2 PyProof.Rows
/-! ### the law's own _law_m_fewest -/
theorem newmemo_gen {i w : Nat} {md : Rho → D} {fe : EE} {b : ES} {ρ ρ1 : Rho} {v r : Vd} (h1 : fe ρ = .ret (v, ρ1)) (h2 : (ρ1.set i (.sh v.d)).all Slot.fre = true) (h3 : (ovK (md ρ1)).isEmpty = true) (h4 : b ((ρ1.set i (.sh v.d)).set w (.sh (.mem (md ρ1)))) = .ret (.rt r)) (h5 : r.fre = true) : eNewMemo i w md fe b ρ = .ret (.rt r) := by
  unfold eNewMemo req
  rw [h1]
  show (if (ρ1.set i (.sh v.d)).all Slot.fre = true ∧ (ovK (md ρ1)).isEmpty = true then _ else _) = _
  rw [if_pos ⟨h2, h3⟩, h4]
  show (if r.fre = true then Cm.ret (Out.rt r) else .bad) = _
  rw [if_pos h5]
theorem mdL_eq (ns : List Str) (ks : List (List Str)) (mo : Int) : mdL (wD ns) (kD9 ks) (.int mo) = mD ns mo ks [] := by
  have e : (ks.map wD).map (fun k => match k with
      | .lst xs => D.lst ((wsD ns).map fun n => .bl (xs.any fun x => D.eqv x n))
      | _ => .non) = ks.map fun k => .lst (ns.map fun n => .bl (decide (n ∈ k))) := by
    rw [List.map_map]
    refine List.map_congr_left fun k _ => ?_
    show D.lst ((ns.map D.str).map fun n => .bl ((wsD k).any fun x => D.eqv x n)) = _
    rw [List.map_map]
    congr 1
    refine List.map_congr_left fun n _ => ?_
    show D.bl ((wsD k).any fun x => D.eqv x (.str n)) = _
    rw [ws_any]
  have e0 : (wsD ns).length = ns.length := by simp [wsD]
  have e1 := congrArg (fun b : List D => D.tup [.int ((wsD ns).length : Nat), .int mo, .lst b]) e
  refine Eq.trans (?_ : _ = _) (e1.trans ?_)
  · rfl
  · show D.tup [.int ((wsD ns).length : Nat), .int mo, _] = _
    rw [e0]
/-! rows of signs -/
abbrev sB (g : List Bool) : D := .lst (g.map D.bl)
theorem sB_eqv : ∀ a b : List Bool, D.eqvs (a.map D.bl) (b.map D.bl) = decide (a = b)
  | [], [] => rfl
  | [], _ :: _ => by simp [D.eqvs]
  | _ :: _, [] => by simp [D.eqvs]
  | x :: a, y :: b => by
    have ih := sB_eqv a b
    show (D.eqv (.bl x) (.bl y) && D.eqvs (a.map D.bl) (b.map D.bl)) = _
    rw [ih, show D.eqv (.bl x) (.bl y) = (x == y) by simp [D.eqv], Bool.eq_iff_iff]
    simp
theorem sB_any (g : List Bool) (G : List (List Bool)) : (G.map sB).any (fun z => D.eqv z (sB g)) = decide (g ∈ G) := by
  induction G with
  | nil => rfl
  | cons a G ih =>
    show (D.eqv (sB a) (sB g) || (G.map sB).any _) = _
    rw [ih, show D.eqv (sB a) (sB g) = decide (a = g) from by
      show D.eqv (.lst (a.map D.bl)) (.lst (g.map D.bl)) = _
      rw [← sB_eqv]
      simp [D.eqv], ← Bool.decide_or]
    refine decide_eq_decide.mpr ?_
    rw [List.mem_cons]
    exact or_congr_left ⟨fun h => h.symm, fun h => h.symm⟩
theorem sB_dep (g : List Bool) : (sB g).dep ≤ 1 := by
  show (D.lst (g.map D.bl)).dep ≤ 1
  rw [D.dep]
  have : D.deps (g.map D.bl) ≤ 0 := deps_le fun d hd => by
    obtain ⟨b, _, rfl⟩ := List.mem_map.mp hd
    simp [D.dep]
  omega
theorem in_sB (g : List Bool) (G : List (List Bool)) : fInB false [sB g, .lst (G.map sB)] = some (.sh (.bl (decide (g ∈ G)))) := by
  have d1 := sB_dep g
  have d2 : D.deps (G.map sB) ≤ 1 := deps_le fun d hd => by
    obtain ⟨b, _, rfl⟩ := List.mem_map.mp hd
    exact sB_dep b
  have a := sB_any g G
  generalize G.map sB = M at *
  generalize sB g = x at *
  show (if x.dep ≤ 64 ∧ D.deps M ≤ 63 then some (Vd.sh (.bl (false ^^ M.any fun z => D.eqv z x))) else none) = _
  rw [if_pos ⟨by omega, by omega⟩, a, Bool.false_xor]
def enP (p : List Bool × Nat) : D := .tup [.int (p.2 : Int), sB p.1]
theorem enum_zip : ∀ (k : Nat) (G : List (List Bool)), enumD k (G.map sB) = (G.zipIdx k).map enP
  | _, [] => rfl
  | k, g :: G => by
    rw [List.map_cons, enumD, List.zipIdx_cons, List.map_cons, enum_zip (k + 1) G]
    rfl
theorem twice_any : ∀ (pre G : List (List Bool)), pre.Nodup → (G.zipIdx pre.length).any (fun p => decide (p.1 ∈ (pre ++ G).take p.2)) = !decide (pre ++ G).Nodup
  | pre, [], h => by simp [h]
  | pre, g :: G, h => by
    rw [List.zipIdx_cons, List.any_cons]
    have t : (pre ++ g :: G).take pre.length = pre := List.take_left' rfl
    show (decide (g ∈ (pre ++ g :: G).take pre.length) || _) = _
    rw [t]
    by_cases m : g ∈ pre
    · have nn : ¬ (pre ++ g :: G).Nodup := fun z => (List.nodup_append.mp z).2.2 g m g List.mem_cons_self rfl
      rw [decide_eq_true m, decide_eq_false nn]
      rfl
    · have nd : (pre ++ [g]).Nodup := List.nodup_append.mpr ⟨h, by simp, fun a ha b hb e => by
        rw [List.mem_singleton.mp hb] at e
        exact m (e ▸ ha)⟩
      have ih := twice_any (pre ++ [g]) G nd
      rw [List.length_append, List.length_singleton, List.append_assoc] at ih
      rw [decide_eq_false m, Bool.false_or]
      exact ih
theorem twice (G : List (List Bool)) : (G.zipIdx.any fun p => decide (p.1 ∈ G.take p.2)) = !decide G.Nodup := twice_any [] G List.nodup_nil
abbrev fwF (ns : List Str) (ks : List (List Str)) (mo : Int) (st : List Int) (W : D) (d : D) (s6 s7 s8 s9 s10 s11 : Slot) : Rho := [.sh (wD ns), .sh (kD9 ks), .sh (.int mo), .sh (zsD st), .sh W, .sh (.mem d), s6, s7, s8, s9, s10, s11]
abbrev fw1 : ES := (eSet 6 (eComp (iItems (eVar 4)) (gN 7) eYes (eComp (iItems (eVar 1)) (gN 8) eYes (eOp2 (fInB false) (eVar 7) (eVar 8)) [8]) [7]))
abbrev fw2 : ES := (eIf (eTest (eOpN fAny (aCons (eComp (iEnum (aCons (eVar 6) aNil)) (gT (gsC (gN 9) (gsC (gN 10) gsN))) eYes (eOp2 (fInB false) (eVar 10) (eSl (eVar 6) oNone (oSome (eVar 9)))) [9, 10]) aNil))) (eRet (eC .non)) eSkip)
abbrev fwC : ET := (eNot (eTest (eCall (f_l_m_is_enough 20) [] (aCons (eVar 0) (aCons (eVar 1) (aCons (eVar 2) (aCons (eVar 3) (aCons (eVar 11) (aCons (eVar 5) aNil)))))))))
abbrev fwB : ES := (eSet 11 (eOp2 fAdd (eVar 11) (eC (.int 1))))
theorem fw_eq : b_l_m_fewest = eNewMemo 4 5 (mdR 0 1 2) (eCall f_l_m_left [] (aCons (eVar 0) (aCons (eVar 3) (aCons (eVar 2) aNil)))) (eSeq fw1 (eSeq fw2 (eSeq (eSet 11 (eC (.int 0))) (eSeq (eWhile 17 fwC fwB) (eRet (eMove 11)))))) := rfl
section
variable {ns : List Str} {ks : List (List Str)} {mo : Int} {st : List Int} {d : D}
theorem fw1_ev (W : List Str) : fw1 (fwF ns ks mo st (wD W) d .no .no .no .no .no .no) = .ret (.nx (fwF ns ks mo st (wD W) d (.ow (.lst ((W.map (sgnW ks)).map sB))) .no .no .no .no .no)) := by
  have it : iItems (eVar 4) (fwF ns ks mo st (wD W) d .no .no .no .no .no .no) = .ret (W.map D.str, fwF ns ks mo st (wD W) d .no .no .no .no .no .no) := rfl
  have cm := comp_of (f := D.str) (L := W) (h := fun n => some (sB (sgnW ks n))) (k := 7) (tt := eYes) (te := eComp (iItems (eVar 1)) (gN 8) eYes (eOp2 (fInB false) (eVar 7) (eVar 8)) [8]) it rfl fun n _ => by
    have it2 : iItems (eVar 1) (fwF ns ks mo st (wD W) d .no (.sh (.str n)) .no .no .no .no) = .ret (ks.map wD, fwF ns ks mo st (wD W) d .no (.sh (.str n)) .no .no .no .no) := rfl
    have cm2 := comp_of (f := wD) (L := ks) (h := fun k => some (.bl (decide (n ∈ k)))) (k := 8) (tt := eYes) (te := eOp2 (fInB false) (eVar 7) (eVar 8)) it2 rfl fun k _ => by
      have w := in_ws n k false
      rw [Bool.false_xor] at w
      exact turn_yes (ρ1 := fwF ns ks mo st (wD W) d .no (.sh (.str n)) (.sh (wD k)) .no .no .no) (v := .sh (.bl (decide (n ∈ k)))) rfl (B2 (F := fInB false) (var_sh (i := 7) (d := .str n) rfl) (var_sh (i := 8) (d := wD k) rfl) w) rfl
    rw [fmapSome] at cm2
    refine turn_yes (ρ1 := fwF ns ks mo st (wD W) d .no (.sh (.str n)) .no .no .no .no) (ρ2 := fwF ns ks mo st (wD W) d .no (.sh (.str n)) .no .no .no .no) (v := .nw (sB (sgnW ks n))) rfl ?_ rfl
    rw [show sB (sgnW ks n) = .lst (ks.map fun k => D.bl (decide (n ∈ k))) by
      show D.lst ((ks.map _).map D.bl) = _
      rw [List.map_map]
      rfl]
    exact cm2
  rw [fmapSome] at cm
  refine (S1 (i := 6) cm).trans ?_
  rw [show W.map (fun n => sB (sgnW ks n)) = (W.map (sgnW ks)).map sB by rw [List.map_map]; rfl]
  rfl
theorem fw2_ev (W : D) (G : List (List Bool)) : ∃ s6, fw2 (fwF ns ks mo st W d (.ow (.lst (G.map sB))) .no .no .no .no .no) = if G.Nodup then .ret (.nx (fwF ns ks mo st W d s6 .no .no .no .no .no)) else .ret (.rt (.sh .non)) := by
  refine ⟨.sh (.lst (G.map sB)), ?_⟩
  have it : iEnum (aCons (eVar 6) aNil) (fwF ns ks mo st W d (.ow (.lst (G.map sB))) .no .no .no .no .no) = .ret (enumD 0 (G.map sB), fwF ns ks mo st W d (.sh (.lst (G.map sB))) .no .no .no .no .no) := enum_ev (v := .sh (.lst (G.map sB))) rfl rfl
  have cg := compS (g := (gT (gsC (gN 9) (gsC (gN 10) gsN)))) (tt := eYes) (te := eOp2 (fInB false) (eVar 10) (eSl (eVar 6) oNone (oSome (eVar 9)))) (vs := [9, 10]) (ρ := fwF ns ks mo st W d (.sh (.lst (G.map sB))) .no .no .no .no .no) enP (fun p => some (.bl (decide (p.1 ∈ G.take p.2)))) G.zipIdx [] fun p _ => by
    have s := sl_to (X := G.map sB) (k := p.2) (e := eVar 9) (i := 6) (ρ := fwF ns ks mo st W d (.sh (.lst (G.map sB))) .no .no (.sh (.int (p.2 : Int))) (.sh (sB p.1)) .no) rfl (var_sh (i := 9) rfl)
    rw [← List.map_take] at s
    have i2 := in_sB p.1 (G.take p.2)
    exact turn_yes (ρ1 := fwF ns ks mo st W d (.sh (.lst (G.map sB))) .no .no (.sh (.int (p.2 : Int))) (.sh (sB p.1)) .no) (v := .sh (.bl (decide (p.1 ∈ G.take p.2)))) rfl (B2 (F := fInB false) (var_sh (i := 10) (d := sB p.1) rfl) s i2) rfl
  rw [List.nil_append, fmapSome] at cg
  have cm : eComp (iEnum (aCons (eVar 6) aNil)) (gT (gsC (gN 9) (gsC (gN 10) gsN))) eYes (eOp2 (fInB false) (eVar 10) (eSl (eVar 6) oNone (oSome (eVar 9)))) [9, 10] (fwF ns ks mo st W d (.ow (.lst (G.map sB))) .no .no .no .no .no) = .ret (.nw (.lst (G.zipIdx.map fun p => D.bl (decide (p.1 ∈ G.take p.2)))), fwF ns ks mo st W d (.sh (.lst (G.map sB))) .no .no .no .no .no) := by
    unfold eComp
    rw [it, enum_zip]
    exact cg
  have an := any_boolsL (G.zipIdx.map fun p => decide (p.1 ∈ G.take p.2))
  rw [List.map_map, List.any_map] at an
  have tw := twice G
  rw [show (G.zipIdx.any (id ∘ fun p => decide (p.1 ∈ G.take p.2))) = !decide G.Nodup from tw] at an
  have t := testQ (O1 (A1 cm) an)
  by_cases q : G.Nodup
  · rw [if_pos q]
    rw [decide_eq_true q] at t
    exact If0 t rfl
  · rw [if_neg q]
    rw [decide_eq_false q] at t
    exact ifQ t rfl
theorem fwW_ev (hn : ns.length ≤ 5) (hk : ks.length ≤ 5) (hm : mo = 0 ∨ mo = 1) (hl : st.length = ns.length) (h0 : ∀ i ∈ st, 0 ≤ i) {M : Nat} (F : Few ns mo ks (clamp mo st) M) (hM : M ≤ 15) (W : D) (s6 : Slot) : ∀ (n j f : Nat), M = j + n → n < f → eWhile f fwC fwB (fwF ns ks mo st W (mD ns mo ks []) s6 .no .no .no .no (.sh (.int j))) = .ret (.nx (fwF ns ks mo st W (mD ns mo ks []) s6 .no .no .no .no (.sh (.int M)))) := by
  have tj : ∀ j : Nat, j ≤ 15 → fwC (fwF ns ks mo st W (mD ns mo ks []) s6 .no .no .no .no (.sh (.int j))) = .ret (!enB ns.length mo (rowsB ns ks) j (clamp mo st), fwF ns ks mo st W (mD ns mo ks []) s6 .no .no .no .no (.sh (.int j))) := fun j hj => by
    have e := men_ev hn hk hm 19 j st [] (by omega) (by omega) hl h0 (fun o h => by simp at h)
    generalize mD ns mo ks [] = Y at *
    exact not_ev (testQ (C1 (A6 (var_sh (i := 0) (d := wD ns) rfl) (var_sh (i := 1) (d := kD9 ks) rfl) (var_sh (i := 2) (d := .int mo) rfl) (var_sh (i := 3) (d := zsD st) rfl) (var_sh (i := 11) (d := .int j) rfl) (var_sh (i := 5) (d := .mem Y) rfl)) e))
  intro n
  induction n with
  | zero =>
    intro j f e hf
    have e : M = j := e
    subst e
    obtain ⟨f, rfl⟩ : ∃ k, f = k + 1 := ⟨f - 1, by omega⟩
    have t := tj M hM
    rw [F.yes] at t
    exact while_end t
  | succ n ih =>
    intro j f e hf
    obtain ⟨f, rfl⟩ : ∃ k, f = k + 1 := ⟨f - 1, by omega⟩
    have t := tj j (by omega)
    rw [F.no j (by omega)] at t
    have b : fwB (fwF ns ks mo st W (mD ns mo ks []) s6 .no .no .no .no (.sh (.int j))) = .ret (.nx (fwF ns ks mo st W (mD ns mo ks []) s6 .no .no .no .no (.sh (.int ((j + 1 : Nat) : Int))))) := S1 (i := 11) (B2 (F := fAdd) (z := .sh (.int ((j + 1 : Nat) : Int))) (var_sh (i := 11) (d := .int j) rfl) (rfl : eC (.int 1) _ = .ret (.sh (.int 1), _)) rfl)
    rw [while_nx t b]
    exact ih (j + 1) f (by omega) (by omega)
theorem fw_start : f_l_m_fewest [wD ns, kD9 ks, .int mo, zsD st] = f_l_m_fewest [wD ns, kD9 ks, .int mo, zsD st] ∧ eCall f_l_m_left [] (aCons (eVar 0) (aCons (eVar 3) (aCons (eVar 2) aNil))) [.sh (wD ns), .sh (kD9 ks), .sh (.int mo), .sh (zsD st), .no, .no, .no, .no, .no, .no, .no, .no] = .ret (.nw (wD (leftW ns mo st)), [.sh (wD ns), .sh (kD9 ks), .sh (.int mo), .sh (zsD st), .no, .no, .no, .no, .no, .no, .no, .no]) :=
  ⟨rfl, C1 (A3 (var_sh (i := 0) (d := wD ns) rfl) (var_sh (i := 3) (d := zsD st) rfl) (var_sh (i := 2) (d := .int mo) rfl)) mleft_ev⟩
theorem mfew_gen {r : Vd} (hr : r.fre = true) (h : eSeq fw1 (eSeq fw2 (eSeq (eSet 11 (eC (.int 0))) (eSeq (eWhile 17 fwC fwB) (eRet (eMove 11))))) (fwF ns ks mo st (wD (leftW ns mo st)) (mD ns mo ks []) .no .no .no .no .no .no) = .ret (.rt r)) : f_l_m_fewest [wD ns, kD9 ks, .int mo, zsD st] = .ret r := by
  refine def_ev rfl ?_
  rw [fw_eq]
  have md : mdR 0 1 2 [.sh (wD ns), .sh (kD9 ks), .sh (.int mo), .sh (zsD st), .no, .no, .no, .no, .no, .no, .no, .no] = mD ns mo ks [] := mdL_eq ns ks mo
  refine newmemo_gen fw_start.2 ?_ (by rw [md]; rfl) (by rw [md]; exact h) hr
  show (D.fre (wD ns) && (D.fre (kD9 ks) && (true && (D.fre (zsD st) && (D.fre (wD (leftW ns mo st)) && true))))) = true
  rw [fre_wD, fre_kD9, fre_zsD, fre_wD]
  rfl
theorem mfew_some (hn : ns.length ≤ 5) (hk : ks.length ≤ 5) (hm : mo = 0 ∨ mo = 1) (hl : st.length = ns.length) (h0 : ∀ i ∈ st, 0 ≤ i) {M : Nat} (nd : ((leftW ns mo (clamp mo st)).map (sgnW ks)).Nodup) (F : Few ns mo ks (clamp mo st) M) (hM : M ≤ 15) : f_l_m_fewest [wD ns, kD9 ks, .int mo, zsD st] = .ret (.sh (.int M)) := by
  rw [left_clamp] at nd
  refine mfew_gen rfl ?_
  rw [seq_nx (fw1_ev (leftW ns mo st))]
  obtain ⟨s6, e2⟩ := fw2_ev (ns := ns) (ks := ks) (mo := mo) (st := st) (d := mD ns mo ks []) (wD (leftW ns mo st)) ((leftW ns mo st).map (sgnW ks))
  rw [if_pos nd] at e2
  refine (seq_nx e2).trans ?_
  have w := fwW_ev hn hk hm hl h0 F hM (wD (leftW ns mo st)) s6 M 0 17 (by omega) (by omega)
  exact (seq_nx (S1 (i := 11) (rfl : eC (.int 0) _ = .ret (.sh (.int 0), _)))).trans ((seq_nx w).trans (R1 rfl))
theorem mfew_none (nd : ¬ ((leftW ns mo (clamp mo st)).map (sgnW ks)).Nodup) : f_l_m_fewest [wD ns, kD9 ks, .int mo, zsD st] = .ret (.sh .non) := by
  rw [left_clamp] at nd
  refine mfew_gen rfl ?_
  rw [seq_nx (fw1_ev (leftW ns mo st))]
  obtain ⟨s6, e2⟩ := fw2_ev (ns := ns) (ks := ks) (mo := mo) (st := st) (d := mD ns mo ks []) (wD (leftW ns mo st)) ((leftW ns mo st).map (sgnW ks))
  rw [if_neg nd] at e2
  exact sq_rt e2
end
end DL
set_option Elab.async false
set_option linter.all false
set_option maxRecDepth 100000
set_option maxHeartbeats 1000000
namespace DL
open PySem L2 PyProof.Rows
/-! ### what is due -/
def oiD : Option Nat → D
  | none => .non
  | some i => .int (i : Int)
/-- the first asking that leaves one less -/
def dueO (ns : List Str) (mo : Int) (ks : List (List Str)) (S : List Int) : Nat → Option Nat
  | 0 => none
  | m + 1 => (List.range ks.length).find? fun i => rB ns mo ks m S (zRow ns (kk ks i))
theorem go_find {g : EG} {b : ES} {vs : List Nat} {ρ : Rho} {p : Nat → Bool} : ∀ L : List Nat, (∀ i ∈ L, ∃ ρ1, g (.int (i : Int)) ρ = some ρ1 ∧ ((p i = true ∧ b ρ1 = .ret (.rt (.sh (.int (i : Int))))) ∨ (p i = false ∧ ∃ ρ2, b ρ1 = .ret (.nx ρ2) ∧ wipeR ρ2 vs = ρ))) →
    (L.find? p = none ∧ eForGo g b vs (L.map fun i : Nat => D.int (i : Int)) ρ = .ret (.nx ρ)) ∨ ∃ i, L.find? p = some i ∧ eForGo g b vs (L.map fun i : Nat => D.int (i : Int)) ρ = .ret (.rt (.sh (.int (i : Int))))
  | [], _ => .inl ⟨rfl, rfl⟩
  | i :: L, h => by
    obtain ⟨ρ1, e, w⟩ := h i List.mem_cons_self
    rcases w with ⟨hp, e2⟩ | ⟨hp, ρ2, e2, e3⟩
    · exact .inr ⟨i, by rw [List.find?_cons, hp], by simp [eForGo, e, e2]⟩
    · have ih := go_find L fun j hj => h j (List.mem_cons_of_mem _ hj)
      rw [List.find?_cons, hp]
      have s : eForGo g b vs ((i :: L).map fun i : Nat => D.int (i : Int)) ρ = eForGo g b vs (L.map fun i : Nat => D.int (i : Int)) ρ := by
        simp [eForGo, e, e2, e3]
      rw [s]
      exact ih
theorem callM_ev {md : List D → D} {F : FN} {as : EA} {ρ ρ1 : Rho} {ds : List D} {v : Vd} (h : as ρ = .ret (ds, ρ1)) (h1 : D.fres ds = true) (h2 : (ovK (md ds)).isEmpty = true) (h3 : F (ds ++ [.mem (md ds)]) = .ret v) (h4 : v.fre = true) : eCallM md F as ρ = .ret (v, ρ1) := by
  unfold eCallM req
  rw [h]
  show (if D.fres ds = true ∧ (ovK (md ds)).isEmpty = true then _ else _) = _
  rw [if_pos ⟨h1, h2⟩, h3]
  show (if v.fre = true then Cm.ret (v, ρ1) else .bad) = _
  rw [if_pos h4]
abbrev duF (ns : List Str) (ks : List (List Str)) (mo : Int) (st : List Int) (F : D) (s5 s6 s7 s8 : Slot) : Rho := [.sh (wD ns), .sh (kD9 ks), .sh (.int mo), .sh (zsD st), .sh F, s5, s6, s7, s8]
abbrev du1 : ES := (eIf (eOr (eTest (eOp2 (fIsN false) (eVar 4) (eC .non))) (eTest (eOp2 fEq (eVar 4) (eC (.int 0))))) (eRet (eC .non)) eSkip)
abbrev du2 : ES := (eSet 6 (eComp (iItems (eTup (aCons (eC (.bl true)) (aCons (eC (.bl false)) aNil)))) (gN 7) eYes (eCall f_l_m_after [] (aCons (eVar 0) (aCons (eVar 1) (aCons (eVar 3) (aCons (eVar 5) (aCons (eVar 7) aNil)))))) [7]))
abbrev du3 : ES := (eIf (eTest (eOpN fAll (aCons (eComp (iItems (eVar 6)) (gN 8) eYes (eCallM mdA (f_l_m_is_enough 20) (aCons (eVar 0) (aCons (eVar 1) (aCons (eVar 2) (aCons (eVar 8) (aCons (eOp2 (fInt2 fun a b => .int (a - b)) (eVar 4) (eC (.int 1))) aNil)))))) [8]) aNil))) (eRet (eMove 5)) eSkip)
theorem du_eq : b_l_due = eSeq (eSet 4 (eCall f_l_m_fewest [] (aCons (eVar 0) (aCons (eVar 1) (aCons (eVar 2) (aCons (eVar 3) aNil)))))) (eSeq du1 (eSeq (eFor (iRng1 (aCons (eOpN fLenS (aCons (eVar 1) aNil)) aNil)) (gN 5) (eSeq du2 du3) [5, 6]) (eRet (eC .non)))) := rfl
theorem A4 {e1 e2 e3 e4 : EE} {ρ : Rho} {v1 v2 v3 v4 : Vd} (h1 : e1 ρ = .ret (v1, ρ)) (h2 : e2 ρ = .ret (v2, ρ)) (h3 : e3 ρ = .ret (v3, ρ)) (h4 : e4 ρ = .ret (v4, ρ)) : aCons e1 (aCons e2 (aCons e3 (aCons e4 aNil))) ρ = .ret ([v1.d, v2.d, v3.d, v4.d], ρ) := by simp [h1, h2, h3, h4]
section
variable {ns : List Str} {ks : List (List Str)} {mo : Int} {st : List Int}
theorem du2_ev {F : D} {i : Nat} {s6 : Slot} (hi : i < ks.length) : du2 (duF ns ks mo st F (.sh (.int i)) s6 .no .no) = .ret (.nx (duF ns ks mo st F (.sh (.int i)) (.ow (.lst [zsD (aft ns (kk ks i) st true), zsD (aft ns (kk ks i) st false)])) .no .no)) := by
  have it : iItems (eTup (aCons (eC (.bl true)) (aCons (eC (.bl false)) aNil))) (duF ns ks mo st F (.sh (.int i)) s6 .no .no) = .ret ([true, false].map D.bl, duF ns ks mo st F (.sh (.int i)) s6 .no .no) := rfl
  have cm := comp_of (f := D.bl) (L := [true, false]) (h := fun a => some (zsD (aft ns (kk ks i) st a))) (k := 7) (tt := eYes) (te := eCall f_l_m_after [] (aCons (eVar 0) (aCons (eVar 1) (aCons (eVar 3) (aCons (eVar 5) (aCons (eVar 7) aNil)))))) it rfl fun a _ => by
    have e := after_ev (ns := ns) (st := st) (a := a) hi
    exact turn_yes (ρ1 := [.sh (wD ns), .sh (kD9 ks), .sh (.int mo), .sh (zsD st), .sh F, .sh (.int i), s6, .sh (.bl a), .no]) (v := .sh (zsD (aft ns (kk ks i) st a))) rfl (C1 (A5 (var_sh (i := 0) (d := wD ns) rfl) (var_sh (i := 1) (d := kD9 ks) rfl) (var_sh (i := 3) (d := zsD st) rfl) (var_sh (i := 5) (d := .int i) rfl) (var_sh (i := 7) (d := .bl a) rfl)) e) rfl
  exact S1 (i := 6) cm
theorem du3_ev {m : Nat} {k : List Str} {i : Nat} {r : Bool → Bool} (he : ∀ a, f_l_m_is_enough 20 [wD ns, kD9 ks, .int mo, zsD (aft ns k st a), .int m, .mem (mD ns mo ks [])] = .ret (.sh (.bl (r a)))) :
    du3 (duF ns ks mo st (.int ((m + 1 : Nat) : Int)) (.sh (.int i)) (.ow (.lst [zsD (aft ns k st true), zsD (aft ns k st false)])) .no .no) = if (r true && r false) = true then .ret (.rt (.sh (.int i))) else .ret (.nx (duF ns ks mo st (.int ((m + 1 : Nat) : Int)) (.sh (.int i)) (.sh (.lst [zsD (aft ns k st true), zsD (aft ns k st false)])) .no .no)) := by
  have sn := sub_nat m
  generalize ((m + 1 : Nat) : Int) = M at *
  have it : iItems (eVar 6) (duF ns ks mo st (.int M) (.sh (.int i)) (.ow (.lst [zsD (aft ns k st true), zsD (aft ns k st false)])) .no .no) = .ret ([true, false].map (fun a => zsD (aft ns k st a)), duF ns ks mo st (.int M) (.sh (.int i)) (.sh (.lst [zsD (aft ns k st true), zsD (aft ns k st false)])) .no .no) := rfl
  have cm := comp_of (f := fun a => zsD (aft ns k st a)) (L := [true, false]) (h := fun a => some (.bl (r a))) (k := 8) (tt := eYes) (te := eCallM mdA (f_l_m_is_enough 20) (aCons (eVar 0) (aCons (eVar 1) (aCons (eVar 2) (aCons (eVar 8) (aCons (eOp2 (fInt2 fun a b => .int (a - b)) (eVar 4) (eC (.int 1))) aNil)))))) it rfl fun a _ => by
    have e := he a
    have fz := fre_zsD (aft ns k st a)
    generalize zsD (aft ns k st a) = Z at *
    generalize (.lst [zsD (aft ns k st true), zsD (aft ns k st false)] : D) = Y at *
    have md : mdA [wD ns, kD9 ks, .int mo, Z, .int m] = mD ns mo ks [] := mdL_eq ns ks mo
    exact turn_yes (ρ1 := [.sh (wD ns), .sh (kD9 ks), .sh (.int mo), .sh (zsD st), .sh (.int M), .sh (.int i), .sh Y, .no, .sh Z]) (v := .sh (.bl (r a))) rfl (callM_ev (A5 (var_sh (i := 0) (d := wD ns) rfl) (var_sh (i := 1) (d := kD9 ks) rfl) (var_sh (i := 2) (d := .int mo) rfl) (var_sh (i := 8) (d := Z) rfl) (B2 (F := subI) (var_sh (i := 4) (d := .int M) rfl) (rfl : eC (.int 1) _ = .ret (.sh (.int 1), _)) sn)) (by
      show (D.fre (wD ns) && (D.fre (kD9 ks) && (true && (D.fre Z && (true && true))))) = true
      rw [fre_wD, fre_kD9, fz]
      rfl) (by show (ovK (mdA [wD ns, kD9 ks, .int mo, Z, .int m])).isEmpty = true; rw [md]; rfl) (by show f_l_m_is_enough 20 [wD ns, kD9 ks, .int mo, Z, .int m, .mem (mdA [wD ns, kD9 ks, .int mo, Z, .int m])] = _; rw [md]; exact e) rfl) rfl
  rw [fmapSome] at cm
  have al := all_boolsL ([true, false].map r)
  rw [List.map_map] at al
  have t := testQ (O1 (A1 cm) al)
  rw [show ([true, false].map r).all id = (r true && r false) by simp] at t
  cases hq : (r true && r false) with
  | true =>
    rw [hq] at t
    exact ifQ t rfl
  | false =>
    rw [hq] at t
    exact If0 t rfl
theorem du1_ev (F : D) (h : F = .non ∨ F = .int 0) : du1 (duF ns ks mo st F .no .no .no .no) = .ret (.rt (.sh .non)) := by
  have t1 := none_ev (i := 4) (ρ := duF ns ks mo st F .no .no .no .no) (d := F) rfl
  rcases h with rfl | rfl
  · exact ifQ (orT t1) rfl
  · exact ifQ (orS t1 (testQ (B2 (F := fEq) (var_sh (i := 4) (d := .int 0) rfl) (rfl : eC (.int 0) _ = .ret (.sh (.int 0), _)) (eq_int0 0)))) rfl
theorem due_some (hn : ns.length ≤ 5) (hk : ks.length ≤ 5) (hm : mo = 0 ∨ mo = 1) (hl : st.length = ns.length) (h0 : ∀ i ∈ st, 0 ≤ i) {M : Nat} (nd : ((leftW ns mo (clamp mo st)).map (sgnW ks)).Nodup) (F : Few ns mo ks (clamp mo st) M) (hM : M ≤ 15) : f_l_due [wD ns, kD9 ks, .int mo, zsD st] = .ret (.sh (oiD (dueO ns mo ks (clamp mo st) M))) := by
  have fw := mfew_some hn hk hm hl h0 nd F hM
  refine def_ev rfl ?_
  rw [du_eq]
  show eSeq _ _ [.sh (wD ns), .sh (kD9 ks), .sh (.int mo), .sh (zsD st), .no, .no, .no, .no, .no] = _
  have s1 := S1 (i := 4) (C1 (A4 (var_sh (i := 0) (ρ := [.sh (wD ns), .sh (kD9 ks), .sh (.int mo), .sh (zsD st), .no, .no, .no, .no, .no]) (d := wD ns) rfl) (var_sh (i := 1) (d := kD9 ks) rfl) (var_sh (i := 2) (d := .int mo) rfl) (var_sh (i := 3) (d := zsD st) rfl)) fw)
  refine (seq_nx s1).trans ?_
  cases M with
  | zero => exact sq_rt (du1_ev (.int 0) (.inr rfl))
  | succ m =>
    show eSeq du1 _ (duF ns ks mo st (.int ((m + 1 : Nat) : Int)) .no .no .no .no) = _
    have t1 := none_ev (i := 4) (ρ := duF ns ks mo st (.int ((m + 1 : Nat) : Int)) .no .no .no .no) (d := .int ((m + 1 : Nat) : Int)) rfl
    have d1 : du1 (duF ns ks mo st (.int ((m + 1 : Nat) : Int)) .no .no .no .no) = .ret (.nx (duF ns ks mo st (.int ((m + 1 : Nat) : Int)) .no .no .no .no)) := by
      have t2 := testQ (B2 (F := fEq) (var_sh (i := 4) (ρ := duF ns ks mo st (.int ((m + 1 : Nat) : Int)) .no .no .no .no) (d := .int ((m + 1 : Nat) : Int)) rfl) (rfl : eC (.int 0) _ = .ret (.sh (.int 0), _)) (eq_int0 (m + 1)))
      rw [decide_eq_false (Nat.succ_ne_zero m)] at t2
      exact If0 (orF t1 t2) rfl
    refine (seq_nx d1).trans ?_
    have ml : fLenS [kD9 ks] = some (.sh (.int (ks.length : Nat))) := by
      show some (Vd.sh (.int ((ks.map _).length : Nat))) = _
      rw [List.length_map]
    have itx := rng_ev (n := ks.length) (O1 (A1 (var_sh (i := 1) (ρ := duF ns ks mo st (.int ((m + 1 : Nat) : Int)) .no .no .no .no) (d := kD9 ks) rfl)) ml) rfl (by omega)
    rw [rangeD_nat] at itx
    have lp := go_find (g := gN 5) (b := eSeq du2 du3) (vs := [5, 6]) (ρ := duF ns ks mo st (.int ((m + 1 : Nat) : Int)) .no .no .no .no) (p := fun i => rB ns mo ks m (clamp mo st) (zRow ns (kk ks i))) (List.range ks.length) fun i hi => by
      have hi := List.mem_range.mp hi
      refine ⟨duF ns ks mo st (.int ((m + 1 : Nat) : Int)) (.sh (.int i)) .no .no .no, rfl, ?_⟩
      have e2 := du2_ev (ns := ns) (mo := mo) (st := st) (F := .int ((m + 1 : Nat) : Int)) (s6 := .no) hi
      have e3 := du3_ev (ns := ns) (ks := ks) (mo := mo) (st := st) (m := m) (k := kk ks i) (i := i) (r := fun a => enB ns.length mo (rowsB ns ks) m (bhd mo (clamp mo st) (zRow ns (kk ks i)) a)) fun a => by
        have := men_ev hn hk hm 19 m (aft ns (kk ks i) st a) [] (by omega) (by omega) (aft_len hl) (aft_pos h0) (fun o h => by simp at h)
        rw [clamp_aft] at this
        exact this
      show (rB ns mo ks m (clamp mo st) (zRow ns (kk ks i)) = true ∧ _) ∨ (rB ns mo ks m (clamp mo st) (zRow ns (kk ks i)) = false ∧ _)
      cases hq : rB ns mo ks m (clamp mo st) (zRow ns (kk ks i)) with
      | true =>
        rw [show (enB ns.length mo (rowsB ns ks) m (bhd mo (clamp mo st) (zRow ns (kk ks i)) true) && enB ns.length mo (rowsB ns ks) m (bhd mo (clamp mo st) (zRow ns (kk ks i)) false)) = true from hq, if_pos rfl] at e3
        exact .inl ⟨rfl, (seq_nx e2).trans e3⟩
      | false =>
        rw [show (enB ns.length mo (rowsB ns ks) m (bhd mo (clamp mo st) (zRow ns (kk ks i)) true) && enB ns.length mo (rowsB ns ks) m (bhd mo (clamp mo st) (zRow ns (kk ks i)) false)) = false from hq, if_neg (by decide)] at e3
        exact .inr ⟨rfl, _, (seq_nx e2).trans e3, rfl⟩
    have fo : ∀ o, eForGo (gN 5) (eSeq du2 du3) [5, 6] ((List.range ks.length).map fun i : Nat => D.int (i : Int)) (duF ns ks mo st (.int ((m + 1 : Nat) : Int)) .no .no .no .no) = .ret o → eFor (iRng1 (aCons (eOpN fLenS (aCons (eVar 1) aNil)) aNil)) (gN 5) (eSeq du2 du3) [5, 6] (duF ns ks mo st (.int ((m + 1 : Nat) : Int)) .no .no .no .no) = .ret o := fun o e => by
      unfold eFor
      rw [itx]
      exact e
    show _ = Cm.ret (Out.rt (.sh (oiD ((List.range ks.length).find? fun i => rB ns mo ks m (clamp mo st) (zRow ns (kk ks i))))))
    rcases lp with ⟨q, e⟩ | ⟨i, q, e⟩
    · rw [q]
      exact (seq_nx (fo _ e)).trans rfl
    · rw [q]
      exact sq_rt (fo _ e)
theorem due_none (nd : ¬ ((leftW ns mo (clamp mo st)).map (sgnW ks)).Nodup) : f_l_due [wD ns, kD9 ks, .int mo, zsD st] = .ret (.sh .non) := by
  have fw := mfew_none (ns := ns) (ks := ks) (mo := mo) (st := st) nd
  refine def_ev rfl ?_
  rw [du_eq]
  show eSeq _ _ [.sh (wD ns), .sh (kD9 ks), .sh (.int mo), .sh (zsD st), .no, .no, .no, .no, .no] = _
  have s1 := S1 (i := 4) (C1 (A4 (var_sh (i := 0) (ρ := [.sh (wD ns), .sh (kD9 ks), .sh (.int mo), .sh (zsD st), .no, .no, .no, .no, .no]) (d := wD ns) rfl) (var_sh (i := 1) (d := kD9 ks) rfl) (var_sh (i := 2) (d := .int mo) rfl) (var_sh (i := 3) (d := zsD st) rfl)) fw)
  refine (seq_nx s1).trans ?_
  exact sq_rt (du1_ev .non (.inl rfl))
end
end DL
set_option Elab.async false
set_option linter.all false
set_option maxRecDepth 100000
set_option maxHeartbeats 1000000
namespace DL
open PySem L2 PyProof.Rows
/-! ### the hunt's own: answers, what is behind them, the fewest -/
def anD (p : Nat × Bool) : D := .tup [.int p.1, .bl p.2]
abbrev beh (ns : List Str) (mo : Int) (ks : List (List Str)) (as : List (Nat × Bool)) (st : List Int) : List Int := as.foldl (fun st p => bhd mo st (zRow ns (kk ks p.1)) p.2) st
theorem beh_gst {ns : List Str} {mo : Int} {ks : List (List Str)} (hm : mo = 0 ∨ mo = 1) : ∀ (as : List (Nat × Bool)) (st : List Int), Gst ns.length mo st → Gst ns.length mo (beh ns mo ks as st)
  | [], st, g => g
  | p :: as, st, g => beh_gst hm as _ (gst_bhd (k := kk ks p.1) (a := p.2) g hm)
section
variable {c : Str → Addr}
abbrev cwB (c : Str → Addr) : ES := (eSeq (eIf (eOr (eNot (eTest (eCall f_is_list [] (aCons (eVar 3) aNil)))) (eOr (eTest (eOp2 fNe (eOpN fLenS (aCons (eVar 3) aNil)) (eC (.int 2)))) (eOr (eNot (eTest (eCall f_is_integer [] (aCons (eOp2 fIx (eVar 3) (eC (.int 0))) aNil)))) (eNot (eTest (eOpN fIsi (aCons (eOp2 fIx (eVar 3) (eC (.int 1))) (aCons (eC (.ty "bool")) aNil)))))))) (eRaise (c "BadAnswers") ["index"] (aCons (eVar 2) aNil)) eSkip)
    (eIf (eNot (eTest (eChain (fInt2 fun a b => .bl (decide (a ≤ b))) (fInt2 fun a b => .bl (decide (a < b))) (eC (.int 0)) (eOp2 fIx (eVar 3) (eC (.int 0))) (eVar 1)))) (eRaise (c "BadAnswers") ["index"] (aCons (eVar 2) aNil)) eSkip))
abbrev cwA (c : Str → Addr) : ES := (eIf (eNot (eTest (eCall f_is_list [] (aCons (eVar 0) aNil)))) (eRaise (c "BadAnswers") ["index"] (aCons (eC (.int 0)) aNil)) eSkip)
abbrev cwR : ES := (eRet (eComp (iItems (eVar 0)) (gN 3) eYes (eTup (aCons (eOp2 fIx (eVar 3) (eC (.int 0))) (aCons (eOp2 fIx (eVar 3) (eC (.int 1))) aNil))) [3]))
theorem cw_eq : b_checked_answers_e c = eSeq (cwA c) (eSeq (eFor (iEnum (aCons (eVar 0) aNil)) (gT (gsC (gN 2) (gsC (gN 3) gsN))) (cwB c) [2]) cwR) := rfl
theorem ix_an0 (p : Nat × Bool) : fIx [anD p, .int 0] = some (.sh (.int p.1)) := rfl
theorem ix_an1 (p : Nat × Bool) : fIx [anD p, .int 1] = some (.sh (.bl p.2)) := rfl
theorem isi_bl (b : Bool) : fIsi [.bl b, .ty "bool"] = some (.sh (.bl true)) := by simp [tyNames, isaB, D.tyN, D.asTy, asTys]
theorem cwB_ev {X : D} {n k : Nat} {p : Nat × Bool} (hp : p.1 < n) : cwB c [.sh X, .sh (.int n), .sh (.int k), .sh (anD p)] = .ret (.nx [.sh X, .sh (.int n), .sh (.int k), .sh (anD p)]) := by
  have l : f_is_list [anD p] = .ret (.sh (.bl true)) := ev_is_list_t _
  have i0 := ix_an0 p
  have i1 := ix_an1 p
  have ln : fLenS [anD p] = some (.sh (.int 2)) := rfl
  generalize anD p = A at *
  have v3 : eVar 3 [.sh X, .sh (.int n), .sh (.int k), .sh A] = .ret (.sh A, [.sh X, .sh (.int n), .sh (.int k), .sh A]) := var_sh (i := 3) rfl
  have x0 := B2 (F := fIx) v3 (rfl : eC (.int 0) _ = .ret (.sh (.int 0), _)) i0
  have x1 := B2 (F := fIx) v3 (rfl : eC (.int 1) _ = .ret (.sh (.int 1), _)) i1
  have t1 := orF (N1 (T1 (C1 (A1 v3) l))) (orF (T0 (B2 (F := fNe) (O1 (A1 v3) ln) (rfl : eC (.int 2) _ = .ret (.sh (.int 2), _)) (ne_same (.int 2) (by decide)))) (orF (N1 (T1 (C1 (A1 x0) (ev_is_int _)))) (N1 (T1 (O1 (A2 x1 (rfl : eC (.ty "bool") _ = .ret (.sh (.ty "bool"), _))) (isi_bl p.2))))))
  have ch := chain_ev (k := n) x0 (var_sh (i := 1) rfl)
  rw [decide_eq_true (show (0 : Int) ≤ (p.1 : Int) ∧ (p.1 : Int) < (n : Int) by omega)] at ch
  exact (seq_nx (If0 t1 rfl)).trans (If0 (N1 (T1 ch)) rfl)
theorem cw_go {X : D} {n : Nat} : ∀ (as : List (Nat × Bool)) (k : Nat) (s : Slot), (∀ p ∈ as, p.1 < n) → ∃ s', eForGo (gT (gsC (gN 2) (gsC (gN 3) gsN))) (cwB c) [2] (enumD k (as.map anD)) [.sh X, .sh (.int n), .no, s] = .ret (.nx [.sh X, .sh (.int n), .no, s'])
  | [], k, s, _ => ⟨s, rfl⟩
  | p :: as, k, s, h => by
    obtain ⟨s', ih⟩ := cw_go (X := X) as (k + 1) (.sh (anD p)) fun x hx => h x (List.mem_cons_of_mem _ hx)
    refine ⟨s', ?_⟩
    have b := cwB_ev (c := c) (X := X) (k := k) (h p List.mem_cons_self)
    show eForGo _ (cwB c) [2] (.tup [.int (k : Nat), anD p] :: enumD (k + 1) (as.map anD)) _ = _
    rw [eForGo]
    generalize cwB c = E at *
    show ((E [.sh X, .sh (.int n), .sh (.int (k : Nat)), .sh (anD p)]).bind _) = _
    rw [b]
    exact ih
theorem answers_ev {t : Bool} {n : Nat} {as : List (Nat × Bool)} (h : ∀ p ∈ as, p.1 < n) : f_checked_answers_e c [sqD t (as.map anD), .int n] = .ret (.nw (.lst (as.map anD))) := by
  refine def_ev rfl ?_
  rw [cw_eq]
  have l := ev_is_list_s t (as.map anD)
  have iv : itemsOf (sqD t (as.map anD)) = some (as.map anD) := by cases t <;> rfl
  obtain ⟨s', go⟩ := cw_go (c := c) (X := sqD t (as.map anD)) as 0 .no h
  generalize sqD t (as.map anD) = X at *
  show eSeq (cwA c) _ [.sh X, .sh (.int n), .no, .no] = _
  have e1 : cwA c [.sh X, .sh (.int n), .no, .no] = .ret (.nx [.sh X, .sh (.int n), .no, .no]) := If0 (N1 (T1 (C1 (A1 (var_sh (i := 0) rfl)) l))) rfl
  have it : iEnum (aCons (eVar 0) aNil) [.sh X, .sh (.int n), .no, .no] = .ret (enumD 0 (as.map anD), [.sh X, .sh (.int n), .no, .no]) := enum_ev (var_sh (i := 0) rfl) iv
  have e2 : eFor (iEnum (aCons (eVar 0) aNil)) (gT (gsC (gN 2) (gsC (gN 3) gsN))) (cwB c) [2] [.sh X, .sh (.int n), .no, .no] = .ret (.nx [.sh X, .sh (.int n), .no, s']) := by
    unfold eFor
    rw [it]
    exact go
  rw [seq_nx e1, seq_nx e2]
  have it2 : iItems (eVar 0) [.sh X, .sh (.int n), .no, s'] = .ret (as.map anD, [.sh X, .sh (.int n), .no, s']) := by
    simp [iv, -itemsOf]
  have cg := compS (g := gN 3) (tt := eYes) (te := eTup (aCons (eOp2 fIx (eVar 3) (eC (.int 0))) (aCons (eOp2 fIx (eVar 3) (eC (.int 1))) aNil))) (vs := [3]) (ρ := [.sh X, .sh (.int n), .no, .no]) anD (fun p => some (anD p)) as [] fun p _ => by
    have i0 := ix_an0 p
    have i1 := ix_an1 p
    have tu : eTup (aCons (eOp2 fIx (eVar 3) (eC (.int 0))) (aCons (eOp2 fIx (eVar 3) (eC (.int 1))) aNil)) [.sh X, .sh (.int n), .no, .sh (anD p)] = .ret (.sh (anD p), [.sh X, .sh (.int n), .no, .sh (anD p)]) := tup_ev (A2 (B2 (F := fIx) (var_sh (i := 3) rfl) (rfl : eC (.int 0) _ = .ret (.sh (.int 0), _)) i0) (B2 (F := fIx) (var_sh (i := 3) rfl) (rfl : eC (.int 1) _ = .ret (.sh (.int 1), _)) i1)) (by simp)
    exact turn_yes (ρ1 := [.sh X, .sh (.int n), .no, .sh (anD p)]) rfl tu rfl
  rw [List.nil_append, fmapSome] at cg
  refine R1 (ρ1 := [.sh X, .sh (.int n), .no, .no]) ?_
  unfold eComp
  rw [it2]
  exact cg
theorem behind_go {ns : List Str} {mo : Int} {ks : List (List Str)} {Y : D} : ∀ (as : List (Nat × Bool)) (st : List Int), (∀ p ∈ as, p.1 < ks.length) →
    eForGo (gT (gsC (gN 3) (gsC (gN 4) gsN))) (eSet 2 (eMeth (c "Hunt") "behind_answer" (f_Hunt_behind_answer_e c) [] (eVar 0) (aCons (eVar 2) (aCons (eVar 3) (aCons (eVar 4) aNil))))) [3, 4] (as.map anD) [.sh (hun c ns mo ks), .sh Y, .sh (zsD st), .no, .no] = .ret (.nx [.sh (hun c ns mo ks), .sh Y, .sh (zsD (beh ns mo ks as st)), .no, .no])
  | [], st, _ => rfl
  | p :: as, st, h => by
    have ih := behind_go (ns := ns) (mo := mo) (ks := ks) (Y := Y) as (bhd mo st (zRow ns (kk ks p.1)) p.2) fun x hx => h x (List.mem_cons_of_mem _ hx)
    have b := behind_ev (c := c) (ns := ns) (mo := mo) (st := st) (a := p.2) (kk_some (h p List.mem_cons_self))
    have s : eSet 2 (eMeth (c "Hunt") "behind_answer" (f_Hunt_behind_answer_e c) [] (eVar 0) (aCons (eVar 2) (aCons (eVar 3) (aCons (eVar 4) aNil)))) [.sh (hun c ns mo ks), .sh Y, .sh (zsD st), .sh (.int p.1), .sh (.bl p.2)] = .ret (.nx [.sh (hun c ns mo ks), .sh Y, .sh (zsD (bhd mo st (zRow ns (kk ks p.1)) p.2)), .sh (.int p.1), .sh (.bl p.2)]) :=
      S1 (i := 2) (meth_ev (var_sh (i := 0) rfl) mn2 (A3 (var_sh (i := 2) (d := zsD st) rfl) (var_sh (i := 3) (d := .int p.1) rfl) (var_sh (i := 4) (d := .bl p.2) rfl)) b)
    rw [List.map_cons, eForGo]
    generalize (eSet 2 (eMeth (c "Hunt") "behind_answer" (f_Hunt_behind_answer_e c) [] (eVar 0) (aCons (eVar 2) (aCons (eVar 3) (aCons (eVar 4) aNil))))) = E at *
    show ((E [.sh (hun c ns mo ks), .sh Y, .sh (zsD st), .sh (.int p.1), .sh (.bl p.2)]).bind _) = _
    rw [s]
    exact ih
theorem behind_all_ev {ns : List Str} {mo : Int} {ks : List (List Str)} (n0 : ns ≠ []) (hn : ns.length ≤ 5) {as : List (Nat × Bool)} (h : ∀ p ∈ as, p.1 < ks.length) : f_Hunt_behind_all_e c [hun c ns mo ks, .lst (as.map anD)] = .ret (.sh (zsD (beh ns mo ks as (List.replicate ns.length 0)))) := by
  have bg := begun9_ev (c := c) (mo := mo) (ks := ks) n0 hn
  have go := behind_go (c := c) (ns := ns) (mo := mo) (ks := ks) (Y := .lst (as.map anD)) as (List.replicate ns.length 0) h
  refine def_ev rfl ?_
  show eSeq (eSet 2 (eMeth (c "Hunt") "begun" (f_Hunt_begun_e c) [] (eVar 0) aNil)) _ [.sh (hun c ns mo ks), .sh (.lst (as.map anD)), .no, .no, .no] = _
  have s1 : eSet 2 (eMeth (c "Hunt") "begun" (f_Hunt_begun_e c) [] (eVar 0) aNil) [.sh (hun c ns mo ks), .sh (.lst (as.map anD)), .no, .no, .no] = .ret (.nx [.sh (hun c ns mo ks), .sh (.lst (as.map anD)), .sh (zsD (List.replicate ns.length 0)), .no, .no]) := S1 (i := 2) (meth_ev (var_sh (i := 0) rfl) mn3 (rfl : aNil _ = .ret ([], _)) bg)
  rw [seq_nx s1]
  generalize (eSet 2 (eMeth (c "Hunt") "behind_answer" (f_Hunt_behind_answer_e c) [] (eVar 0) (aCons (eVar 2) (aCons (eVar 3) (aCons (eVar 4) aNil))))) = E at *
  have f : eFor (iItems (eVar 1)) (gT (gsC (gN 3) (gsC (gN 4) gsN))) E [3, 4] [.sh (hun c ns mo ks), .sh (.lst (as.map anD)), .sh (zsD (List.replicate ns.length 0)), .no, .no] = .ret (.nx [.sh (hun c ns mo ks), .sh (.lst (as.map anD)), .sh (zsD (beh ns mo ks as (List.replicate ns.length 0))), .no, .no]) := by
    unfold eFor
    exact go
  refine (seq_nx f).trans ?_
  rfl
theorem mul_ii (a b : Int) (h : -1000 ≤ b ∧ b ≤ 1000) : fMul [.int a, .int b] = some (.sh (.int (a * b))) := by
  have h1 : -(2 ^ 64 : Int) < b := by omega
  have h2 : b < 2 ^ 64 := by omega
  show (if -(2 ^ 64) < b ∧ b < 2 ^ 64 then some (Vd.sh (.int (a * b))) else none) = _
  rw [if_pos ⟨h1, h2⟩]
theorem top_nat {ns : List Str} {mo : Int} (hn : ns.length ≤ 5) (hm : mo = 0 ∨ mo = 1) : ∃ T : Nat, (1 + 2 * mo) * (ns.length : Int) = (T : Int) ∧ T ≤ 15 := by
  rcases hm with rfl | rfl
  · exact ⟨ns.length, by omega, by omega⟩
  · exact ⟨3 * ns.length, by omega, by omega⟩
theorem fewest_find {ns : List Str} {mo : Int} {ks : List (List Str)} {st : List Int} (hn : ns.length ≤ 5) (hk : ks.length ≤ 5) (hm : mo = 0 ∨ mo = 1) (g : Gst ns.length mo st) {T : Nat} (hT : (1 + 2 * mo) * (ns.length : Int) = (T : Int)) (h15 : T ≤ 15) :
    f_Hunt_fewest_from_e c [hun c ns mo ks, zsD st] = .ret (.sh (oiD ((List.range (T + 1)).find? fun m => enB ns.length mo (rowsB ns ks) m st))) := by
  have en : ∀ m : Nat, m ≤ 15 → f_Hunt_is_enough_e c 20 [hun c ns mo ks, zsD st, .int m] = .ret (.sh (.bl (enB ns.length mo (rowsB ns ks) m st))) := fun m h => enough_ev hn hk hm 19 m st (by omega) (by omega) g
  have f1 : ∀ r : Rho, eFld (c "Hunt") "ones" (eVar 0) (.sh (hun c ns mo ks) :: r) = .ret (.sh (wD ns), .sh (hun c ns mo ks) :: r) := fun r => fld_ev rfl lk1
  have f2 : ∀ r : Rho, eFld (c "Hunt") "most" (eVar 0) (.sh (hun c ns mo ks) :: r) = .ret (.sh (.int mo), .sh (hun c ns mo ks) :: r) := fun r => fld_ev rfl lk2
  have s1 : eOp2 fMul (eOp2 fAdd (eC (.int 1)) (eOp2 fMul (eC (.int 2)) (eFld (c "Hunt") "most" (eVar 0)))) (eOpN fLenS (aCons (eFld (c "Hunt") "ones" (eVar 0)) aNil)) [.sh (hun c ns mo ks), .sh (zsD st), .no, .no] = .ret (.sh (.int T), [.sh (hun c ns mo ks), .sh (zsD st), .no, .no]) := by
    rw [← hT]
    exact B2 (F := fMul) (B2 (F := fAdd) (z := .sh (.int (1 + 2 * mo))) (rfl : eC (.int 1) _ = .ret (.sh (.int 1), _)) (B2 (F := fMul) (rfl : eC (.int 2) _ = .ret (.sh (.int 2), _)) (f2 _) (mul_ii 2 mo (by omega))) rfl) (O1 (A1 (f1 _)) (len_ws ns)) (mul_ii _ _ (by omega))
  have it : iRng1 (aCons (eOp2 fAdd (eVar 2) (eC (.int 1))) aNil) [.sh (hun c ns mo ks), .sh (zsD st), .sh (.int T), .no] = .ret ((List.range (T + 1)).map (fun i : Nat => D.int (i : Int)), [.sh (hun c ns mo ks), .sh (zsD st), .sh (.int T), .no]) := by
    rw [← rangeD_nat]
    exact rng_ev (B2 (F := fAdd) (z := .sh (.int ((T + 1 : Nat) : Int))) (var_sh (i := 2) (d := .int T) rfl) (rfl : eC (.int 1) _ = .ret (.sh (.int 1), _)) rfl) rfl (by omega)
  have lp := go_find (g := gN 3) (b := eIf (eTest (eMeth (c "Hunt") "is_enough" (f_Hunt_is_enough_e c 20) [] (eVar 0) (aCons (eVar 1) (aCons (eVar 3) aNil)))) (eRet (eMove 3)) eSkip) (vs := [3]) (ρ := [.sh (hun c ns mo ks), .sh (zsD st), .sh (.int T), .no]) (p := fun m => enB ns.length mo (rowsB ns ks) m st) (List.range (T + 1)) fun m hm2 => by
    have hm2 := List.mem_range.mp hm2
    have e := en m (by omega)
    have t := testQ (meth_ev (mn := "is_enough") (ρ := [.sh (hun c ns mo ks), .sh (zsD st), .sh (.int T), .sh (.int m)]) (var_sh (i := 0) rfl) mn4 (A2 (var_sh (i := 1) (d := zsD st) rfl) (var_sh (i := 3) (d := .int m) rfl)) e)
    refine ⟨[.sh (hun c ns mo ks), .sh (zsD st), .sh (.int T), .sh (.int m)], rfl, ?_⟩
    show (enB ns.length mo (rowsB ns ks) m st = true ∧ _) ∨ (enB ns.length mo (rowsB ns ks) m st = false ∧ _)
    cases hq : enB ns.length mo (rowsB ns ks) m st with
    | false =>
      rw [hq] at t
      exact .inr ⟨rfl, _, If0 t rfl, rfl⟩
    | true =>
      rw [hq] at t
      exact .inl ⟨rfl, ifQ t (R1 (ρ1 := [.sh (hun c ns mo ks), .sh (zsD st), .sh (.int T), .sh (.int m)]) rfl)⟩
  have fo : ∀ o, eForGo (gN 3) (eIf (eTest (eMeth (c "Hunt") "is_enough" (f_Hunt_is_enough_e c 20) [] (eVar 0) (aCons (eVar 1) (aCons (eVar 3) aNil)))) (eRet (eMove 3)) eSkip) [3] ((List.range (T + 1)).map fun i : Nat => D.int (i : Int)) [.sh (hun c ns mo ks), .sh (zsD st), .sh (.int T), .no] = .ret o →
      eFor (iRng1 (aCons (eOp2 fAdd (eVar 2) (eC (.int 1))) aNil)) (gN 3) (eIf (eTest (eMeth (c "Hunt") "is_enough" (f_Hunt_is_enough_e c 20) [] (eVar 0) (aCons (eVar 1) (aCons (eVar 3) aNil)))) (eRet (eMove 3)) eSkip) [3] [.sh (hun c ns mo ks), .sh (zsD st), .sh (.int T), .no] = .ret o := fun o e => by
    unfold eFor
    rw [it]
    exact e
  have un : ∀ o, b_Hunt_fewest_from_e c [.sh (hun c ns mo ks), .sh (zsD st), .no, .no] = .ret (.rt o) → f_Hunt_fewest_from_e c [hun c ns mo ks, zsD st] = .ret o := fun o e => def_ev rfl e
  rcases lp with ⟨q, e⟩ | ⟨v, q, e⟩
  · rw [q]
    exact un _ ((seq_nx (S1 (i := 2) s1)).trans ((seq_nx (fo _ e)).trans (R1 rfl)))
  · rw [q]
    exact un _ ((seq_nx (S1 (i := 2) s1)).trans (sq_rt (fo _ e)))
theorem find_range {p : Nat → Bool} {n M : Nat} (hM : M < n) (h1 : p M = true) (h2 : ∀ m, m < M → p m = false) : (List.range n).find? p = some M := by
  have go : ∀ (k a : Nat), a ≤ M → M < a + k → (List.range' a k).find? p = some M := by
    intro k
    induction k with
    | zero => intro a h3 h4; omega
    | succ k ih =>
      intro a h3 h4
      rw [List.range'_succ, List.find?_cons]
      by_cases e : a = M
      · subst e
        rw [h1]
      · rw [h2 a (by omega)]
        exact ih (a + 1) (by omega) (by omega)
  rw [List.range_eq_range']
  exact go n 0 (Nat.zero_le _) (by omega)
theorem fewest_some {ns : List Str} {mo : Int} {ks : List (List Str)} {st : List Int} (hn : ns.length ≤ 5) (hk : ks.length ≤ 5) (hm : mo = 0 ∨ mo = 1) (g : Gst ns.length mo st) {M : Nat} (F : Few ns mo ks st M) (hM : (M : Int) ≤ (1 + 2 * mo) * (ns.length : Int)) : f_Hunt_fewest_from_e c [hun c ns mo ks, zsD st] = .ret (.sh (.int M)) := by
  obtain ⟨T, hT, h15⟩ := top_nat (ns := ns) hn hm
  rw [fewest_find hn hk hm g hT h15, find_range (M := M) (by omega) F.yes F.no]
  rfl
theorem fewest_none {ns : List Str} {mo : Int} {ks : List (List Str)} {st : List Int} (hn : ns.length ≤ 5) (hk : ks.length ≤ 5) (hm : mo = 0 ∨ mo = 1) (g : Gst ns.length mo st) (h : ∀ m, enB ns.length mo (rowsB ns ks) m st = false) : f_Hunt_fewest_from_e c [hun c ns mo ks, zsD st] = .ret (.sh .non) := by
  obtain ⟨T, hT, h15⟩ := top_nat (ns := ns) hn hm
  rw [fewest_find hn hk hm g hT h15, show ((List.range (T + 1)).find? fun m => enB ns.length mo (rowsB ns ks) m st) = none from List.find?_eq_none.mpr fun m _ z => by rw [h m] at z; exact Bool.noConfusion z]
  rfl
theorem ix_head (d : D) (ds : List D) : fIx [.lst (d :: ds), .int 0] = some (.sh d) := by
  show (atI (d :: ds) 0).map Vd.sh = _
  rw [show (0 : Int) = ((0 : Nat) : Int) from rfl, atI_nat]
  rfl
/-- where m + 1 are enough, and one is needed, one comes first -/
theorem due_is {ns : List Str} {mo : Int} {ks : List (List Str)} {st : List Int} {m : Nat} (F : Few ns mo ks st (m + 1)) : ∃ i, dueO ns mo ks st (m + 1) = some i ∧ i < ks.length ∧ rB ns mo ks m st (zRow ns (kk ks i)) = true := by
  have h2 : ¬ leftN ns.length mo st < 2 := fun z => by
    have := (few_zero F).mpr z
    omega
  have en := F.yes
  have ex : ∃ i ∈ List.range ks.length, rB ns mo ks m st (zRow ns (kk ks i)) = true := by
    rw [enB, decide_eq_false h2, Bool.false_or, List.any_map] at en
    obtain ⟨k, hk2, e⟩ := List.any_eq_true.mp en
    obtain ⟨i, hi, e2⟩ := List.getElem_of_mem hk2
    refine ⟨i, List.mem_range.mpr hi, ?_⟩
    have : kk ks i = k := by
      unfold kk
      rw [List.getElem?_eq_getElem hi, e2]
      rfl
    rw [this]
    exact e
  obtain ⟨i0, h0, e0⟩ := ex
  cases hq : dueO ns mo ks st (m + 1) with
  | none =>
    have hq : (List.range ks.length).find? (fun i => rB ns mo ks m st (zRow ns (kk ks i))) = none := hq
    have := (List.find?_eq_none.mp hq) i0 h0
    exact absurd e0 this
  | some i =>
    have hq : (List.range ks.length).find? (fun i => rB ns mo ks m st (zRow ns (kk ks i))) = some i := hq
    exact ⟨i, rfl, List.mem_range.mp (List.mem_of_find?_eq_some hq), List.find?_some (p := fun i => rB ns mo ks m st (zRow ns (kk ks i))) hq⟩
theorem first_is {ns : List Str} {mo : Int} {ks : List (List Str)} {m : Nat} {st : List Int} (hn : ns.length ≤ 5) (hk : ks.length ≤ 5) (hm : mo = 0 ∨ mo = 1) (g : Gst ns.length mo st) (h15 : m + 1 ≤ 15) {i : Nat} (hd : dueO ns mo ks st (m + 1) = some i) :
    f_first_right_e c [hun c ns mo ks, zsD st, .int ((m + 1 : Nat) : Int)] = .ret (.sh (.int i)) := by
  have hd : (List.range ks.length).find? (fun i => rB ns mo ks m st (zRow ns (kk ks i))) = some i := hd
  have ih : ∀ st, Gst ns.length mo st → f_Hunt_is_enough_e c 20 [hun c ns mo ks, zsD st, .int m] = .ret (.sh (.bl (enB ns.length mo (rowsB ns ks) m st))) := fun st g => enough_ev hn hk hm 19 m st (by omega) (by omega) g
  have it := it_signs (c := c) (ns := ns) (mo := mo) (ks := ks) (r := [.sh (zsD st), .sh (.int ((m + 1 : Nat) : Int)), .no]) hk
  have cm := comp_of (f := fun i : Nat => D.int (i : Int)) (L := List.range ks.length) (h := fun i => if rB ns mo ks m st (zRow ns (kk ks i)) = true then some (D.int (i : Int)) else none) (k := 3) (tt := eTest (eMeth (c "Hunt") "is_right" (f_Hunt_is_right_e c (f_Hunt_is_enough_e c 20)) [] (eVar 0) (aCons (eVar 1) (aCons (eVar 3) (aCons (eVar 2) aNil))))) (te := eVar 3) it rfl fun i hi => by
    have r := right_ev (c := c) hm ih g (List.mem_range.mp hi)
    generalize ((m + 1 : Nat) : Int) = M at *
    exact turn_if (ρ1 := [.sh (hun c ns mo ks), .sh (zsD st), .sh (.int M), .sh (.int i)]) rfl (testQ (meth_ev (var_sh (i := 0) rfl) mn5 (A3 (var_sh (i := 1) (d := zsD st) rfl) (var_sh (i := 3) (d := .int i) rfl) (var_sh (i := 2) (d := .int M) rfl)) r)) (var_sh (i := 3) (d := .int i) rfl) rfl
  have fl : ∀ L : List Nat, L.filterMap (fun i => if rB ns mo ks m st (zRow ns (kk ks i)) = true then some (D.int (i : Int)) else none) = (L.filter fun i => rB ns mo ks m st (zRow ns (kk ks i))).map fun i : Nat => D.int (i : Int) := fun L => by
    induction L with
    | nil => rfl
    | cons i L ih2 =>
      rw [List.filterMap_cons, List.filter_cons]
      cases rB ns mo ks m st (zRow ns (kk ks i)) with
      | true => rw [if_pos rfl, if_pos rfl, ih2]; rfl
      | false => rw [if_neg (by decide), if_neg (by decide)]; exact ih2
  rw [fl] at cm
  have hh := List.head?_filter (l := List.range ks.length) (p := fun i => rB ns mo ks m st (zRow ns (kk ks i)))
  rw [hd] at hh
  cases hL : (List.range ks.length).filter fun i => rB ns mo ks m st (zRow ns (kk ks i)) with
  | nil => rw [hL] at hh; cases hh
  | cons j L =>
    rw [hL] at hh cm
    have hj : j = i := Option.some.inj hh
    subst hj
    exact def_ev rfl (R1 (B2 (F := fIx) cm (rfl : eC (.int 0) _ = .ret (.sh (.int 0), _)) (ix_head _ _)))
end
end DL
set_option Elab.async false
set_option linter.all false
set_option maxRecDepth 100000
set_option maxHeartbeats 1000000
namespace DL
open PySem L2 PyProof.Rows
/-! ### hunts, made and asked -/
theorem hunt_gen {i : Nat} {C : Addr} {fnm : Str} {f : FI} {md : List D → D} {as : EA} {b : ES} {ρ ρ1 : Rho} {ds vs : List D} {ns : List Str} {v : Vd} (ha : as ρ = .ret (ds, ρ1)) (hf : f ds = .ret (ns, vs)) (h1 : ρ1.all Slot.fre = true) (h2 : D.fres vs = true) (h3 : (ovK (md vs)).isEmpty = true)
    (hb : b (ρ1.set i (.sh (.ins C (ns ++ [fnm]) (vs ++ [.mem (md vs)])))) = .ret (.rt v)) (hv : v.fre = true) : eHunt i C fnm f md as b ρ = .ret (.rt v) := by
  unfold eHunt
  rw [ha]
  show ((f ds).at ρ1).bind (eHuntK i C fnm md b) = _
  rw [hf]
  show eHuntK i C fnm md b ((ns, vs), ρ1) = _
  unfold eHuntK req
  rw [if_pos ⟨h1, h2, h3⟩]
  show ((b (ρ1.set i (.sh (.ins C (ns ++ [fnm]) (vs ++ [.mem (md vs)]))))).noex.bind fun o => opt (outRt o) fun v => if v.fre = true then .ret (Out.rt v) else .bad) = _
  rw [hb]
  show (if v.fre = true then Cm.ret (Out.rt v) else .bad) = _
  rw [if_pos hv]
theorem retHunt_gen {C : Addr} {fnm : Str} {g : FI} {md : List D → D} {as : EA} {F : FN} {ρ ρ1 : Rho} {ds vs : List D} {ns : List Str} {v : Vd} (ha : as ρ = .ret (ds, ρ1)) (hg : g ds = .ret (ns, vs)) (h2 : D.fres vs = true) (h3 : (ovK (md vs)).isEmpty = true) (hF : F [.ins C (ns ++ [fnm]) (vs ++ [.mem (md vs)])] = .ret v) (hv : v.fre = true) : eRetHunt C fnm g md as F ρ = .ret (.rt v) := by
  unfold eRetHunt
  rw [ha]
  show ((g ds).at ρ1).bind (eRetHuntK C fnm md F) = _
  rw [hg]
  show eRetHuntK C fnm md F ((ns, vs), ρ1) = _
  unfold eRetHuntK req
  rw [if_pos ⟨h2, h3⟩]
  show ((F [.ins C (ns ++ [fnm]) (vs ++ [.mem (md vs)])]).noex.bind fun r => if r.fre = true then .ret (Out.rt r) else .bad) = _
  rw [hF]
  show (if v.fre = true then Cm.ret (Out.rt v) else .bad) = _
  rw [if_pos hv]
section
variable {c : Str → Addr}
theorem init_m {ns : List Str} {ks : List (List Str)} {i : Int} {SD AD : D} (e1 : f_checked_suspects_e c [SD] = .ret (.nw (wD ns))) (e2 : f_checked_askings_e c [AD] = .ret (.nw (.lst (ks.map wD)))) (hi : i = 0 ∨ i = 1) : f_Hunt_init_m c [SD, AD, .int i] = .ret (hF3, [wD ns, .int i, sgD ns ks]) := by
  show ((f_Hunt_init_e c [SD, AD, .int i]).bind _) = _
  rw [hunt_ok e1 e2 hi]
  show (if ("known" : Str) ∉ hF3 ∧ hF3.length < 1000 then Cm.ret (hF3, [wD ns, .int i, sgD ns ks]) else .bad) = _
  rw [if_pos ⟨by decide, by decide⟩]
theorem fre_sg (ns : List Str) (ks : List (List Str)) (i : Int) : D.fres [wD ns, .int i, sgD ns ks] = true := by
  show (D.fre (wD ns) && (true && (D.fre (.lst (ks.map fun k => .lst (ns.map fun n => .bl (decide (n ∈ k))))) && true))) = true
  rw [fre_wD, D.fre, fres_of fun d hd => by
    obtain ⟨k, _, rfl⟩ := List.mem_map.mp hd
    rw [D.fre]
    exact fres_of fun d hd => by
      obtain ⟨n, _, rfl⟩ := List.mem_map.mp hd
      rfl]
  rfl
theorem md_eq (ns : List Str) (ks : List (List Str)) (mo : Int) : mdH [wD ns, .int mo, sgD ns ks] = memD ns mo ks := by
  show D.tup [.int ((wsD ns).length : Nat), .int mo, sgD ns ks] = _
  rw [show (wsD ns).length = ns.length by simp [wsD]]
structure Hu (c : Str → Addr) (ns : List Str) (ks : List (List Str)) (mo : Int) (SD AD : D) : Prop where
  ne : ns ≠ []
  le : ns.length ≤ 5
  nd : ns.Nodup
  lk : ks.length ≤ 5
  mo : mo = 0 ∨ mo = 1
  e1 : f_checked_suspects_e c [SD] = .ret (.nw (wD ns))
  e2 : f_checked_askings_e c [AD] = .ret (.nw (.lst (ks.map wD)))
  k1 : D.fre SD = true
  k2 : D.fre AD = true
  ln : fLenS [AD] = some (.sh (.int (ks.length : Nat)))
variable {ns : List Str} {ks : List (List Str)} {mo : Int} {SD AD : D}
theorem gst_begun {n : Nat} {mo : Int} (hm : mo = 0 ∨ mo = 1) : Gst n mo (List.replicate n 0) := ⟨List.length_replicate, fun i hi => by
  rw [List.eq_of_mem_replicate hi]
  omega⟩
abbrev S0 (ns : List Str) : List Int := List.replicate ns.length 0
theorem fre_an (t : Bool) (as : List (Nat × Bool)) : D.fre (sqD t (as.map anD)) = true := by
  have h : D.fres (as.map anD) = true := fres_of fun d hd => by
    obtain ⟨p, _, rfl⟩ := List.mem_map.mp hd
    rfl
  cases t
  · show D.fre (.lst (as.map anD)) = true
    rw [D.fre]
    exact h
  · show D.fre (.tup (as.map anD)) = true
    rw [D.fre]
    exact h
abbrev an1 (c : Str → Addr) : ES := (eSet 5 (eMeth (c "Hunt") "behind_all" (f_Hunt_behind_all_e c) [] (eVar 4) (aCons (eCall (f_checked_answers_e c) [] (aCons (eVar 2) (aCons (eOpN fLenS (aCons (eVar 1) aNil)) aNil))) aNil)))
abbrev an2 (c : Str → Addr) : ES := (eSet 6 (eMeth (c "Hunt") "fewest_from" (f_Hunt_fewest_from_e c) [] (eVar 4) (aCons (eVar 5) aNil)))
abbrev an3 (c : Str → Addr) : EE := (eIfE (eOr (eTest (eOp2 (fIsN false) (eVar 6) (eC .non))) (eTest (eOp2 fEq (eVar 6) (eC (.int 0))))) (eC .non) (eCall (f_first_right_e c) [] (aCons (eVar 4) (aCons (eVar 5) (aCons (eVar 6) aNil)))))
theorem an_eq : b_ask_next_e c = eHunt 4 (c "Hunt") "known" (fun ds => (f_Hunt_init_m c) (ds ++ [])) mdH (aCons (eVar 0) (aCons (eVar 1) (aCons (eVar 3) aNil))) (eSeq (an1 c) (eSeq (an2 c) (eRet (an3 c)))) := rfl
theorem mn8 : ("behind_all" : Str) ∉ hF := by decide
theorem ask_gen (h : Hu c ns ks mo SD AD) {t : Bool} {as : List (Nat × Bool)} (ha : ∀ p ∈ as, p.1 < ks.length) {F r : D} (hr : D.fre r = true) (hf : f_Hunt_fewest_from_e c [hun c ns mo ks, zsD (beh ns mo ks as (S0 ns))] = .ret (.sh F))
    (h3 : ∀ ρ : Rho, ρ = [.sh SD, .sh AD, .sh (sqD t (as.map anD)), .sh (.int mo), .sh (hun c ns mo ks), .sh (zsD (beh ns mo ks as (S0 ns))), .sh F] → an3 c ρ = .ret (.sh r, ρ)) : f_ask_next_e c [SD, AD, sqD t (as.map anD), .int mo] = .ret (.sh r) := by
  refine def_ev rfl ?_
  rw [an_eq]
  have ca := answers_ev (c := c) (t := t) (n := ks.length) (as := as) ha
  have fa := fre_an t as
  generalize sqD t (as.map anD) = X at *
  show eHunt _ _ _ _ _ _ _ [.sh SD, .sh AD, .sh X, .sh (.int mo), .no, .no, .no] = _
  refine hunt_gen (ρ1 := [.sh SD, .sh AD, .sh X, .sh (.int mo), .no, .no, .no]) (A3 (var_sh (i := 0) rfl) (var_sh (i := 1) (d := AD) rfl) (var_sh (i := 3) (d := .int mo) rfl)) (init_m h.e1 h.e2 h.mo) ?_ (fre_sg ns ks mo) rfl ?_ hr
  · show (D.fre SD && (D.fre AD && (D.fre X && true))) = true
    rw [h.k1, h.k2, fa]
    rfl
  · rw [md_eq]
    show eSeq _ _ [.sh SD, .sh AD, .sh X, .sh (.int mo), .sh (hun c ns mo ks), .no, .no] = _
    have b := behind_all_ev (c := c) (mo := mo) h.ne h.le ha
    have s1 : an1 c [.sh SD, .sh AD, .sh X, .sh (.int mo), .sh (hun c ns mo ks), .no, .no] = .ret (.nx [.sh SD, .sh AD, .sh X, .sh (.int mo), .sh (hun c ns mo ks), .sh (zsD (beh ns mo ks as (S0 ns))), .no]) := S1 (i := 5) (meth_ev (var_sh (i := 4) rfl) mn8 (A1 (C1 (A2 (var_sh (i := 2) (d := X) rfl) (O1 (A1 (var_sh (i := 1) (d := AD) rfl)) h.ln)) ca)) b)
    have s2 : an2 c [.sh SD, .sh AD, .sh X, .sh (.int mo), .sh (hun c ns mo ks), .sh (zsD (beh ns mo ks as (S0 ns))), .no] = .ret (.nx [.sh SD, .sh AD, .sh X, .sh (.int mo), .sh (hun c ns mo ks), .sh (zsD (beh ns mo ks as (S0 ns))), .sh F]) := S1 (i := 6) (meth_ev (var_sh (i := 4) rfl) mn7 (A1 (var_sh (i := 5) (d := zsD (beh ns mo ks as (S0 ns))) rfl)) hf)
    rw [seq_nx s1, seq_nx s2]
    exact R1 (h3 _ rfl)
theorem few_15 (h : Hu c ns ks mo SD AD) {M : Nat} (hM : (M : Int) ≤ (1 + 2 * mo) * (ns.length : Int)) : M ≤ 15 := by
  obtain ⟨T, hT, h15⟩ := top_nat (ns := ns) h.le h.mo
  omega
theorem ask_some (h : Hu c ns ks mo SD AD) {t : Bool} {as : List (Nat × Bool)} (ha : ∀ p ∈ as, p.1 < ks.length) {M : Nat} (F : Few ns mo ks (beh ns mo ks as (S0 ns)) M) (hM : (M : Int) ≤ (1 + 2 * mo) * (ns.length : Int)) : f_ask_next_e c [SD, AD, sqD t (as.map anD), .int mo] = .ret (.sh (oiD (dueO ns mo ks (beh ns mo ks as (S0 ns)) M))) := by
  have g := beh_gst (ks := ks) h.mo as _ (gst_begun (n := ns.length) h.mo)
  have m15 := few_15 h hM
  refine ask_gen h ha (F := .int M) (by cases dueO ns mo ks (beh ns mo ks as (S0 ns)) M <;> rfl) (fewest_some h.le h.lk h.mo g F hM) fun ρ e => ?_
  have t1 := none_ev (i := 6) (ρ := ρ) (d := .int M) (by rw [e]; rfl)
  have t2 := testQ (B2 (F := fEq) (var_sh (i := 6) (ρ := ρ) (d := .int M) (by rw [e]; rfl)) (rfl : eC (.int 0) _ = .ret (.sh (.int 0), _)) (eq_int0 M))
  cases M with
  | zero => exact (IfE1 (orS t1 t2)).trans rfl
  | succ m =>
    obtain ⟨i, e1, _, _⟩ := due_is F
    have fr := first_is (c := c) h.le h.lk h.mo g m15 e1
    rw [e1]
    rw [decide_eq_false (Nat.succ_ne_zero m)] at t2
    refine (IfE1 (orF t1 t2)).trans ?_
    generalize beh ns mo ks as (S0 ns) = S at *
    subst e
    exact C1 (A3 (var_sh (i := 4) rfl) (var_sh (i := 5) (d := zsD S) rfl) (var_sh (i := 6) (d := .int ((m + 1 : Nat) : Int)) rfl)) fr
theorem ask_none (h : Hu c ns ks mo SD AD) {t : Bool} {as : List (Nat × Bool)} (ha : ∀ p ∈ as, p.1 < ks.length) (hn : ∀ m, enB ns.length mo (rowsB ns ks) m (beh ns mo ks as (S0 ns)) = false) : f_ask_next_e c [SD, AD, sqD t (as.map anD), .int mo] = .ret (.sh .non) := by
  have g := beh_gst (ks := ks) h.mo as _ (gst_begun (n := ns.length) h.mo)
  refine ask_gen h ha (F := .non) rfl (fewest_none h.le h.lk h.mo g hn) fun ρ e => ?_
  have t1 := none_ev (i := 6) (ρ := ρ) (d := .non) (by rw [e]; rfl)
  exact (IfE1 (orT t1)).trans rfl
theorem possible_ev (h : Hu c ns ks mo SD AD) {t : Bool} {as : List (Nat × Bool)} (ha : ∀ p ∈ as, p.1 < ks.length) : f_possible_ones_e c [SD, AD, sqD t (as.map anD), .int mo] = .ret (.nw (wD (leftW ns mo (beh ns mo ks as (S0 ns))))) := by
  refine def_ev rfl ?_
  have ca := answers_ev (c := c) (t := t) (n := ks.length) (as := as) ha
  have fa := fre_an t as
  generalize sqD t (as.map anD) = X at *
  show eHunt _ _ _ _ _ _ _ [.sh SD, .sh AD, .sh X, .sh (.int mo), .no] = _
  refine hunt_gen (ρ1 := [.sh SD, .sh AD, .sh X, .sh (.int mo), .no]) (A3 (var_sh (i := 0) rfl) (var_sh (i := 1) (d := AD) rfl) (var_sh (i := 3) (d := .int mo) rfl)) (init_m h.e1 h.e2 h.mo) ?_ (fre_sg ns ks mo) rfl ?_ (fre_wD _)
  · show (D.fre SD && (D.fre AD && (D.fre X && true))) = true
    rw [h.k1, h.k2, fa]
    rfl
  · rw [md_eq]
    show eRet _ [.sh SD, .sh AD, .sh X, .sh (.int mo), .sh (hun c ns mo ks)] = _
    have b := behind_all_ev (c := c) (mo := mo) h.ne h.le ha
    exact R1 (meth_ev (var_sh (i := 4) rfl) mn1 (A1 (meth_ev (var_sh (i := 4) rfl) mn8 (A1 (C1 (A2 (var_sh (i := 2) (d := X) rfl) (O1 (A1 (var_sh (i := 1) (d := AD) rfl)) h.ln)) ca)) b)) left_ev)
theorem fewask_ev (h : Hu c ns ks mo SD AD) : ∃ o : Option Nat, f_fewest_askings_e c [SD, AD, .int mo] = .ret (.sh (oiD o)) ∧ ∀ M, o = some M → Few ns mo ks (S0 ns) M ∧ (M : Int) ≤ (1 + 2 * mo) * (ns.length : Int) := by
  obtain ⟨u, e1, w⟩ := unparted_ev (c := c) (mo := mo) (ks := ks) h.le
  have e3 := begun9_ev (c := c) (mo := mo) (ks := ks) h.ne h.le
  have un : ∀ o, b_fewest_of_e c [.sh (hun c ns mo ks)] = .ret (.rt o) → f_fewest_of_e c [hun c ns mo ks] = .ret o := fun o e => def_ev rfl e
  have t : eTest (eOp2 (fIsN false) (eMeth (c "Hunt") "unparted" (f_Hunt_unparted_e c) [] (eVar 0) aNil) (eC .non)) [.sh (hun c ns mo ks)] = .ret (u.d.isNon, [.sh (hun c ns mo ks)]) :=
    testQ (B2 (F := fIsN false) (meth_ev (var_sh (i := 0) rfl) mn6 (rfl : aNil _ = .ret ([], _)) e1) (rfl : eC .non _ = .ret (.sh .non, _)) (isn_ev u.d))
  have all : ∀ o : Option Nat, f_fewest_of_e c [hun c ns mo ks] = .ret (.sh (oiD o)) → f_fewest_askings_e c [SD, AD, .int mo] = .ret (.sh (oiD o)) := fun o e => by
    refine def_ev rfl ?_
    show eRetHunt _ _ _ _ _ _ [.sh SD, .sh AD, .sh (.int mo)] = _
    refine retHunt_gen (A3 (var_sh (i := 0) rfl) (var_sh (i := 1) (d := AD) rfl) (var_sh (i := 2) (d := .int mo) rfl)) (init_m h.e1 h.e2 h.mo) (fre_sg ns ks mo) rfl ?_ (by cases o <;> rfl)
    rw [md_eq]
    exact e
  rcases w with rfl | ⟨ds, rfl⟩
  · have fe : ∀ o : Option Nat, f_Hunt_fewest_from_e c [hun c ns mo ks, zsD (S0 ns)] = .ret (.sh (oiD o)) → f_fewest_of_e c [hun c ns mo ks] = .ret (.sh (oiD o)) := fun o e =>
      un _ (R1 (ρ1 := [.sh (hun c ns mo ks)]) ((IfE1 t).trans (meth_ev (var_sh (i := 0) rfl) mn7 (A1 (meth_ev (var_sh (i := 0) rfl) mn3 (rfl : aNil _ = .ret ([], _)) e3)) e)))
    rcases few_or (ks := ks) h.nd h.mo (gst_begun (n := ns.length) h.mo) with ⟨_, M, hM, F⟩ | ⟨_, hn⟩
    · refine ⟨some M, all _ (fe (some M) (fewest_some h.le h.lk h.mo (gst_begun h.mo) F hM)), fun M' e => ?_⟩
      cases e
      exact ⟨F, hM⟩
    · exact ⟨none, all _ (fe none (fewest_none h.le h.lk h.mo (gst_begun h.mo) hn)), fun M' e => by cases e⟩
  · exact ⟨none, all none (un _ (R1 (ρ1 := [.sh (hun c ns mo ks)]) ((IfE1 t).trans rfl))), fun M' e => by cases e⟩
end
end DL
set_option Elab.async false
set_option linter.all false
set_option maxRecDepth 100000
set_option maxHeartbeats 1000000
namespace DL
open PySem L2 PyProof.Rows
/-! ### drawn suspects and askings -/
def seven7 : List Str := ["a", "b", "c1", "d", "zed", "m9", "k"]
theorem seven_pool : ∀ w ∈ seven7, w ∈ poolL := by decide +kernel
theorem seven_no : ("stranger" : Str) ∉ seven7 := by decide
theorem stranger_pool : ("stranger" : Str) ∈ poolL := by decide +kernel
theorem seven_nd : seven7.Nodup := by decide +kernel
def unL : D → List D
  | .lst ds => ds
  | _ => []
def unS : D → Str
  | .str x => x
  | _ => ""
def unW (d : D) : List Str := (unL d).map unS
theorem unW_wD (ws : List Str) : unW (wD ws) = ws := by
  unfold unW wD
  show (wsD ws).map unS = ws
  unfold wsD
  rw [List.map_map]
  exact List.map_id' _
theorem perm_back {α : Type} {f : α → D} {g : D → α} (hg : ∀ a, g (f a) = a) {ys : List D} {xs : List α} (h : ys.Perm (xs.map f)) : ∃ zs : List α, ys = zs.map f ∧ zs.Perm xs := by
  have e : ∀ y ∈ ys, f (g y) = y := fun y hy => by
    obtain ⟨a, _, rfl⟩ := List.mem_map.mp (h.subset hy)
    rw [hg]
  refine ⟨ys.map g, ?_, ?_⟩
  · rw [List.map_map]
    exact ((List.map_congr_left (g := id) e).trans (List.map_id ys)).symm
  · have := h.map g
    rw [List.map_map] at this
    have e : xs.map (g ∘ f) = xs := by
      refine (List.map_congr_left (g := id) fun a _ => hg a).trans (List.map_id _)
    rwa [e] at this
/-- one asking: names of the seven, each once -/
structure K7 (n : Nat) (k : List Str) : Prop where
  s : ∀ w ∈ k, w ∈ seven7
  nd : k.Nodup
  le : k.length ≤ n
abbrev mu (M : Int) (s2 s3 s4 s5 s6 s7 : Slot) : Rho := [.sh .stm, .sh (.int M), s2, s3, s4, s5, s6, s7]
abbrev mu1 : ES := (eSet 2 (eSl (eCall f_l_mixed [] (aCons (eVar 0) (aCons (eLst (aCons (eC (.str "a")) (aCons (eC (.str "b")) (aCons (eC (.str "c1")) (aCons (eC (.str "d")) (aCons (eC (.str "zed")) (aCons (eC (.str "m9")) (aCons (eC (.str "k")) aNil)))))))) aNil))) oNone (oSome (eOp2 fAdd (eC (.int 1)) (eCall f_l_draw [] (aCons (eVar 0) (aCons (eVar 1) aNil)))))))
abbrev mu2 : ES := (ePar2 3 4 (vCons (eLst aNil) (vCons (eCall f_l_draw [] (aCons (eVar 0) (aCons (eC (.int 4)) aNil))) vNil)))
abbrev mu3 : ES := (eIf (eTest (eOp2 fEq (eVar 4) (eC (.int 0)))) (eSet 3 (eComp (iRng2 (aCons (eC (.int 1)) (aCons (eOpN fLenS (aCons (eVar 2) aNil)) aNil))) (gN 5) eYes (eSl (eVar 2) oNone (oSome (eVar 5))) [5])) eSkip)
abbrev mu4c : EE := (eComp (iItems (eCall f_l_mixed [] (aCons (eVar 0) (aCons (eVar 2) aNil)))) (gN 7) (eTest (eOp2 fEq (eCall f_l_draw [] (aCons (eVar 0) (aCons (eC (.int 2)) aNil))) (eC (.int 0)))) (eVar 7) [7])
abbrev mu4b : ES := (eDrop (eMut 3 fAppend (aCons mu4c aNil)))
abbrev mu4 : ES := (eFor (iRng1 (aCons (eOp2 fAdd (eC (.int 1)) (eCall f_l_draw [] (aCons (eVar 0) (aCons (eC (.int 4)) aNil)))) aNil)) (gN 6) mu4b [6])
abbrev mu5 : ES := (eIf (eTest (eOp2 fEq (eVar 4) (eC (.int 1)))) (eStoreIx 3 (eOp2 fAdd (eIxO 3 (eOp1 fNeg (eC (.int 1)))) (eLst (aCons (eC (.str "stranger")) aNil))) (eOp1 fNeg (eC (.int 1)))) eSkip)
abbrev mu6 : ES := (eRet (eTup (aCons (eVar 2) (aCons (eSl (eCall f_l_mixed [] (aCons (eVar 0) (aCons (eVar 3) aNil))) oNone (oSome (eC (.int 5)))) aNil))))
theorem mu_eq : b_l_m_suspects = eSeq mu1 (eSeq mu2 (eSeq mu3 (eSeq mu4 (eSeq mu5 mu6)))) := rfl
theorem mu1_sat : Sat (mu1 (mu 4 .no .no .no .no .no .no)) (fun o => ∃ ρ1, o = .nx ρ1 ∧ ∃ ns, K7 4 ns ∧ ns ≠ [] ∧ ρ1 = mu 4 (.ow (wD ns)) .no .no .no .no .no) := by
  refine ⟨?_⟩
  simp [sat_bind, at_sat, sizeLine_eq]
  generalize hL : [D.str "a", D.str "b", D.str "c1", D.str "d", D.str "zed", D.str "m9", D.str "k"] = L
  have hL2 : L = wsD seven7 := hL.symm
  have hn : L.length = 7 := by rw [← hL]; rfl
  refine mixed_satL (by omega) fun ys hp => ?_
  simp [sat_bind, at_sat]
  refine draw_sat (by decide) (by decide) fun i i0 i1 => ?_
  obtain ⟨k, rfl⟩ : ∃ k : Nat, i = k := ⟨i.toNat, by omega⟩
  have e2 : (1 : Int) + (k : Int) = ((1 + k : Nat) : Int) := by simp
  have ct := cut_to ys (1 + k)
  have hy := hp.length_eq
  rw [hL2] at hp
  obtain ⟨vs, rfl, hv⟩ := perm_ws hp
  generalize hq : ((1 + k : Nat) : Int) = q at *
  simp [Vd.d, e2, ct]
  have hv7 : vs.length = 7 := by rw [hv.length_eq]; rfl
  refine ⟨vs.take (1 + k), ⟨fun w hw => hv.subset (List.mem_of_mem_take hw), (hv.nodup_iff.mpr seven_nd).sublist (List.take_sublist _ _), by rw [List.length_take]; omega⟩, ?_, ?_⟩
  · intro z
    have := congrArg List.length z
    rw [List.length_take, List.length_nil] at this
    omega
  · rw [show (wsD vs).take (1 + k) = wsD (vs.take (1 + k)) from (List.map_take).symm]
theorem mu2_sat (ns : List Str) : Sat (mu2 (mu 4 (.ow (wD ns)) .no .no .no .no .no)) (fun o => ∃ ρ1, o = .nx ρ1 ∧ ∃ w : Int, ρ1 = mu 4 (.ow (wD ns)) (.ow (.lst [])) (.sh (.int w)) .no .no .no) := by
  refine ⟨?_⟩
  generalize wD ns = X at *
  simp [sat_bind, at_sat, sizeLine_eq]
  exact draw_sat (by decide) (by decide) fun i i0 i1 => ⟨i, rfl⟩
theorem K7.take {n k : Nat} {ns : List Str} (h : K7 n ns) : K7 n (ns.take k) := ⟨fun w hw => h.s w (List.mem_of_mem_take hw), h.nd.sublist (List.take_sublist _ _), by
  have := h.le
  rw [List.length_take]
  omega⟩
theorem fEqI (i j : Int) : fEq [.int i, .int j] = some (.sh (.bl (decide (i = j)))) := fEq_int i j
theorem w_test {M w n : Int} {s2 s3 s5 s6 s7 : Slot} : eTest (eOp2 fEq (eVar 4) (eC (.int n))) (mu M s2 s3 (.sh (.int w)) s5 s6 s7) = .ret (decide (w = n), mu M s2 s3 (.sh (.int w)) s5 s6 s7) :=
  testQ (B2 (F := fEq) (var_sh (i := 4) rfl) (rfl : eC (.int n) _ = .ret (.sh (.int n), _)) (fEqI w n))
theorem rngM_ev {a : EA} {ρ ρ1 : Rho} {n : Nat} (h : a ρ = .ret ([.int 1, .int (n : Int)], ρ1)) (hn : n ≤ 1000) : iRng2 a ρ = .ret ((List.range (n - 1)).map (fun k : Nat => D.int (1 + (k : Int))), ρ1) := by
  have e : ((n : Int) - 1).toNat = n - 1 := by omega
  have h1 : n - 1 ≤ 16777216 := by omega
  have h2 : (n : Int) < 4611686018427387904 := by omega
  have h3 : -(4611686018427387904 : Int) ≤ (n : Int) := by omega
  simp [h, e, h1, h2, h3, sizeLine_eq, rangeD]
  try omega
theorem mu3_ev {ns : List Str} (h : K7 4 ns) (w : Int) : ∃ (s2 : Slot) (ks : List (List Str)), OwSh s2 (wD ns) ∧ (∀ k ∈ ks, K7 4 k) ∧ ks.length ≤ 3 ∧ mu3 (mu 4 (.ow (wD ns)) (.ow (.lst [])) (.sh (.int w)) .no .no .no) = .ret (.nx (mu 4 s2 (.ow (.lst (ks.map wD))) (.sh (.int w)) .no .no .no)) := by
  by_cases hw : w = 0
  · subst hw
    refine ⟨.sh (wD ns), (List.range (ns.length - 1)).map fun k => ns.take (1 + k), .inr rfl, ?_, ?_, ?_⟩
    · intro k hk
      obtain ⟨j, _, rfl⟩ := List.mem_map.mp hk
      exact h.take
    · rw [List.length_map, List.length_range]
      have := h.le
      omega
    · have ln : fLenS [wD ns] = some (.sh (.int (ns.length : Nat))) := len_ws ns
      have v2 : eVar 2 (mu 4 (.ow (wD ns)) (.ow (.lst [])) (.sh (.int 0)) .no .no .no) = .ret (.sh (wD ns), mu 4 (.sh (wD ns)) (.ow (.lst [])) (.sh (.int 0)) .no .no .no) := rfl
      have it := rngM_ev (n := ns.length) (A2 (rfl : eC (.int 1) (mu 4 (.ow (wD ns)) (.ow (.lst [])) (.sh (.int 0)) .no .no .no) = .ret (.sh (.int 1), _)) (O1 (A1 v2) ln)) (by have := h.le; omega)
      have cm := comp_of (f := fun k : Nat => D.int (1 + (k : Int))) (L := List.range (ns.length - 1)) (h := fun k => some (wD (ns.take (1 + k)))) (k := 5) (tt := eYes) (te := eSl (eVar 2) oNone (oSome (eVar 5))) it rfl (fun k _ => by
        have e2 : (1 : Int) + (k : Int) = ((1 + k : Nat) : Int) := by simp
        rw [e2]
        have s := sl_to (X := wsD ns) (k := 1 + k) (e := eVar 5) (i := 2) (ρ := mu 4 (.sh (wD ns)) (.ow (.lst [])) (.sh (.int 0)) (.sh (.int ((1 + k : Nat) : Int))) .no .no) rfl (var_sh (i := 5) rfl)
        rw [show (wsD ns).take (1 + k) = wsD (ns.take (1 + k)) from (List.map_take).symm] at s
        exact turn_yes (ρ1 := mu 4 (.sh (wD ns)) (.ow (.lst [])) (.sh (.int 0)) (.sh (.int ((1 + k : Nat) : Int))) .no .no) (v := .nw (wD (ns.take (1 + k)))) rfl s rfl)
      rw [fmap_all] at cm
      have e3 : (List.range (ns.length - 1)).map (fun k => wD (ns.take (1 + k))) = ((List.range (ns.length - 1)).map fun k => ns.take (1 + k)).map wD := by
        rw [List.map_map]
        rfl
      rw [e3] at cm
      exact (ifT1 w_test).trans (S1 (i := 3) cm)
  · refine ⟨.ow (wD ns), [], .inl rfl, (fun k hk => nomatch hk), by simp, ?_⟩
    have t := w_test (M := 4) (w := w) (n := 0) (s2 := .ow (wD ns)) (s3 := .ow (.lst [])) (s5 := .no) (s6 := .no) (s7 := .no)
    rw [decide_eq_false hw] at t
    exact If0 t rfl
theorem K7.sub {n : Nat} {vs ns k : List Str} (h : K7 n ns) (p : vs.Perm ns) (s : k.Sublist vs) : K7 n k := ⟨fun w hw => h.s w (p.subset (s.subset hw)), (p.nodup_iff.mpr h.nd).sublist s, by
  have := h.le
  have := s.length_le
  have := p.length_eq
  omega⟩
def IsK (n : Nat) (v : Vd) : Prop := ∃ k, K7 n k ∧ v = .nw (wD k)
theorem mu4_turn (X : Slot) (N : D) (w : Str) (s4 s6 : Slot) : Sat (eTurn (gN 7) (eTest (eOp2 fEq (eCall f_l_draw [] (aCons (eVar 0) (aCons (eC (.int 2)) aNil))) (eC (.int 0)))) (eVar 7) [7] (.str w) (mu 4 (.sh N) X s4 .no s6 .no)) (fun q => q.2 = mu 4 (.sh N) X s4 .no s6 .no ∧ (q.1 = none ∨ q.1 = some (.str w))) := by
  refine ⟨?_⟩
  unfold eTurn
  refine sat_noex (W := noW) ?_
  simp [sat_bind, at_sat, -fEq]
  refine draw_sat (by decide) (by decide) fun i i0 i1 => ?_
  have e := fEqI i 0
  by_cases h : i = 0
  · subst h
    simp [e, -fEq, wipeR]
  · rw [decide_eq_false h] at e
    simp [e, -fEq, wipeR]
theorem mu4c_sat {ns : List Str} (h : K7 4 ns) {s2 : Slot} (h2 : OwSh s2 (wD ns)) (X s4 s6 : Slot) : Sat (mu4c (mu 4 s2 X s4 .no s6 .no)) (fun p => IsK 4 p.1 ∧ p.2 = mu 4 (.sh (wD ns)) X s4 .no s6 .no) := by
  have a : aCons (eVar 0) (aCons (eVar 2) aNil) (mu 4 s2 X s4 .no s6 .no) = .ret ([.stm, .lst (wsD ns)], mu 4 (.sh (wD ns)) X s4 .no s6 .no) := by
    rcases h2 with rfl | rfl <;> rfl
  have mx : Sat (f_l_mixed [.stm, .lst (wsD ns)]) (fun v => ∃ vs : List Str, v = .nw (.lst (wsD vs)) ∧ vs.Perm ns) := ⟨mixed_satL (by
    have := h.le
    simp [wsD]
    omega) fun ys hp => by
    obtain ⟨vs, rfl, hv⟩ := perm_ws hp
    exact ⟨vs, rfl, hv⟩⟩
  have cl := sat_call (f := f_l_mixed) (sat_exactA a) (fun ds h => by rw [show ds = _ from h]; exact mx)
  unfold mu4c
  generalize eCall f_l_mixed [] (aCons (eVar 0) (aCons (eVar 2) aNil)) = E at *
  have it : Sat (iItems E (mu 4 s2 X s4 .no s6 .no)) (fun p => ∃ vs : List Str, vs.Perm ns ∧ p = (wsD vs, mu 4 (.sh (wD ns)) X s4 .no s6 .no)) := by
    refine cl.bind ?_
    rintro ⟨v, ρ⟩ ⟨⟨vs, rfl, hv⟩, h⟩
    rw [show ρ = _ from h]
    exact Sat.ret ⟨vs, hv, rfl⟩
  unfold eComp
  refine it.bind ?_
  rintro p ⟨vs, hv, rfl⟩
  have wp : wipeR (mu 4 (.sh (wD ns)) X s4 .no s6 .no) [7] = mu 4 (.sh (wD ns)) X s4 .no s6 .no := rfl
  show Sat (eCompGo _ _ _ _ (wsD vs) [] (wipeR (mu 4 (.sh (wD ns)) X s4 .no s6 .no) [7])) _
  rw [wp]
  refine ⟨comp_inv (fun ds acc ρ => ρ = mu 4 (.sh (wD ns)) X s4 .no s6 .no ∧ ∃ dn rest a : List Str, vs = dn ++ rest ∧ ds = wsD rest ∧ acc = wsD a ∧ a.Sublist dn) ?_ ?_ _ _ _ ⟨rfl, [], vs, [], rfl, rfl, rfl, List.Sublist.refl _⟩⟩
  · rintro acc ρ ⟨rfl, dn, rest, a, e1, e2, rfl, s⟩
    have : rest = [] := by
      cases rest with
      | nil => rfl
      | cons x xs => cases e2
    subst this
    rw [List.append_nil] at e1
    exact ⟨⟨a, h.sub hv (by rw [e1]; exact s), rfl⟩, rfl⟩
  · rintro d ds acc ρ ⟨rfl, dn, rest, a, e1, e2, rfl, s⟩
    cases rest with
    | nil => cases e2
    | cons p rest =>
      have e2 : d :: ds = .str p :: wsD rest := e2
      injection e2 with e3 e4
      subst e3 e4
      refine (mu4_turn X (wD ns) p s4 s6).out.imp ?_
      rintro ⟨o, ρ⟩ ⟨h1, h2⟩
      refine ⟨h1, dn ++ [p], rest, ?_⟩
      rcases h2 with h2 | h2
      · rw [show o = none from h2]
        exact ⟨a, by rw [e1]; simp, rfl, by simp, s.trans (List.sublist_append_left _ _)⟩
      · rw [show o = some (.str p) from h2]
        exact ⟨a ++ [p], by rw [e1]; simp, rfl, by simp [wsD], s.append (List.Sublist.refl _)⟩
theorem sat_app {i : Nat} {e : EE} {ρ ρ1 : Rho} {P : Vd → Prop} {X Y : List D} (he : Sat (e ρ) (fun p => P p.1 ∧ p.2 = ρ1)) (hi : ρ[i]? = some (.ow (.lst Y))) (h1 : ρ1[i]? = some (.ow (.lst X))) (hl : X.length < 16777216) : Sat (eDrop (eMut i fAppend (aCons e aNil)) ρ) (fun o => ∃ v, P v ∧ o = .nx (ρ1.set i (.ow (.lst (X ++ [v.d]))))) := by
  refine ⟨?_⟩
  simp [hi, sat_bind]
  refine he.out.imp ?_
  rintro ⟨v, ρ⟩ ⟨hv, h⟩
  rw [show ρ = _ from h]
  simp [h1, sizeLine_eq, hl]
  exact ⟨v, hv, rfl⟩
theorem mu4_sat {ns : List Str} (h : K7 4 ns) {s2 : Slot} (h2 : OwSh s2 (wD ns)) {ks : List (List Str)} (hk : ∀ k ∈ ks, K7 4 k) (hl : ks.length ≤ 3) (w : Int) : Sat (mu4 (mu 4 s2 (.ow (.lst (ks.map wD))) (.sh (.int w)) .no .no .no))
    (fun o => ∃ ρ1, o = .nx ρ1 ∧ ∃ (s2 : Slot) (ks : List (List Str)), OwSh s2 (wD ns) ∧ (∀ k ∈ ks, K7 4 k) ∧ ks.length ≤ 7 ∧ ks ≠ [] ∧ ρ1 = mu 4 s2 (.ow (.lst (ks.map wD))) (.sh (.int w)) .no .no .no) := by
  have go : ∀ n : Nat, 1 ≤ n → n ≤ 4 → Sat (eForGo (gN 6) mu4b [6] (rangeD 0 n) (mu 4 s2 (.ow (.lst (ks.map wD))) (.sh (.int w)) .no .no .no)) (fun o => ∃ ρ1, o = .nx ρ1 ∧ ∃ (s2 : Slot) (ks : List (List Str)), OwSh s2 (wD ns) ∧ (∀ k ∈ ks, K7 4 k) ∧ ks.length ≤ 7 ∧ ks ≠ [] ∧ ρ1 = mu 4 s2 (.ow (.lst (ks.map wD))) (.sh (.int w)) .no .no .no) := by
    intro n hn1 hn4
    refine for_box (fun ds ρ => ∃ (s2 : Slot) (ks' : List (List Str)), OwSh s2 (wD ns) ∧ (∀ k ∈ ks', K7 4 k) ∧ ks'.length + ds.length = ks.length + n ∧ ρ = mu 4 s2 (.ow (.lst (ks'.map wD))) (.sh (.int w)) .no .no .no) ?_ ?_ _ _ ⟨s2, ks, h2, hk, by rw [rangeD_len], rfl⟩
    · rintro ρ ⟨s2, ks', a1, a2, a3, rfl⟩
      rw [List.length_nil] at a3
      exact ⟨_, rfl, s2, ks', a1, a2, by omega, (fun z => by rw [z, List.length_nil] at a3; omega), rfl⟩
    · rintro d ds ρ ⟨s2, ks', a1, a2, a3, rfl⟩
      rw [List.length_cons] at a3
      refine ⟨mu 4 s2 (.ow (.lst (ks'.map wD))) (.sh (.int w)) .no (.sh d) .no, rfl, ?_⟩
      have c := mu4c_sat h a1 (.ow (.lst (ks'.map wD))) (.sh (.int w)) (.sh d)
      refine (sat_app (i := 3) (X := ks'.map wD) (Y := ks'.map wD) c rfl rfl (by rw [List.length_map]; omega)).imp ?_
      rintro o ⟨v, ⟨k, hk1, rfl⟩, rfl⟩
      refine ⟨_, rfl, .sh (wD ns), ks' ++ [k], .inr rfl, ?_, ?_, ?_⟩
      · intro x hx
        rcases List.mem_append.mp hx with hx | hx
        · exact a2 x hx
        · rw [List.mem_singleton.mp hx]
          exact hk1
      · simp
        omega
      · rw [List.map_append]
        rfl
  have dr : Sat (f_l_draw [.stm, .int 4]) (fun v => ∃ k : Nat, k < 4 ∧ v = .sh (.int (k : Int))) := ⟨draw_sat (by decide) (by decide) fun i i0 i1 => ⟨i.toNat, by omega, by rw [Int.toNat_of_nonneg i0]⟩⟩
  generalize hR : mu 4 s2 (.ow (.lst (ks.map wD))) (.sh (.int w)) .no .no .no = R at *
  have ew : wipeR R [6] = R := by rw [← hR]; rfl
  have cl := sat_call (f := f_l_draw) (sat_exactA (rfl : aCons (eVar 0) (aCons (eC (.int 4)) aNil) (mu 4 s2 (.ow (.lst (ks.map wD))) (.sh (.int w)) .no .no .no) = .ret ([.stm, .int 4], mu 4 s2 (.ow (.lst (ks.map wD))) (.sh (.int w)) .no .no .no))) (fun ds h => by rw [show ds = _ from h]; exact dr)
  rw [hR] at cl
  unfold mu4
  generalize eCall f_l_draw [] (aCons (eVar 0) (aCons (eC (.int 4)) aNil)) = E at *
  generalize mu4b = B at *
  have ag : Sat (aCons (eOp2 fAdd (eC (.int 1)) E) aNil R) (fun p => ∃ n : Nat, 1 ≤ n ∧ n ≤ 4 ∧ p = ([.int (n : Int)], R)) := by
    refine ⟨?_⟩
    simp [sat_bind]
    refine cl.out.imp ?_
    rintro ⟨v, ρ⟩ ⟨⟨k, hk, rfl⟩, h⟩
    rw [show ρ = _ from h]
    simp
    exact ⟨1 + k, by omega, by omega, by simp⟩
  generalize aCons (eOp2 fAdd (eC (.int 1)) E) aNil = A at *
  have it : Sat (iRng1 A R) (fun p => ∃ n : Nat, 1 ≤ n ∧ n ≤ 4 ∧ p = (rangeD 0 n, R)) := by
    refine ag.bind ?_
    rintro p ⟨n, h1, h2, rfl⟩
    have t4 : (n : Int) ≤ 16777216 := by omega
    have t3 : -(4611686018427387904 : Int) ≤ (n : Int) := by omega
    refine Sat.of (a := (rangeD 0 n, R)) ?_ ⟨n, h1, h2, rfl⟩
    have t5 : n ≤ 16777216 := by omega
    simp [sizeLine_eq, t3, t4, t5]
  unfold eFor
  refine it.bind ?_
  rintro p ⟨n, h1, h2, rfl⟩
  show Sat (eForGo (gN 6) B [6] (rangeD 0 n) (wipeR R [6])) _
  rw [ew]
  exact go n h1 h2
/-! the last asking, one strange name more -/
theorem ix_last (n : Nat) : ixN (n + 1) (-1) = some n := by
  unfold ixN
  have h1 : ¬ (0 : Int) ≤ -1 := by decide
  rw [if_neg h1]
  have e : ((-1 : Int) + ((n + 1 : Nat) : Int)) = (n : Int) := by omega
  rw [e]
  simp
  omega
theorem at_last {xs : List D} {d : D} : atI (xs ++ [d]) (-1) = some d := by
  unfold atI
  rw [List.length_append, List.length_singleton, ix_last]
  simp
structure Good7 (ks : List (List Str)) : Prop where
  ok : ∀ k ∈ ks, Nm k ∧ k.Nodup ∧ k.length ≤ 10
  le : ks.length ≤ 7
  ne : ks ≠ []
theorem K7.nm {n : Nat} {k : List Str} (h : K7 n k) : Nm k := fun w hw => seven_pool w (h.s w hw)
theorem store_last {i : Nat} {a b : EE} {ρ : Rho} {xs : List D} {d z : D} (ha : a ρ = .ret (.nw z, ρ)) (hb : b ρ = .ret (.sh (.int (-1)), ρ)) (h : ρ[i]? = some (.ow (.lst (xs ++ [d])))) : eStoreIx i a b ρ = .ret (.nx (ρ.set i (.ow (.lst (xs ++ [z]))))) := by
  have il := ix_last xs.length
  simp [ha, hb, h, il]
theorem ixO_last {i : Nat} {b : EE} {ρ : Rho} {xs : List D} {d : D} (hb : b ρ = .ret (.sh (.int (-1)), ρ)) (h : ρ[i]? = some (.ow (.lst (xs ++ [d])))) : eIxO i b ρ = .ret (.sh d, ρ) := by
  have al := at_last (xs := xs) (d := d)
  generalize xs ++ [d] = L at *
  simp [hb, h, al]
theorem add_lst {X Y : List D} (h : X.length + Y.length ≤ 16777216) : fAdd [.lst X, .lst Y] = some (.nw (.lst (X ++ Y))) := by
  show (if X.length + Y.length ≤ sizeLine then some (Vd.nw (.lst (X ++ Y))) else none) = _
  rw [if_pos (by rw [sizeLine_eq]; exact h)]
theorem mu5_ev {s2 : Slot} {ks : List (List Str)} (hk : ∀ k ∈ ks, K7 4 k) (hl : ks.length ≤ 7) (h0 : ks ≠ []) (w : Int) : ∃ ks', Good7 ks' ∧ mu5 (mu 4 s2 (.ow (.lst (ks.map wD))) (.sh (.int w)) .no .no .no) = .ret (.nx (mu 4 s2 (.ow (.lst (ks'.map wD))) (.sh (.int w)) .no .no .no)) := by
  by_cases hw : w = 1
  · subst hw
    obtain ⟨init, last, rfl⟩ : ∃ init last, ks = init ++ [last] := ⟨ks.dropLast, ks.getLast h0, (List.dropLast_concat_getLast h0).symm⟩
    have kl := hk last (List.mem_append_right _ List.mem_cons_self)
    refine ⟨init ++ [last ++ [("stranger" : Str)]], ⟨?_, ?_, by simp⟩, ?_⟩
    · intro k hm
      rcases List.mem_append.mp hm with hm | hm
      · have := hk k (List.mem_append_left _ hm)
        exact ⟨this.nm, this.nd, by have := this.le; omega⟩
      · rw [List.mem_singleton.mp hm]
        refine ⟨?_, ?_, ?_⟩
        · intro x hx
          rcases List.mem_append.mp hx with hx | hx
          · exact kl.nm x hx
          · rw [List.mem_singleton.mp hx]
            exact stranger_pool
        · rw [List.nodup_append]
          refine ⟨kl.nd, by simp, ?_⟩
          intro a ha b hb e
          rw [List.mem_singleton.mp hb] at e
          rw [e] at ha
          exact seven_no (kl.s _ ha)
        · have := kl.le
          simp
          omega
    · simpa using hl
    · have neg : ∀ ρ : Rho, eOp1 fNeg (eC (.int 1)) ρ = .ret (.sh (.int (-1)), ρ) := fun ρ => by simp
      have m : ∀ k : List Str, (init ++ [k]).map wD = init.map wD ++ [wD k] := fun k => by simp
      rw [m, m]
      have g : (mu 4 s2 (.ow (.lst (init.map wD ++ [wD last]))) (.sh (.int 1)) .no .no .no)[3]? = some (.ow (.lst (init.map wD ++ [wD last]))) := rfl
      have x := ixO_last (i := 3) (neg _) g
      have y := L1 (A1 (rfl : eC (.str "stranger") (mu 4 s2 (.ow (.lst (init.map wD ++ [wD last]))) (.sh (.int 1)) .no .no .no) = .ret (.sh (.str "stranger"), _))) (by simp)
      have ad : fAdd [wD last, .lst [.str "stranger"]] = some (.nw (wD (last ++ [("stranger" : Str)]))) := by
        have := kl.le
        rw [show wD last = .lst (wsD last) from rfl, add_lst (by simp [wsD]; omega)]
        simp [wD, wsD]
      have z := B2 (F := fAdd) x y ad
      exact (ifT1 w_test).trans (store_last z (neg _) g)
  · have t := w_test (M := 4) (w := w) (n := 1) (s2 := s2) (s3 := .ow (.lst (ks.map wD))) (s5 := .no) (s6 := .no) (s7 := .no)
    rw [decide_eq_false hw] at t
    exact ⟨ks, ⟨fun k hm => ⟨(hk k hm).nm, (hk k hm).nd, by have := (hk k hm).le; omega⟩, hl, h0⟩, If0 t rfl⟩
theorem mu6_sat {ns : List Str} {s2 : Slot} (h2 : OwSh s2 (wD ns)) {ks : List (List Str)} (g : Good7 ks) (w : Int) : Sat (mu6 (mu 4 s2 (.ow (.lst (ks.map wD))) (.sh (.int w)) .no .no .no)) (fun o => ∃ v, o = .rt v ∧ ∃ ks', Ask ks' ∧ v = .sh (.tup [wD ns, .lst (ks'.map wD)])) := by
  have mx : Sat (f_l_mixed [.stm, .lst (ks.map wD)]) (fun v => ∃ ks' : List (List Str), v = .nw (.lst (ks'.map wD)) ∧ ks'.Perm ks) := ⟨mixed_satL (by
    have := g.le
    simp
    omega) fun ys hp => by
    obtain ⟨zs, rfl, hz⟩ := perm_back unW_wD hp
    exact ⟨zs, rfl, hz⟩⟩
  have a : aCons (eVar 0) (aCons (eVar 3) aNil) (mu 4 (.sh (wD ns)) (.ow (.lst (ks.map wD))) (.sh (.int w)) .no .no .no) = .ret ([.stm, .lst (ks.map wD)], mu 4 (.sh (wD ns)) (.sh (.lst (ks.map wD))) (.sh (.int w)) .no .no .no) := rfl
  have cl := sat_call (f := f_l_mixed) (sat_exactA a) (fun ds h => by rw [show ds = _ from h]; exact mx)
  have v2 : eVar 2 (mu 4 s2 (.ow (.lst (ks.map wD))) (.sh (.int w)) .no .no .no) = .ret (.sh (wD ns), mu 4 (.sh (wD ns)) (.ow (.lst (ks.map wD))) (.sh (.int w)) .no .no .no) := by
    rcases h2 with rfl | rfl <;> rfl
  unfold mu6
  generalize eCall f_l_mixed [] (aCons (eVar 0) (aCons (eVar 3) aNil)) = E at *
  generalize mu 4 s2 (.ow (.lst (ks.map wD))) (.sh (.int w)) .no .no .no = R at *
  generalize mu 4 (.sh (wD ns)) (.ow (.lst (ks.map wD))) (.sh (.int w)) .no .no .no = R1 at *
  refine ⟨?_⟩
  simp [sat_bind, v2, -eVar]
  refine cl.out.imp ?_
  rintro ⟨v, ρ⟩ ⟨⟨ks', rfl, hp⟩, h⟩
  rw [show ρ = _ from h]
  have ct := cut_to (ks'.map wD) 5
  rw [show ((5 : Nat) : Int) = 5 from rfl] at ct
  simp [ct, sizeLine_eq]
  have l1 := hp.length_eq
  have l2 := g.le
  have l3 : ks.length ≠ 0 := fun z => g.ne (List.eq_nil_of_length_eq_zero z)
  refine ⟨ks'.take 5, ⟨?_, by rw [List.length_take]; omega, fun k hk => g.ok k (hp.subset (List.mem_of_mem_take hk))⟩, by rw [List.map_take]⟩
  intro z
  have := congrArg List.length z
  rw [List.length_take, List.length_nil] at this
  omega
structure Drawn (ns : List Str) (ks : List (List Str)) : Prop where
  ne : ns ≠ []
  nm : Nm ns
  nd : ns.Nodup
  le : ns.length ≤ 4
  ask : Ask ks
theorem m_suspects_sat : Sat (f_l_m_suspects [.stm, .int 4]) (fun v => ∃ ns ks, Drawn ns ks ∧ v = .sh (.tup [wD ns, .lst (ks.map wD)])) := by
  refine def_box rfl ?_
  rw [mu_eq]
  show Sat (eSeq _ _ (mu 4 .no .no .no .no .no .no)) _
  refine seq_sat mu1_sat ?_
  rintro ρ ⟨ns, h, h0, rfl⟩
  refine seq_sat (mu2_sat ns) ?_
  rintro ρ ⟨w, rfl⟩
  obtain ⟨s2, ks, h2, hk, hl, e⟩ := mu3_ev h w
  refine seq_ret e ?_
  refine seq_sat (mu4_sat h h2 hk hl w) ?_
  rintro ρ ⟨s2', ks2, h2', hk2, hl2, hn2, rfl⟩
  obtain ⟨ks3, g3, e⟩ := mu5_ev (s2 := s2') hk2 hl2 hn2 w
  refine seq_ret e ?_
  refine (mu6_sat h2' g3 w).imp ?_
  rintro o ⟨v, rfl, ks4, h4, rfl⟩
  exact ⟨_, rfl, ns, ks4, ⟨h0, h.nm, h.nd, h.le, h4⟩, rfl⟩
end DL
set_option Elab.async false
set_option linter.all false
set_option maxRecDepth 100000
set_option maxHeartbeats 1000000
namespace DL
open PySem L2 PyProof.Rows
/-! ### one is hunted -/
def lateN (late : Int) (n : Nat) : Int := if 0 ≤ late ∧ late < (n : Int) then 1 else 0
structure HI (ns : List Str) (ks : List (List Str)) (mo : Int) (one : Str) (late : Int) (few : Nat) (as : List (Nat × Bool)) (M : Nat) : Prop where
  ok : ∀ p ∈ as, p.1 < ks.length
  F : Few ns mo ks (beh ns mo ks as (S0 ns)) M
  hM : (M : Int) ≤ (1 + 2 * mo) * (ns.length : Int)
  le : as.length + M ≤ few
  w : ∃ w : Str → Int, beh ns mo ks as (S0 ns) = ns.map w ∧ w one ≤ lateN late as.length
theorem late_mono {late : Int} {n : Nat} : lateN late n ≤ lateN late (n + 1) := by
  unfold lateN
  split <;> split <;> omega
def ansB (one : Str) (late : Int) (n : Nat) (k : List Str) : Bool := if (n : Int) = late then !decide (one ∈ k) else decide (one ∈ k)
theorem HI.step {ns : List Str} {ks : List (List Str)} {mo : Int} {one : Str} {late : Int} {few m : Nat} {as : List (Nat × Bool)} (nd : ns.Nodup) (hm : mo = 0 ∨ mo = 1) (h : HI ns ks mo one late few as (m + 1)) {i : Nat} (hd : dueO ns mo ks (beh ns mo ks as (S0 ns)) (m + 1) = some i) :
    i < ks.length ∧ ∃ M', M' ≤ m ∧ HI ns ks mo one late few (as ++ [(i, ansB one late as.length (kk ks i))]) M' := by
  obtain ⟨j, e1, hi, hr⟩ := due_is h.F
  have ej : j = i := Option.some.inj (e1.symm.trans hd)
  subst ej
  refine ⟨hi, ?_⟩
  have g := beh_gst (ks := ks) hm as _ (gst_begun (n := ns.length) hm)
  obtain ⟨w, ew, hw⟩ := h.w
  have bo : ∀ a, enB ns.length mo (rowsB ns ks) m (bhd mo (beh ns mo ks as (S0 ns)) (zRow ns (kk ks j)) a) = true := fun a => by
    unfold rB at hr
    rw [Bool.and_eq_true] at hr
    cases a
    · exact hr.2
    · exact hr.1
  have b1 := bo (ansB one late as.length (kk ks j))
  have g' := gst_bhd (k := kk ks j) (a := ansB one late as.length (kk ks j)) g hm
  have eb : beh ns mo ks (as ++ [(j, ansB one late as.length (kk ks j))]) (S0 ns) = bhd mo (beh ns mo ks as (S0 ns)) (zRow ns (kk ks j)) (ansB one late as.length (kk ks j)) := by
    unfold beh
    rw [List.foldl_append]
    rfl
  rcases few_or (ks := ks) nd hm g' with ⟨_, M', hM', F'⟩ | ⟨_, hn⟩
  · have le : M' ≤ m := by
      refine Nat.le_of_not_lt fun z => ?_
      have := F'.no m z
      rw [b1] at this
      exact Bool.noConfusion this
    refine ⟨M', le, ?_, ?_, hM', ?_, ?_⟩
    · intro p hp
      rcases List.mem_append.mp hp with hp | hp
      · exact h.ok p hp
      · rw [List.mem_singleton.mp hp]
        exact hi
    · rw [eb]
      exact F'
    · have := h.le
      rw [List.length_append, List.length_singleton]
      omega
    · rw [eb, ew, bhd_map]
      refine ⟨_, rfl, ?_⟩
      rw [List.length_append, List.length_singleton]
      have lm := late_mono (late := late) (n := as.length)
      unfold nxt ansB
      by_cases q : (as.length : Int) = late
      · have l0 : lateN late as.length = 0 := if_neg (by omega)
        have l1 : lateN late (as.length + 1) = 1 := if_pos (by omega)
        rw [l1]
        rw [l0] at hw
        split <;> split <;> omega
      · rw [if_neg q, if_neg (by simp)]
        omega
  · rw [hn m] at b1
    exact Bool.noConfusion b1
section
variable {c : Str → Addr} {ns : List Str} {ks : List (List Str)} {mo : Int} {one : Str} {late : Int}
abbrev hkF (ns : List Str) (ks : List (List Str)) (mo : Int) (one : Str) (late : Int) (s5 s6 s7 : Slot) : Rho := [.sh (wD ns), .sh (kD9 ks), .sh (.int mo), .sh (.str one), .sh (.int late), s5, s6, s7]
abbrev hkT : ET := (eAnd (eTest (eOp2 (fIsN true) (eVar 6) (eC .non))) (eTest (eOp2 (fInt2 fun a b => .bl (decide (a < b))) (eBor [5] (eOpN fLenS (aCons (eVar 5) aNil))) (eC (.int 40)))))
abbrev hk1 : ES := (eSet 7 (eOp2 (fInB false) (eVar 3) (eOp2 fIx (eVar 1) (eVar 6))))
abbrev hk2 : ES := (eDrop (eMut 5 fAppend (aCons (eTup (aCons (eVar 6) (aCons (eIfE (eTest (eOp2 fNe (eBor [5] (eOpN fLenS (aCons (eVar 5) aNil))) (eVar 4))) (eVar 7) (eNotV (eVar 7))) aNil))) aNil)))
noncomputable abbrev hk3 (c : Str → Addr) : ES := (eSet 6 (eBor [0, 1, 5, 2] (eCall (f_ask_next_e c) [] (aCons (eVar 0) (aCons (eVar 1) (aCons (eVar 5) (aCons (eVar 2) aNil)))))))
theorem hk_eq : b_l_hunted_e c = eSeq (ePar2 5 6 (vCons (eLst aNil) (vCons (eCall (f_ask_next_e c) [] (aCons (eVar 0) (aCons (eVar 1) (aCons (eLst aNil) (aCons (eVar 2) aNil))))) vNil))) (eSeq (eWhile 41 hkT (eSeq hk1 (eSeq hk2 (hk3 c)))) (eRet (eIfE (eTest (eOp2 fEq (eCall (f_possible_ones_e c) [] (aCons (eVar 0) (aCons (eVar 1) (aCons (eVar 5) (aCons (eVar 2) aNil))))) (eLst (aCons (eVar 3) aNil)))) (eOpN fLenS (aCons (eVar 5) aNil)) (eC .non)))) := rfl
theorem Bo {is : List Nat} {e : EE} {ρ ρ' : Rho} {v : Vd} (h : e (lendR is 0 ρ) = .ret (v, ρ')) (hi : v.imm = true) : eBor is e ρ = .ret (v, ρ) := by simp [h, hi]
theorem isN_ev (d : D) : fIsN true [d, .non] = some (.sh (.bl (!d.isNon))) := by cases d <;> rfl
theorem len5 {s6 s7 : Slot} {as : List (Nat × Bool)} : eBor [5] (eOpN fLenS (aCons (eVar 5) aNil)) (hkF ns ks mo one late (.ow (.lst (as.map anD))) s6 s7) = .ret (.sh (.int as.length), hkF ns ks mo one late (.ow (.lst (as.map anD))) s6 s7) := by
  have l : fLenS [.lst (as.map anD)] = some (.sh (.int as.length)) := by
    show some (Vd.sh (.int ((as.map anD).length : Nat))) = _
    rw [List.length_map]
  generalize as.map anD = X at *
  exact Bo (O1 (A1 (v := .sh (.lst X)) rfl) l) rfl
theorem hkT_no {s7 : Slot} {as : List (Nat × Bool)} : hkT (hkF ns ks mo one late (.ow (.lst (as.map anD))) (.sh .non) s7) = .ret (false, hkF ns ks mo one late (.ow (.lst (as.map anD))) (.sh .non) s7) := by
  have t := T0 (B2 (F := fIsN true) (var_sh (i := 6) (ρ := hkF ns ks mo one late (.ow (.lst (as.map anD))) (.sh .non) s7) (d := .non) rfl) (rfl : eC .non _ = .ret (.sh .non, _)) (isN_ev .non))
  show ((eTest _ _).bind _) = _
  rw [t]
  rfl
theorem hkT_yes {i : Nat} {s7 : Slot} {as : List (Nat × Bool)} (h : as.length < 40) : hkT (hkF ns ks mo one late (.ow (.lst (as.map anD))) (.sh (.int i)) s7) = .ret (true, hkF ns ks mo one late (.ow (.lst (as.map anD))) (.sh (.int i)) s7) := by
  have t := T1 (B2 (F := fIsN true) (var_sh (i := 6) (ρ := hkF ns ks mo one late (.ow (.lst (as.map anD))) (.sh (.int i)) s7) (d := .int i) rfl) (rfl : eC .non _ = .ret (.sh .non, _)) (isN_ev (.int i)))
  have t2 := testQ (B2 (F := ltI) (z := .sh (.bl (decide ((as.length : Int) < 40)))) (len5 (ns := ns) (ks := ks) (mo := mo) (one := one) (late := late) (s6 := .sh (.int i)) (s7 := s7) (as := as)) (rfl : eC (.int 40) _ = .ret (.sh (.int 40), _)) rfl)
  rw [decide_eq_true (show (as.length : Int) < 40 by omega)] at t2
  show ((eTest _ _).bind _) = _
  rw [t]
  exact t2
theorem ne_ii (a b : Int) : fNe [.int a, .int b] = some (.sh (.bl (!decide (a = b)))) := by
  have e : D.eqv (.int a) (.int b) = decide (a = b) := by rw [Bool.eq_iff_iff]; simp [D.eqv]
  simp [D.dep, e]
theorem app_ev {i : Nat} {e : EE} {ρ : Rho} {v : Vd} {X : List D} (he : e ρ = .ret (v, ρ)) (hi : ρ[i]? = some (.ow (.lst X))) (hl : X.length < 16777216) : eDrop (eMut i fAppend (aCons e aNil)) ρ = .ret (.nx (ρ.set i (.ow (.lst (X ++ [v.d]))))) := by
  simp [he, hi, sizeLine_eq, hl]
theorem notV_ev {i : Nat} {ρ : Rho} {b : Bool} (h : ρ[i]? = some (.sh (.bl b))) : eNotV (eVar i) ρ = .ret (.sh (.bl (!b)), ρ) := by simp [h]
theorem hk12 {i : Nat} {s7 : Slot} {as : List (Nat × Bool)} (hi : i < ks.length) (h : as.length < 40) {K : ES} : eSeq hk1 (eSeq hk2 K) (hkF ns ks mo one late (.ow (.lst (as.map anD))) (.sh (.int i)) s7) = K (hkF ns ks mo one late (.ow (.lst ((as ++ [(i, ansB one late as.length (kk ks i))]).map anD))) (.sh (.int i)) (.sh (.bl (decide (one ∈ kk ks i))))) := by
  have ix := ix_ks hi
  have iw := in_ws one (kk ks i) false
  rw [Bool.false_xor] at iw
  have s1 : hk1 (hkF ns ks mo one late (.ow (.lst (as.map anD))) (.sh (.int i)) s7) = .ret (.nx (hkF ns ks mo one late (.ow (.lst (as.map anD))) (.sh (.int i)) (.sh (.bl (decide (one ∈ kk ks i)))))) :=
    S1 (i := 7) (B2 (F := fInB false) (var_sh (i := 3) (d := .str one) rfl) (B2 (F := fIx) (var_sh (i := 1) (d := kD9 ks) rfl) (var_sh (i := 6) (d := .int i) rfl) ix) iw)
  rw [seq_nx s1]
  have t := testQ (B2 (F := fNe) (len5 (ns := ns) (ks := ks) (mo := mo) (one := one) (late := late) (s6 := .sh (.int i)) (s7 := .sh (.bl (decide (one ∈ kk ks i)))) (as := as)) (var_sh (i := 4) (d := .int late) rfl) (ne_ii _ _))
  have v : eIfE (eTest (eOp2 fNe (eBor [5] (eOpN fLenS (aCons (eVar 5) aNil))) (eVar 4))) (eVar 7) (eNotV (eVar 7)) (hkF ns ks mo one late (.ow (.lst (as.map anD))) (.sh (.int i)) (.sh (.bl (decide (one ∈ kk ks i))))) = .ret (.sh (.bl (ansB one late as.length (kk ks i))), hkF ns ks mo one late (.ow (.lst (as.map anD))) (.sh (.int i)) (.sh (.bl (decide (one ∈ kk ks i))))) := by
    refine (IfE1 t).trans ?_
    unfold ansB
    by_cases q : (as.length : Int) = late
    · rw [decide_eq_true q, if_neg (by decide), if_pos q]
      exact notV_ev (i := 7) rfl
    · rw [decide_eq_false q, if_pos (c := (!false) = true) rfl, if_neg q]
      exact var_sh (i := 7) rfl
  have tu := tup_ev (A2 (var_sh (i := 6) (d := .int i) rfl) v) (by simp)
  have s2 := app_ev (i := 5) tu rfl (by rw [List.length_map]; omega)
  refine (seq_nx s2).trans ?_
  rw [List.map_append]
  rfl
theorem A4b {e1 e2 e3 e4 : EE} {ρ ρ1 : Rho} {v1 v2 v3 v4 : Vd} (h1 : e1 ρ = .ret (v1, ρ)) (h2 : e2 ρ = .ret (v2, ρ)) (h3 : e3 ρ = .ret (v3, ρ1)) (h4 : e4 ρ1 = .ret (v4, ρ1)) : aCons e1 (aCons e2 (aCons e3 (aCons e4 aNil))) ρ = .ret ([v1.d, v2.d, v3.d, v4.d], ρ1) := by simp [h1, h2, h3, h4]
theorem hk_loop (H : Hu c ns ks mo (wD ns) (kD9 ks)) {few : Nat} (h15 : few ≤ 15) : ∀ (n M f : Nat) (as : List (Nat × Bool)) (s7 : Slot), M ≤ n → M < f → HI ns ks mo one late few as M →
    ∃ (as' : List (Nat × Bool)) (s7' : Slot), HI ns ks mo one late few as' 0 ∧ eWhile f hkT (eSeq hk1 (eSeq hk2 (hk3 c))) (hkF ns ks mo one late (.ow (.lst (as.map anD))) (.sh (oiD (dueO ns mo ks (beh ns mo ks as (S0 ns)) M))) s7) = .ret (.nx (hkF ns ks mo one late (.ow (.lst (as'.map anD))) (.sh .non) s7')) := by
  intro n
  induction n with
  | zero =>
    intro M f as s7 h1 h2 h
    have e : M = 0 := by omega
    subst e
    obtain ⟨f, rfl⟩ : ∃ k, f = k + 1 := ⟨f - 1, by omega⟩
    exact ⟨as, s7, h, while_end hkT_no⟩
  | succ n ih =>
    intro M f as s7 h1 h2 h
    obtain ⟨f, rfl⟩ : ∃ k, f = k + 1 := ⟨f - 1, by omega⟩
    cases M with
    | zero => exact ⟨as, s7, h, while_end hkT_no⟩
    | succ m =>
      obtain ⟨i, e1, hi, _⟩ := due_is h.F
      obtain ⟨_, M', hM', h'⟩ := h.step H.nd H.mo e1
      have hl := h.le
      obtain ⟨as', s7', g, e⟩ := ih M' f (as ++ [(i, ansB one late as.length (kk ks i))]) (.sh (.bl (decide (one ∈ kk ks i)))) (by omega) (by omega) h'
      refine ⟨as', s7', g, ?_⟩
      rw [← e, e1]
      have al : as.length < 40 := by omega
      have t : hkT (hkF ns ks mo one late (.ow (.lst (as.map anD))) (.sh (oiD (some i))) s7) = .ret (true, hkF ns ks mo one late (.ow (.lst (as.map anD))) (.sh (.int i)) s7) := hkT_yes al
      refine while_nx t ?_
      rw [hk12 hi al]
      generalize as ++ [(i, ansB one late as.length (kk ks i))] = bs at *
      have ak : f_ask_next_e c [wD ns, kD9 ks, .lst (bs.map anD), .int mo] = .ret (.sh (oiD (dueO ns mo ks (beh ns mo ks bs (S0 ns)) M'))) := ask_some (t := false) H h'.ok h'.F h'.hM
      have im : ∀ o : Option Nat, (Vd.sh (oiD o)).imm = true := fun o => by cases o <;> rfl
      have im := im (dueO ns mo ks (beh ns mo ks bs (S0 ns)) M')
      generalize oiD (dueO ns mo ks (beh ns mo ks bs (S0 ns)) M') = R at *
      generalize (D.lst (bs.map anD)) = X at *
      generalize decide (one ∈ kk ks i) = b at *
      have cl : eCall (f_ask_next_e c) [] (aCons (eVar 0) (aCons (eVar 1) (aCons (eVar 5) (aCons (eVar 2) aNil)))) (hkF ns ks mo one late (.sh X) (.sh (.int i)) (.sh (.bl b))) = .ret (.sh R, hkF ns ks mo one late (.sh X) (.sh (.int i)) (.sh (.bl b))) :=
        C1 (A4 (var_sh (i := 0) (d := wD ns) rfl) (var_sh (i := 1) (d := kD9 ks) rfl) (var_sh (i := 5) (d := X) rfl) (var_sh (i := 2) (d := .int mo) rfl)) ak
      exact S1 (i := 6) (Bo (ρ := hkF ns ks mo one late (.ow X) (.sh (.int i)) (.sh (.bl b))) cl im)
theorem only_one {l : List Str} {x : Str} (h : x ∈ l) (h2 : l.length < 2) : l = [x] := by
  match l, h, h2 with
  | [a], h, _ => rw [List.mem_singleton.mp h]
  | a :: b :: l, _, h2 =>
    simp only [List.length_cons] at h2
    omega
theorem hunted_ev (H : Hu c ns ks mo (wD ns) (kD9 ks)) {few : Nat} (F : Few ns mo ks (S0 ns) few) (hM : (few : Int) ≤ (1 + 2 * mo) * (ns.length : Int)) (h1 : one ∈ ns) (hl : mo = 1 ∨ late < 0) : ∃ t : Nat, f_l_hunted_e c [wD ns, kD9 ks, .int mo, .str one, .int late] = .ret (.sh (.int t)) ∧ t ≤ few := by
  have h15 := few_15 H hM
  have hi : HI ns ks mo one late few [] few := ⟨fun p hp => by simp at hp, F, hM, by simp, fun _ => 0, by
    show S0 ns = _
    unfold S0
    rw [List.map_const'], by
    show (0 : Int) ≤ lateN late _
    unfold lateN
    split <;> omega⟩
  obtain ⟨as', s7', g, e⟩ := hk_loop (late := late) H h15 few few 41 [] .no (Nat.le_refl _) (by omega) hi
  refine ⟨as'.length, ?_, by have := g.le; omega⟩
  refine def_ev rfl ?_
  rw [hk_eq]
  show eSeq _ _ (hkF ns ks mo one late .no .no .no) = _
  have ak : f_ask_next_e c [wD ns, kD9 ks, .lst [], .int mo] = .ret (.sh (oiD (dueO ns mo ks (beh ns mo ks [] (S0 ns)) few))) := ask_some (t := false) (as := []) H hi.ok hi.F hM
  have s1 : ePar2 5 6 (vCons (eLst aNil) (vCons (eCall (f_ask_next_e c) [] (aCons (eVar 0) (aCons (eVar 1) (aCons (eLst aNil) (aCons (eVar 2) aNil))))) vNil)) (hkF ns ks mo one late .no .no .no) = .ret (.nx (hkF ns ks mo one late (.ow (.lst [])) (.sh (oiD (dueO ns mo ks (beh ns mo ks [] (S0 ns)) few))) .no)) :=
    P2 (i := 5) (j := 6) (rfl : eLst aNil (hkF ns ks mo one late .no .no .no) = .ret (.nw (.lst []), hkF ns ks mo one late .no .no .no)) (C1 (A4 (var_sh (i := 0) (ρ := hkF ns ks mo one late .no .no .no) (d := wD ns) rfl) (var_sh (i := 1) (d := kD9 ks) rfl) (rfl : eLst aNil (hkF ns ks mo one late .no .no .no) = .ret (.nw (.lst []), hkF ns ks mo one late .no .no .no)) (var_sh (i := 2) (d := .int mo) rfl)) ak)
  refine (seq_nx s1).trans ((seq_nx e).trans ?_)
  have pe : f_possible_ones_e c [wD ns, kD9 ks, .lst (as'.map anD), .int mo] = .ret (.nw (wD (leftW ns mo (beh ns mo ks as' (S0 ns))))) := possible_ev (t := false) H g.ok
  have lw : leftW ns mo (beh ns mo ks as' (S0 ns)) = [one] := by
    obtain ⟨w, ew, hw⟩ := g.w
    have l2 := (few_zero g.F).mp rfl
    rw [ew, leftN_map] at l2
    rw [ew, left_map]
    refine only_one (List.mem_filter.mpr ⟨h1, decide_eq_true ?_⟩) l2
    have hmo := H.mo
    unfold lateN at hw
    split at hw <;> omega
  rw [lw] at pe
  have ln : fLenS [.lst (as'.map anD)] = some (.sh (.int as'.length)) := by
    show some (Vd.sh (.int ((as'.map anD).length : Nat))) = _
    rw [List.length_map]
  generalize (as'.map anD) = X at *
  have v5 : eVar 5 (hkF ns ks mo one late (.ow (.lst X)) (.sh .non) s7') = .ret (.sh (.lst X), hkF ns ks mo one late (.sh (.lst X)) (.sh .non) s7') := rfl
  have cl := C1 (A4b (var_sh (i := 0) (ρ := hkF ns ks mo one late (.ow (.lst X)) (.sh .non) s7') (d := wD ns) rfl) (var_sh (i := 1) (d := kD9 ks) rfl) v5 (var_sh (i := 2) (ρ := hkF ns ks mo one late (.sh (.lst X)) (.sh .non) s7') (d := .int mo) rfl)) pe
  have t := T1 (B2 (F := fEq) cl (L1 (A1 (var_sh (i := 3) (d := .str one) rfl)) (by simp)) (eq_same (.lst [.str one]) (by simp [D.dep, D.deps])))
  refine R1 (ρ1 := hkF ns ks mo one late (.sh (.lst X)) (.sh .non) s7') ((IfE1 t).trans ?_)
  exact O1 (A1 (var_sh (i := 5) (d := .lst X) rfl)) ln
end
end DL
set_option Elab.async false
set_option linter.all false
set_option maxRecDepth 100000
set_option maxHeartbeats 1000000
namespace DL
open PySem L2 PyProof.Rows
abbrev vs81 : List Nat := [2, 3, 4, 5, 6, 7, 8, 9, 10, 11, 12, 13, 14, 15]
abbrev q81 (d : D) (s3 s4 s5 s6 s7 s8 s9 s10 s11 s12 s13 s14 s15 : Slot) : Rho := [.no, .sh .stm, .sh d, s3, s4, s5, s6, s7, s8, s9, s10, s11, s12, s13, s14, s15]
section
variable {c : Str → Addr}
def IsDr9 (v : Vd) : Prop := ∃ ns ks, Drawn ns ks ∧ v = .sh (.tup [wD ns, kD9 ks])
theorem y0 (d : D) : Sat (bl_0 c (q81 d .no .no .no .no .no .no .no .no .no .no .no .no .no)) (fun o => ∃ ρ1, o = .nx ρ1 ∧ ∃ ns ks, Drawn ns ks ∧ ρ1 = q81 d (.sh (wD ns)) (.sh (kD9 ks)) .no .no .no .no .no .no .no .no .no .no .no) := by
  have a : aCons (eVar 1) (aCons (eC (.int 4)) aNil) (q81 d .no .no .no .no .no .no .no .no .no .no .no .no .no) = .ret ([.stm, .int 4], q81 d .no .no .no .no .no .no .no .no .no .no .no .no .no) := rfl
  have ms : Sat (f_l_m_suspects [.stm, .int 4]) IsDr9 := m_suspects_sat
  have cl := sat_call (f := f_l_m_suspects) (sat_exactA a) (fun ds h => by rw [show ds = _ from h]; exact ms)
  unfold bl_0
  generalize eCall f_l_m_suspects [] (aCons (eVar 1) (aCons (eC (.int 4)) aNil)) = E at *
  refine cl.bind ?_
  rintro ⟨v, ρ⟩ ⟨⟨ns, ks, g, rfl⟩, h⟩
  rw [show ρ = _ from h]
  exact Sat.of rfl ⟨_, rfl, ns, ks, g, rfl⟩
theorem ask4 {ks : List (List Str)} (h : Ask ks) : Ask (ks.take 4) := ⟨by
  intro z
  have := congrArg List.length z
  have h0 := List.length_pos_iff.mpr h.ne
  rw [List.length_take, List.length_nil] at this
  omega, by rw [List.length_take]; have := h.le; omega, fun k hk => h.ok k (List.mem_of_mem_take hk)⟩
theorem y1 (d : D) (s3 : Slot) (ks : List (List Str)) : Sat (bl_1 c (q81 d s3 (.sh (kD9 ks)) .no .no .no .no .no .no .no .no .no .no .no)) (fun o => ∃ ρ1, o = .nx ρ1 ∧ ∃ mo : Int, (mo = 0 ∨ mo = 1) ∧ ρ1 = q81 d s3 (.ow (kD9 (ks.take 4))) (.sh (.int mo)) .no .no .no .no .no .no .no .no .no .no) := by
  have a : aCons (eVar 1) (aCons (eC (.int 2)) aNil) (q81 d s3 (.sh (kD9 ks)) .no .no .no .no .no .no .no .no .no .no .no) = .ret ([.stm, .int 2], q81 d s3 (.sh (kD9 ks)) .no .no .no .no .no .no .no .no .no .no .no) := rfl
  have sl := sl_to (X := ks.map wD) (k := 4) (e := eC (.int 4)) (i := 4) (ρ := q81 d s3 (.sh (kD9 ks)) .no .no .no .no .no .no .no .no .no .no .no) rfl rfl
  rw [← List.map_take] at sl
  refine (sat_par2 (P := fun v => ∃ mo : Int, (mo = 0 ∨ mo = 1) ∧ v = .sh (.int mo)) (i := 5) (j := 4) (sat_call (P := fun v => ∃ mo : Int, (mo = 0 ∨ mo = 1) ∧ v = .sh (.int mo)) (sat_exactA a) (fun ds h => by
    rw [show ds = _ from h]
    exact ⟨draw_sat (by decide) (by decide) fun i i0 i1 => ⟨i, by omega, rfl⟩⟩)) (sat_exact sl)).imp ?_
  rintro o ⟨v, w, ⟨mo, hm, rfl⟩, hw, rfl⟩
  rw [show w = _ from hw]
  exact ⟨_, rfl, mo, hm, rfl⟩
theorem hu_of {ns : List Str} {ks : List (List Str)} {K : List (List Str)} {mo : Int} (g : Drawn ns ks) (hK : Ask K) (hm : mo = 0 ∨ mo = 1) {AD : D} (hA : AD = kD9 K ∨ AD = .tup (K.map wD)) : Hu c ns K mo (wD ns) AD where
  ne := g.ne
  le := Nat.le_trans g.le (by decide)
  nd := g.nd
  lk := hK.le
  mo := hm
  e1 := cs_ok g.ne g.nm g.nd
  e2 := by
    rcases hA with rfl | rfl
    · exact ca_ok hK
    · exact ca_ok_t hK
  k1 := fre_wD ns
  k2 := by
    rcases hA with rfl | rfl
    · exact fre_kD9 K
    · show D.fres (K.map wD) = true
      exact fres_of fun d hd => by
        obtain ⟨k, _, rfl⟩ := List.mem_map.mp hd
        exact fre_wD k
  ln := by
    rcases hA with rfl | rfl
    · show some (Vd.sh (.int ((K.map _).length : Nat))) = _
      rw [List.length_map]
    · show some (Vd.sh (.int ((K.map _).length : Nat))) = _
      rw [List.length_map]
theorem y2 (d : D) {ns : List Str} {ks K : List (List Str)} (g : Drawn ns ks) (hK : Ask K) {mo : Int} (hm : mo = 0 ∨ mo = 1) : ∃ o : Option Nat, (∀ M, o = some M → Few ns mo K (S0 ns) M ∧ (M : Int) ≤ (1 + 2 * mo) * (ns.length : Int)) ∧ bl_2 c (q81 d (.sh (wD ns)) (.ow (kD9 K)) (.sh (.int mo)) .no .no .no .no .no .no .no .no .no .no) = .ret (.nx (q81 d (.sh (wD ns)) (.sh (kD9 K)) (.sh (.int mo)) (.sh (oiD o)) .no .no .no .no .no .no .no .no .no)) := by
  obtain ⟨o, e, h⟩ := fewask_ev (hu_of (c := c) g hK hm (.inl rfl))
  have v4 : eVar 4 (q81 d (.sh (wD ns)) (.ow (kD9 K)) (.sh (.int mo)) .no .no .no .no .no .no .no .no .no .no) = .ret (.sh (kD9 K), q81 d (.sh (wD ns)) (.sh (kD9 K)) (.sh (.int mo)) .no .no .no .no .no .no .no .no .no .no) := rfl
  have as := A3 (var_sh (i := 3) (ρ := q81 d (.sh (wD ns)) (.ow (kD9 K)) (.sh (.int mo)) .no .no .no .no .no .no .no .no .no .no) (d := wD ns) rfl) v4 (var_sh (i := 5) (ρ := q81 d (.sh (wD ns)) (.sh (kD9 K)) (.sh (.int mo)) .no .no .no .no .no .no .no .no .no .no) (d := .int mo) rfl)
  exact ⟨o, h, S1 (i := 6) (C1 as e)⟩
/-! ### drawn answers, and what is asked next behind them -/
theorem mul_zero9 {n : Nat} (h1 : 1 ≤ n) (h2 : n ≤ 5) : fMul [.tup [.int 0], .int (n : Nat)] = some (.sh (zsD (List.replicate n 0))) := by
  have fl : ∀ n : Nat, (List.replicate n [D.int 0]).flatten = (List.replicate n (0 : Int)).map D.int := fun n => by
    induction n with
    | zero => rfl
    | succ n ih => rw [List.replicate_succ, List.flatten_cons, ih, List.replicate_succ]; rfl
  show (if [D.int 0] ≠ [] ∧ (1 : Int) ≤ (n : Int) ∧ (n : Int) ≤ 1000 ∧ [D.int 0].length ≤ 1000 then some (Vd.sh (.tup (List.replicate ((n : Int)).toNat [D.int 0]).flatten)) else none) = _
  rw [if_pos ⟨by simp, by omega, by omega, by simp⟩, Int.toNat_natCast, fl]
abbrev aftA (ns : List Str) (ks : List (List Str)) (as : List (Nat × Bool)) : List Int := as.foldl (fun st p => aft ns (kk ks p.1) st p.2) (S0 ns)
theorem aftA_app {ns : List Str} {ks : List (List Str)} {as : List (Nat × Bool)} {p : Nat × Bool} : aftA ns ks (as ++ [p]) = aft ns (kk ks p.1) (aftA ns ks as) p.2 := by
  unfold aftA
  rw [List.foldl_append]
  rfl
theorem aftA_ok {ns : List Str} {ks : List (List Str)} {mo : Int} (hm : mo = 0 ∨ mo = 1) : ∀ (as : List (Nat × Bool)) (st : List Int), st.length = ns.length → (∀ i ∈ st, 0 ≤ i) →
    (as.foldl (fun st p => aft ns (kk ks p.1) st p.2) st).length = ns.length ∧ (∀ i ∈ as.foldl (fun st p => aft ns (kk ks p.1) st p.2) st, 0 ≤ i) ∧ clamp mo (as.foldl (fun st p => aft ns (kk ks p.1) st p.2) st) = beh ns mo ks as (clamp mo st)
  | [], st, h1, h2 => ⟨h1, h2, rfl⟩
  | p :: as, st, h1, h2 => by
    have ih := aftA_ok (ks := ks) hm as (aft ns (kk ks p.1) st p.2) (aft_len h1) (aft_pos h2)
    rw [clamp_aft] at ih
    exact ih
abbrev f3 (d : D) (ns : List Str) (K : List (List Str)) (mo : Int) (F d7 : D) (s8 s9 s10 s11 s12 : Slot) : Rho := q81 d (.sh (wD ns)) (.sh (kD9 K)) (.sh (.int mo)) (.sh F) (.sh d7) s8 s9 s10 s11 s12 .no .no .no
abbrev w1 : ES := (ePar2 8 9 (vCons (eLst aNil) (vCons (eOp2 fMul (eTup (aCons (eC (.int 0)) aNil)) (eOpN fLenS (aCons (eVar 3) aNil))) vNil)))
abbrev w2a : ES := (eDrop (eMut 8 fAppend (aCons (eTup (aCons (eCall f_l_draw [] (aCons (eVar 1) (aCons (eOpN fLenS (aCons (eVar 4) aNil)) aNil))) (aCons (eOp2 fEq (eCall f_l_draw [] (aCons (eVar 1) (aCons (eC (.int 2)) aNil))) (eC (.int 0))) aNil))) aNil)))
abbrev w2b : ES := (eSet 9 (eCall f_l_m_after [] (aCons (eVar 3) (aCons (eVar 4) (aCons (eVar 9) (aCons (eOp2 fIx (eIxO 8 (eOp1 fNeg (eC (.int 1)))) (eC (.int 0))) (aCons (eOp2 fIx (eIxO 8 (eOp1 fNeg (eC (.int 1)))) (eC (.int 1))) aNil)))))))
abbrev w2 : ES := (eFor (iRng1 (aCons (eCall f_l_draw [] (aCons (eVar 1) (aCons (eC (.int 4)) aNil))) aNil)) (gN 10) (eSeq w2a w2b) [10])
abbrev w3 : ES := (eSet 11 (eCall f_l_due [] (aCons (eVar 3) (aCons (eVar 4) (aCons (eVar 5) (aCons (eVar 9) aNil))))))
abbrev w4 : ES := (eSet 12 (eCall f_l_pick [] (aCons (eVar 1) (aCons (eLst (aCons (eVar 8) (aCons (eOpN fTuple (aCons (eVar 8) aNil)) aNil))) aNil))))
noncomputable abbrev w5 (c : Str → Addr) : ES := (eIf (eNot (eTest (eCall (f_l_same 6) [] (aCons (eLst (aCons (eCall (f_ask_next_e c) [] (aCons (eVar 3) (aCons (eOpN fTuple (aCons (eVar 4) aNil)) (aCons (eVar 12) (aCons (eVar 5) aNil))))) aNil)) (aCons (eLst (aCons (eVar 11) aNil)) aNil))))) (eRet (eC (.bl false))) eSkip)
theorem bl3_eq : bl_3 c = eFor (iRng1 (aCons (eC (.int 4)) aNil)) (gN 7) (eSeq w1 (eSeq w2 (eSeq w3 (eSeq w4 (w5 c))))) [7, 8, 9, 10, 11, 12] := rfl
theorem w1_ev (d : D) {ns : List Str} (h1 : ns ≠ []) (h2 : ns.length ≤ 5) {K : List (List Str)} {mo : Int} {F d7 : D} : w1 (f3 d ns K mo F d7 .no .no .no .no .no) = .ret (.nx (f3 d ns K mo F d7 (.ow (.lst [])) (.sh (zsD (S0 ns))) .no .no .no)) := by
  have m := mul_zero9 (List.length_pos_iff.mpr h1) h2
  exact P2 (i := 8) (j := 9) (rfl : eLst aNil (f3 d ns K mo F d7 .no .no .no .no .no) = .ret (.nw (.lst []), f3 d ns K mo F d7 .no .no .no .no .no)) (B2 (F := fMul) (tup_ev (A1 (rfl : eC (.int 0) _ = .ret (.sh (.int 0), _))) (by simp)) (O1 (A1 (var_sh (i := 3) (d := wD ns) rfl)) (len_ws ns)) m)
theorem w2b_ev (d : D) {ns : List Str} {K : List (List Str)} {mo : Int} {F d7 : D} {st : List Int} {s10 : Slot} {X : List D} {i : Nat} {a : Bool} (hi : i < K.length) : w2b (f3 d ns K mo F d7 (.ow (.lst (X ++ [anD (i, a)]))) (.sh (zsD st)) s10 .no .no) = .ret (.nx (f3 d ns K mo F d7 (.ow (.lst (X ++ [anD (i, a)]))) (.sh (zsD (aft ns (kk K i) st a))) s10 .no .no)) := by
  have e := after_ev (ns := ns) (st := st) (a := a) hi
  have neg : ∀ ρ : Rho, eOp1 fNeg (eC (.int 1)) ρ = .ret (.sh (.int (-1)), ρ) := fun ρ => by simp
  have x := ixO_last (i := 8) (neg _) (show (f3 d ns K mo F d7 (.ow (.lst (X ++ [anD (i, a)]))) (.sh (zsD st)) s10 .no .no)[8]? = some (.ow (.lst (X ++ [anD (i, a)]))) from rfl)
  generalize X ++ [anD (i, a)] = Y at *
  exact S1 (i := 9) (C1 (A5 (var_sh (i := 3) (d := wD ns) rfl) (var_sh (i := 4) (d := kD9 K) rfl) (var_sh (i := 9) (d := zsD st) rfl) (B2 (F := fIx) x (rfl : eC (.int 0) _ = .ret (.sh (.int 0), _)) (ix_an0 (i, a))) (B2 (F := fIx) x (rfl : eC (.int 1) _ = .ret (.sh (.int 1), _)) (ix_an1 (i, a)))) e)
theorem sat_tup {a : EA} {ρ ρ1 : Rho} {R : List D → Prop} (ha : Sat (a ρ) (fun p => R p.1 ∧ p.2 = ρ1)) (hl : ∀ ds, R ds → ds.length ≤ sizeLine) : Sat (eTup a ρ) (fun p => (∃ ds, R ds ∧ p.1 = .sh (.tup ds)) ∧ p.2 = ρ1) := by
  unfold eTup
  refine ha.bind ?_
  rintro ⟨ds, ρ2⟩ ⟨h, rfl⟩
  have := hl ds h
  simp only [req, if_pos this]
  exact Sat.ret ⟨⟨ds, h, rfl⟩, rfl⟩
theorem sat_op2 {F : List D → Option Vd} {a b : EE} {ρ ρ1 ρ2 : Rho} {P R : Vd → Prop} (ha : Sat (a ρ) (fun p => P p.1 ∧ p.2 = ρ1)) {y : Vd} (hb : b ρ1 = .ret (y, ρ2)) (h : ∀ x, P x → ∃ z, F [x.d, y.d] = some z ∧ R z) : Sat (eOp2 F a b ρ) (fun p => R p.1 ∧ p.2 = ρ2) := by
  unfold eOp2
  refine ha.bind ?_
  rintro ⟨x, r⟩ ⟨hx, rfl⟩
  obtain ⟨z, e, hz⟩ := h x hx
  rw [hb]
  show Sat (opt (F [x.d, y.d]) fun z => .ret (z, ρ2)) _
  rw [e]
  exact Sat.ret ⟨hz, rfl⟩
def IsIx (n : Nat) (v : Vd) : Prop := ∃ i : Nat, i < n ∧ v = .sh (.int (i : Int))
def IsBl (v : Vd) : Prop := ∃ b : Bool, v = .sh (.bl b)
def IsAn (n : Nat) (v : Vd) : Prop := ∃ (i : Nat) (a : Bool), i < n ∧ v = .sh (anD (i, a))
theorem draw_ix {n : Nat} (h0 : 0 < n) (h1 : n < 1000) : Sat (f_l_draw [.stm, .int n]) (IsIx n) := ⟨draw_sat (by omega) (by omega) fun i i0 i1 => ⟨i.toNat, by omega, by rw [Int.toNat_of_nonneg i0]⟩⟩
theorem w2a_sat (d : D) {ns : List Str} {K : List (List Str)} {mo : Int} {F d7 : D} {st : List Int} {s10 : Slot} {X : List D} (h0 : 0 < K.length) (h1 : K.length < 1000) (hX : X.length < 16777216) : Sat (w2a (f3 d ns K mo F d7 (.ow (.lst X)) (.sh (zsD st)) s10 .no .no)) (fun o => ∃ v, IsAn K.length v ∧ o = .nx (f3 d ns K mo F d7 (.ow (.lst (X ++ [v.d]))) (.sh (zsD st)) s10 .no .no)) := by
  have ml : fLenS [kD9 K] = some (.sh (.int (K.length : Nat))) := by
    show some (Vd.sh (.int ((K.map _).length : Nat))) = _
    rw [List.length_map]
  generalize hR : f3 d ns K mo F d7 (.ow (.lst X)) (.sh (zsD st)) s10 .no .no = R
  have v1 : eVar 1 R = .ret (.sh .stm, R) := by rw [← hR]; rfl
  have v4 : eVar 4 R = .ret (.sh (kD9 K), R) := by rw [← hR]; rfl
  have g8 : R[8]? = some (.ow (.lst X)) := by rw [← hR]; rfl
  have gs : ∀ Y, R.set 8 (.ow (.lst Y)) = f3 d ns K mo F d7 (.ow (.lst Y)) (.sh (zsD st)) s10 .no .no := fun Y => by rw [← hR]; rfl
  have d1 := sat_call (P := IsIx K.length) (f := f_l_draw) (sat_exactA (A2 v1 (O1 (A1 v4) ml))) fun ds h => by
    rw [show ds = _ from h]
    exact draw_ix h0 h1
  have d2 := sat_call (P := IsIx 2) (f := f_l_draw) (sat_exactA (A2 v1 (rfl : eC (.int 2) R = .ret (.sh (.int 2), R)))) fun ds h => by
    rw [show ds = _ from h]
    exact draw_ix (n := 2) (by decide) (by decide)
  have d3 := sat_op2 (F := fEq) (R := IsBl) d2 (rfl : eC (.int 0) R = .ret (.sh (.int 0), R)) fun x hx => by
    obtain ⟨i, _, rfl⟩ := hx
    exact ⟨_, zEq_int i 0, _, rfl⟩
  have as := sat_cons d1 (sat_cons d3 (sat_exactA (rfl : aNil R = .ret ([], R))))
  have tu := sat_tup as fun ds h => by
    obtain ⟨v, ds2, _, ⟨w, ds3, _, h3, rfl⟩, rfl⟩ := h
    rw [show ds3 = [] from h3, sizeLine_eq]
    simp
  have tu2 : Sat (eTup (aCons (eCall f_l_draw [] (aCons (eVar 1) (aCons (eOpN fLenS (aCons (eVar 4) aNil)) aNil))) (aCons (eOp2 fEq (eCall f_l_draw [] (aCons (eVar 1) (aCons (eC (.int 2)) aNil))) (eC (.int 0))) aNil)) R) (fun p => IsAn K.length p.1 ∧ p.2 = R) := tu.imp fun p hp => by
    obtain ⟨⟨ds, ⟨v, ds2, ⟨i, hi, rfl⟩, ⟨w, ds3, ⟨b, rfl⟩, h3, rfl⟩, rfl⟩, e⟩, h2⟩ := hp
    rw [show ds3 = [] from h3] at e
    exact ⟨⟨i, b, hi, e⟩, h2⟩
  refine (sat_app (P := IsAn K.length) (i := 8) (X := X) (Y := X) tu2 g8 g8 hX).imp ?_
  rintro o ⟨v, hv, rfl⟩
  exact ⟨v, hv, by rw [gs]⟩
theorem w2_sat (d : D) {ns : List Str} {K : List (List Str)} {mo : Int} {F d7 : D} (h0 : 0 < K.length) (h1 : K.length < 1000) : Sat (w2 (f3 d ns K mo F d7 (.ow (.lst [])) (.sh (zsD (S0 ns))) .no .no .no)) (fun o => ∃ ρ1, o = .nx ρ1 ∧ ∃ as : List (Nat × Bool), (∀ p ∈ as, p.1 < K.length) ∧ ρ1 = f3 d ns K mo F d7 (.ow (.lst (as.map anD))) (.sh (zsD (aftA ns K as))) .no .no .no) := by
  have go : ∀ n : Nat, n < 4 → Sat (eForGo (gN 10) (eSeq w2a w2b) [10] (rangeD 0 n) (f3 d ns K mo F d7 (.ow (.lst [])) (.sh (zsD (S0 ns))) .no .no .no)) (fun o => ∃ ρ1, o = .nx ρ1 ∧ ∃ as : List (Nat × Bool), (∀ p ∈ as, p.1 < K.length) ∧ ρ1 = f3 d ns K mo F d7 (.ow (.lst (as.map anD))) (.sh (zsD (aftA ns K as))) .no .no .no) := by
    intro n hn
    refine for_box (fun ds ρ => ∃ as : List (Nat × Bool), (∀ p ∈ as, p.1 < K.length) ∧ as.length + ds.length = n ∧ ρ = f3 d ns K mo F d7 (.ow (.lst (as.map anD))) (.sh (zsD (aftA ns K as))) .no .no .no) ?_ ?_ _ _ ⟨[], fun p hp => by simp at hp, by rw [rangeD_len]; simp, rfl⟩
    · rintro ρ ⟨as, a1, a2, rfl⟩
      exact ⟨_, rfl, as, a1, rfl⟩
    · rintro e ds ρ ⟨as, a1, a2, rfl⟩
      rw [List.length_cons] at a2
      refine ⟨f3 d ns K mo F d7 (.ow (.lst (as.map anD))) (.sh (zsD (aftA ns K as))) (.sh e) .no .no, rfl, ?_⟩
      refine seq_sat (P := fun ρ1 => ∃ (i : Nat) (a : Bool), i < K.length ∧ ρ1 = f3 d ns K mo F d7 (.ow (.lst (as.map anD ++ [anD (i, a)]))) (.sh (zsD (aftA ns K as))) (.sh e) .no .no) ((w2a_sat d h0 h1 (by rw [List.length_map]; omega)).imp ?_) ?_
      · rintro o ⟨v, ⟨i, a, hi, rfl⟩, rfl⟩
        exact ⟨_, rfl, i, a, hi, rfl⟩
      · rintro ρ1 ⟨i, a, hi, rfl⟩
        refine Sat.of (w2b_ev d hi) ⟨_, rfl, as ++ [(i, a)], ?_, ?_, ?_⟩
        · intro p hp
          rcases List.mem_append.mp hp with hp | hp
          · exact a1 p hp
          · rw [List.mem_singleton.mp hp]
            exact hi
        · simp
          omega
        · rw [aftA_app, List.map_append]
          rfl
  generalize hR : f3 d ns K mo F d7 (.ow (.lst [])) (.sh (zsD (S0 ns))) .no .no .no = R at *
  have ew : wipeR R [10] = R := by rw [← hR]; rfl
  have cl := sat_call (P := IsIx 4) (f := f_l_draw) (sat_exactA (show aCons (eVar 1) (aCons (eC (.int 4)) aNil) R = .ret ([.stm, .int 4], R) by rw [← hR]; rfl)) fun ds h => by
    rw [show ds = _ from h]
    exact draw_ix (n := 4) (by decide) (by decide)
  unfold w2
  generalize eSeq w2a w2b = B at *
  generalize eCall f_l_draw [] (aCons (eVar 1) (aCons (eC (.int 4)) aNil)) = E at *
  have it : Sat (iRng1 (aCons E aNil) R) (fun p => ∃ n : Nat, n < 4 ∧ p = (rangeD 0 n, R)) := by
    have ag := sat_cons cl (sat_exactA (rfl : aNil R = .ret ([], R)))
    generalize aCons E aNil = A at *
    refine ag.bind ?_
    rintro ⟨ds, r⟩ ⟨⟨v, ds2, ⟨n, hn, rfl⟩, h3, e⟩, h⟩
    rw [show r = _ from h, show ds = _ from e, show ds2 = [] from h3]
    have t4 : (n : Int) ≤ 16777216 := by omega
    have t3 : -(4611686018427387904 : Int) ≤ (n : Int) := by omega
    refine Sat.of (a := (rangeD 0 n, R)) ?_ ⟨n, hn, rfl⟩
    have t5 : n ≤ 16777216 := by omega
    simp [sizeLine_eq, t3, t4, t5]
  unfold eFor
  refine it.bind ?_
  rintro p ⟨n, h2, rfl⟩
  show Sat (eForGo (gN 10) B [10] (rangeD 0 n) (wipeR R [10])) _
  rw [ew]
  exact go n h2
theorem pick_in9 {l : List D} (h0 : 0 < l.length) (h1 : l.length < 900) : Sat (f_l_pick [.stm, .lst l]) (fun v => ∃ x ∈ l, v = .sh x) := ⟨pick_sat h0 (by omega) fun x hx => ⟨x, hx, rfl⟩⟩
def IsSq (X : List D) (v : Vd) : Prop := ∃ t : Bool, v = .sh (sqD t X)
theorem w4_sat (d : D) {ns : List Str} {K : List (List Str)} {mo : Int} {F d7 : D} {as : List (Nat × Bool)} {s9 s11 : Slot} : Sat (w4 (f3 d ns K mo F d7 (.ow (.lst (as.map anD))) s9 .no s11 .no)) (fun o => ∃ t : Bool, o = .nx (f3 d ns K mo F d7 (.sh (.lst (as.map anD))) s9 .no s11 (.sh (sqD t (as.map anD))))) := by
  generalize as.map anD = X
  have v8 : eVar 8 (f3 d ns K mo F d7 (.ow (.lst X)) s9 .no s11 .no) = .ret (.sh (.lst X), f3 d ns K mo F d7 (.sh (.lst X)) s9 .no s11 .no) := rfl
  have al := A2 (var_sh (i := 1) (ρ := f3 d ns K mo F d7 (.ow (.lst X)) s9 .no s11 .no) (d := .stm) rfl) (L1 (A2 v8 (O1 (A1 (var_sh (i := 8) (ρ := f3 d ns K mo F d7 (.sh (.lst X)) s9 .no s11 .no) (d := .lst X) rfl)) (rfl : fTuple [.lst X] = some (.sh (.tup X))))) (by simp))
  have pp := sat_call (P := IsSq X) (f := f_l_pick) (sat_exactA al) fun ds h => by
    rw [show ds = _ from h]
    exact (pick_in9 (l := [.lst X, .tup X]) (by simp) (by simp)).imp fun v ⟨x, hx, e⟩ => by
      simp only [List.mem_cons, List.not_mem_nil, or_false] at hx
      rcases hx with rfl | rfl
      · exact ⟨false, e⟩
      · exact ⟨true, e⟩
  refine (sat_set (i := 12) pp).imp ?_
  rintro o ⟨v, ⟨t, rfl⟩, rfl⟩
  exact ⟨t, rfl⟩
theorem same_oi (o : Option Nat) : f_l_same 6 [.lst [oiD o], .lst [oiD o]] = .ret (.sh (.bl true)) := by
  cases o with
  | none => exact same_l_non
  | some i => exact same_refl 6 _ (by simp [oiD, plainD, plainDs])
theorem w5_ev (d : D) {ns : List Str} {K : List (List Str)} {mo : Int} {F d7 A : D} {o : Option Nat} {s8 s9 : Slot} (ha : f_ask_next_e c [wD ns, .tup (K.map wD), A, .int mo] = .ret (.sh (oiD o))) : w5 c (f3 d ns K mo F d7 s8 s9 .no (.sh (oiD o)) (.sh A)) = .ret (.nx (f3 d ns K mo F d7 s8 s9 .no (.sh (oiD o)) (.sh A))) := by
  have s := same_oi o
  unfold w5
  generalize oiD o = R at *
  generalize f_l_same 6 = G at *
  have tk : fTuple [kD9 K] = some (.sh (.tup (K.map wD))) := rfl
  have cl := C1 (A4 (var_sh (i := 3) (ρ := f3 d ns K mo F d7 s8 s9 .no (.sh R) (.sh A)) (d := wD ns) rfl) (O1 (A1 (var_sh (i := 4) (d := kD9 K) rfl)) tk) (var_sh (i := 12) (d := A) rfl) (var_sh (i := 5) (d := .int mo) rfl)) ha
  exact If0 (N1 (T1 (C1 (A2 (L1 (A1 cl) (by simp)) (L1 (A1 (var_sh (i := 11) (d := R) rfl)) (by simp))) s))) rfl
theorem turn3 (d : D) {ns : List Str} {ks K : List (List Str)} (g : Drawn ns ks) (hK : Ask K) {mo : Int} (hm : mo = 0 ∨ mo = 1) {F d7 : D} : Sat (eSeq w1 (eSeq w2 (eSeq w3 (eSeq w4 (w5 c)))) (f3 d ns K mo F d7 .no .no .no .no .no)) (fun o => ∃ ρ2, o = .nx ρ2 ∧ wipeR ρ2 [7, 8, 9, 10, 11, 12] = q81 d (.sh (wD ns)) (.sh (kD9 K)) (.sh (.int mo)) (.sh F) .no .no .no .no .no .no .no .no .no) := by
  have hn : ns.length ≤ 5 := Nat.le_trans g.le (by decide)
  have hk := hK.le
  refine seq_ret (w1_ev d g.ne hn) ?_
  refine seq_sat (w2_sat d (List.length_pos_iff.mpr hK.ne) (by omega)) ?_
  rintro ρ1 ⟨as, ha, rfl⟩
  obtain ⟨q1, q2, q3⟩ := aftA_ok (ns := ns) (ks := K) hm as (S0 ns) List.length_replicate (fun i hi => by rw [List.eq_of_mem_replicate hi]; decide)
  rw [clamp_of (gst_begun (n := ns.length) hm)] at q3
  have H := hu_of (c := c) g hK hm (AD := .tup (K.map wD)) (.inr rfl)
  have key : ∃ o : Option Nat, f_l_due [wD ns, kD9 K, .int mo, zsD (aftA ns K as)] = .ret (.sh (oiD o)) ∧ ∀ t, f_ask_next_e c [wD ns, .tup (K.map wD), sqD t (as.map anD), .int mo] = .ret (.sh (oiD o)) := by
    have gs := beh_gst (ks := K) hm as _ (gst_begun (n := ns.length) hm)
    rcases few_or (ks := K) g.nd hm gs with ⟨nd, M, hM, Fw⟩ | ⟨nd, hno⟩
    · refine ⟨dueO ns mo K (beh ns mo K as (S0 ns)) M, ?_, fun t => ask_some H ha Fw hM⟩
      rw [← q3]
      rw [← q3] at nd Fw
      exact due_some hn hk hm q1 q2 nd Fw (few_15 H hM)
    · refine ⟨none, ?_, fun t => ask_none H ha hno⟩
      rw [← q3] at nd
      exact due_none nd
  obtain ⟨o, e1, e2⟩ := key
  have s3 : w3 (f3 d ns K mo F d7 (.ow (.lst (as.map anD))) (.sh (zsD (aftA ns K as))) .no .no .no) = .ret (.nx (f3 d ns K mo F d7 (.ow (.lst (as.map anD))) (.sh (zsD (aftA ns K as))) .no (.sh (oiD o)) .no)) := S1 (i := 11) (C1 (A4 (var_sh (i := 3) (d := wD ns) rfl) (var_sh (i := 4) (d := kD9 K) rfl) (var_sh (i := 5) (d := .int mo) rfl) (var_sh (i := 9) (d := zsD (aftA ns K as)) rfl)) e1)
  refine seq_ret s3 ?_
  refine seq_sat (P := fun ρ1 => ∃ t : Bool, ρ1 = f3 d ns K mo F d7 (.sh (.lst (as.map anD))) (.sh (zsD (aftA ns K as))) .no (.sh (oiD o)) (.sh (sqD t (as.map anD)))) (w4_sat d |>.imp ?_) ?_
  · rintro o2 ⟨t, rfl⟩
    exact ⟨_, rfl, t, rfl⟩
  · rintro ρ1 ⟨t, rfl⟩
    exact Sat.of (w5_ev d (e2 t)) ⟨_, rfl, rfl⟩
theorem y3 (d : D) {ns : List Str} {ks K : List (List Str)} (g : Drawn ns ks) (hK : Ask K) {mo : Int} (hm : mo = 0 ∨ mo = 1) {F : D} : Sat (bl_3 c (q81 d (.sh (wD ns)) (.sh (kD9 K)) (.sh (.int mo)) (.sh F) .no .no .no .no .no .no .no .no .no)) (fun o => ∃ ρ1, o = .nx ρ1 ∧ ρ1 = q81 d (.sh (wD ns)) (.sh (kD9 K)) (.sh (.int mo)) (.sh F) .no .no .no .no .no .no .no .no .no) := by
  rw [bl3_eq]
  have tn : ∀ d7, Sat (eSeq w1 (eSeq w2 (eSeq w3 (eSeq w4 (w5 c)))) (f3 d ns K mo F d7 .no .no .no .no .no)) (fun o => ∃ ρ2, o = .nx ρ2 ∧ wipeR ρ2 [7, 8, 9, 10, 11, 12] = q81 d (.sh (wD ns)) (.sh (kD9 K)) (.sh (.int mo)) (.sh F) .no .no .no .no .no .no .no .no .no) := fun d7 => turn3 d g hK hm
  generalize eSeq w1 (eSeq w2 (eSeq w3 (eSeq w4 (w5 c)))) = B at *
  have e : eFor (iRng1 (aCons (eC (.int 4)) aNil)) (gN 7) B [7, 8, 9, 10, 11, 12] (q81 d (.sh (wD ns)) (.sh (kD9 K)) (.sh (.int mo)) (.sh F) .no .no .no .no .no .no .no .no .no) = eForGo (gN 7) B [7, 8, 9, 10, 11, 12] (rangeD 0 4) (q81 d (.sh (wD ns)) (.sh (kD9 K)) (.sh (.int mo)) (.sh F) .no .no .no .no .no .no .no .no .no) := by
    unfold eFor
    rw [rng_ev (n := 4) (rfl : eC (.int 4) _ = .ret (.sh (.int 4), _)) rfl (by decide)]
    rfl
  rw [e]
  refine for_box (fun ds ρ => ρ = q81 d (.sh (wD ns)) (.sh (kD9 K)) (.sh (.int mo)) (.sh F) .no .no .no .no .no .no .no .no .no) (fun ρ h => ⟨ρ, rfl, h⟩) (fun x ds ρ h => ?_) _ _ rfl
  subst h
  exact ⟨_, rfl, tn x⟩
/-! ### each one is found -/
def LateOk (mo : Int) (ls : List D) : Prop := ∀ x ∈ ls, ∃ l : Int, x = .int l ∧ (mo = 1 ∨ l < 0)
abbrev f4 (d : D) (ns : List Str) (K : List (List Str)) (mo : Int) (few : Nat) (s13 s14 s15 : Slot) : Rho := q81 d (.sh (wD ns)) (.sh (kD9 K)) (.sh (.int mo)) (.sh (.int few)) .no .no .no .no .no .no s13 s14 s15
noncomputable abbrev v1B (c : Str → Addr) : ES := (eSeq (eSet 15 (eCall (f_l_hunted_e c) [] (aCons (eVar 3) (aCons (eVar 4) (aCons (eVar 5) (aCons (eVar 13) (aCons (eVar 14) aNil)))))))
    (eIf (eOr (eTest (eOp2 (fIsN false) (eVar 15) (eC .non))) (eTest (eOp2 (fInt2 fun a b => .bl (decide (b < a))) (eVar 15) (eVar 6)))) (eRet (eC (.bl false))) eSkip))
abbrev v1M : EE := (eSl (eCall f_l_mixed [] (aCons (eVar 1) (aCons (eOp1 fRgL (eVar 6)) aNil))) oNone (oSome (eOp2 fMul (eC (.int 2)) (eVar 5))))
abbrev v1I : EA := iItems (eOp2 fAdd (eLst (aCons (eOp1 fNeg (eC (.int 1))) aNil)) v1M)
noncomputable abbrev v1 (c : Str → Addr) : ES := (eFor v1I (gN 14) (v1B c) [14, 15])
theorem bl4_eq : bl_4 c = eIf (eTest (eOp2 (fIsN true) (eVar 6) (eC .non))) (eFor (iItems (eVar 3)) (gN 13) (v1 c) [13, 14, 15]) eSkip := rfl
theorem rgL_ev (n : Nat) (h : n ≤ 1000) : fRgL [.int (n : Int)] = some (.nw (.lst ((List.range n).map fun i : Nat => D.int (i : Int)))) := by
  show (if 0 ≤ (n : Int) ∧ (n : Int) ≤ 16777216 then some (Vd.nw (.lst (rgD n))) else none) = _
  rw [if_pos ⟨by omega, by omega⟩]
  unfold rgD
  rfl
theorem v1M_sat {R : Rho} {mo : Int} {few : Nat} (hm : mo = 0 ∨ mo = 1) (hf : few ≤ 15) (v1 : eVar 1 R = .ret (.sh .stm, R)) (v6 : eVar 6 R = .ret (.sh (.int few), R)) (v5 : eVar 5 R = .ret (.sh (.int mo), R)) : Sat (v1M R) (fun p => (∃ ls, LateOk mo ls ∧ ls.length ≤ 15 ∧ p.1 = .nw (.lst ls)) ∧ p.2 = R) := by
  have al := A2 v1 (B1 (F := fRgL) v6 (rgL_ev few (by omega)))
  have cl := sat_call (P := fun v => ∃ ys : List D, ys.Perm ((List.range few).map fun i : Nat => D.int (i : Int)) ∧ v = .nw (.lst ys)) (f := f_l_mixed) (sat_exactA al) fun ds h => by
    rw [show ds = _ from h]
    exact ⟨mixed_satL (by simp; omega) fun ys hp => ⟨ys, hp, rfl⟩⟩
  have mu : eOp2 fMul (eC (.int 2)) (eVar 5) R = .ret (.sh (.int (2 * mo)), R) := B2 (F := fMul) (rfl : eC (.int 2) R = .ret (.sh (.int 2), R)) v5 (mul_ii 2 mo (by omega))
  unfold v1M
  generalize eCall f_l_mixed [] (aCons (eVar 1) (aCons (eOp1 fRgL (eVar 6)) aNil)) = E at *
  generalize eOp2 fMul (eC (.int 2)) (eVar 5) = M at *
  have hk : ∃ k : Nat, 2 * mo = (k : Int) ∧ (k = 0 ∨ mo = 1) := by
    rcases hm with rfl | rfl
    · exact ⟨0, rfl, .inl rfl⟩
    · exact ⟨2, rfl, .inr rfl⟩
  obtain ⟨k, ek, hk⟩ := hk
  rw [ek] at mu
  unfold eSl
  refine cl.bind ?_
  rintro ⟨v, r⟩ ⟨⟨ys, hp, rfl⟩, h⟩
  rw [show r = R from h]
  have ct := cut_to ys k
  refine Sat.of (a := (.nw (.lst (ys.take k)), R)) ?_ ⟨⟨ys.take k, ?_, ?_, rfl⟩, rfl⟩
  · simp [mu, ct]
  · intro x hx
    rcases hk with rfl | hk
    · simp at hx
    · obtain ⟨i, _, rfl⟩ := List.mem_map.mp (hp.subset (List.mem_of_mem_take hx))
      exact ⟨i, rfl, .inl hk⟩
  · have := hp.length_eq
    rw [List.length_map, List.length_range] at this
    rw [List.length_take]
    omega
theorem v1I_sat {R : Rho} {mo : Int} {few : Nat} (hm : mo = 0 ∨ mo = 1) (hf : few ≤ 15) (v1 : eVar 1 R = .ret (.sh .stm, R)) (v6 : eVar 6 R = .ret (.sh (.int few), R)) (v5 : eVar 5 R = .ret (.sh (.int mo), R)) : Sat (v1I R) (fun p => ∃ ls, LateOk mo ls ∧ p = (ls, R)) := by
  have m := v1M_sat hm hf v1 v6 v5
  have l1 : eLst (aCons (eOp1 fNeg (eC (.int 1))) aNil) R = .ret (.nw (.lst [.int (-1)]), R) := L1 (A1 (v := .sh (.int (-1))) (by simp)) (by simp)
  unfold v1I
  generalize v1M = E at *
  generalize eLst (aCons (eOp1 fNeg (eC (.int 1))) aNil) = L at *
  have s : Sat (eOp2 fAdd L E R) (fun p => (∃ ls, LateOk mo ls ∧ p.1 = .nw (.lst ls)) ∧ p.2 = R) := by
    unfold eOp2
    rw [l1]
    show Sat ((E R).bind _) _
    refine m.bind ?_
    rintro ⟨v, r⟩ ⟨⟨ls, h1, h2, h3⟩, h⟩
    rw [show r = R from h, show v = _ from h3]
    have ad := add_lst (X := [.int (-1)]) (Y := ls) (by simp; omega)
    show Sat (opt (fAdd [.lst [.int (-1)], .lst ls]) _) _
    rw [ad]
    refine Sat.ret ⟨⟨_, ?_, rfl⟩, rfl⟩
    intro x hx
    rcases List.mem_append.mp hx with hx | hx
    · rw [List.mem_singleton.mp hx]
      exact ⟨-1, rfl, .inr (by decide)⟩
    · exact h1 x hx
  refine s.bind ?_
  rintro ⟨v, r⟩ ⟨⟨ls, h1, h3⟩, h⟩
  rw [show r = R from h, show v = _ from h3]
  exact Sat.of rfl ⟨ls, h1, rfl⟩
theorem v1B_ev (d : D) {ns : List Str} {K : List (List Str)} {mo : Int} {few : Nat} (H : Hu c ns K mo (wD ns) (kD9 K)) (F : Few ns mo K (S0 ns) few) (hM : (few : Int) ≤ (1 + 2 * mo) * (ns.length : Int)) {one : Str} (h1 : one ∈ ns) {late : Int} (hl : mo = 1 ∨ late < 0) :
    ∃ s15, v1B c (f4 d ns K mo few (.sh (.str one)) (.sh (.int late)) .no) = .ret (.nx (f4 d ns K mo few (.sh (.str one)) (.sh (.int late)) s15)) := by
  obtain ⟨t, e, ht⟩ := hunted_ev (c := c) (one := one) (late := late) H F hM h1 hl
  refine ⟨.sh (.int t), ?_⟩
  have s := S1 (i := 15) (C1 (A5 (var_sh (i := 3) (ρ := f4 d ns K mo few (.sh (.str one)) (.sh (.int late)) .no) (d := wD ns) rfl) (var_sh (i := 4) (d := kD9 K) rfl) (var_sh (i := 5) (d := .int mo) rfl) (var_sh (i := 13) (d := .str one) rfl) (var_sh (i := 14) (d := .int late) rfl)) e)
  refine (seq_nx s).trans ?_
  have t1 := none_ev (i := 15) (ρ := f4 d ns K mo few (.sh (.str one)) (.sh (.int late)) (.sh (.int t))) (d := .int t) rfl
  have t2 := testQ (B2 (F := fInt2 fun a b => .bl (decide (b < a))) (z := .sh (.bl (decide ((few : Int) < (t : Int))))) (var_sh (i := 15) (ρ := f4 d ns K mo few (.sh (.str one)) (.sh (.int late)) (.sh (.int t))) (d := .int t) rfl) (var_sh (i := 6) (d := .int few) rfl) rfl)
  rw [decide_eq_false (show ¬ (few : Int) < (t : Int) by omega)] at t2
  exact If0 (orF t1 t2) rfl
theorem v1_sat (d : D) {ns : List Str} {K : List (List Str)} {mo : Int} {few : Nat} (H : Hu c ns K mo (wD ns) (kD9 K)) (F : Few ns mo K (S0 ns) few) (hM : (few : Int) ≤ (1 + 2 * mo) * (ns.length : Int)) {one : Str} (h1 : one ∈ ns) : Sat (v1 c (f4 d ns K mo few (.sh (.str one)) .no .no)) (fun o => ∃ ρ2, o = .nx ρ2 ∧ wipeR ρ2 [13, 14, 15] = f4 d ns K mo few .no .no .no) := by
  have it := v1I_sat (R := f4 d ns K mo few (.sh (.str one)) .no .no) H.mo (few_15 H hM) rfl rfl rfl
  have bd : ∀ late, (mo = 1 ∨ late < 0) → ∃ s15, v1B c (f4 d ns K mo few (.sh (.str one)) (.sh (.int late)) .no) = .ret (.nx (f4 d ns K mo few (.sh (.str one)) (.sh (.int late)) s15)) := fun late hl => v1B_ev d H F hM h1 hl
  unfold v1
  generalize v1B c = B at *
  generalize v1I = I at *
  unfold eFor
  refine it.bind ?_
  rintro p ⟨ls, hl, rfl⟩
  show Sat (eForGo (gN 14) B [14, 15] ls (f4 d ns K mo few (.sh (.str one)) .no .no)) _
  refine for_box (fun ds ρ => ρ = f4 d ns K mo few (.sh (.str one)) .no .no ∧ LateOk mo ds) (fun ρ h => ⟨ρ, rfl, by rw [h.1]; rfl⟩) (fun x ds ρ h => ?_) _ _ ⟨rfl, hl⟩
  obtain ⟨rfl, h2⟩ := h
  obtain ⟨l, rfl, hl⟩ := h2 _ List.mem_cons_self
  obtain ⟨s15, e⟩ := bd l hl
  exact ⟨_, rfl, Sat.of e ⟨_, rfl, rfl, fun y hy => h2 y (List.mem_cons_of_mem _ hy)⟩⟩
theorem y4 (d : D) {ns : List Str} {ks K : List (List Str)} (g : Drawn ns ks) (hK : Ask K) {mo : Int} (hm : mo = 0 ∨ mo = 1) {o : Option Nat} (ho : ∀ M, o = some M → Few ns mo K (S0 ns) M ∧ (M : Int) ≤ (1 + 2 * mo) * (ns.length : Int)) : Sat (bl_4 c (q81 d (.sh (wD ns)) (.sh (kD9 K)) (.sh (.int mo)) (.sh (oiD o)) .no .no .no .no .no .no .no .no .no)) (fun o => ∃ ρ1, o = .nx ρ1 ∧ wipeR ρ1 vs81 = rho0 16) := by
  rw [bl4_eq]
  cases o with
  | none =>
    have t := T0 (B2 (F := fIsN true) (var_sh (i := 6) (ρ := q81 d (.sh (wD ns)) (.sh (kD9 K)) (.sh (.int mo)) (.sh .non) .no .no .no .no .no .no .no .no .no) (d := .non) rfl) (rfl : eC .non _ = .ret (.sh .non, _)) (isN_ev .non))
    exact Sat.of (If0 t rfl) ⟨_, rfl, rfl⟩
  | some few =>
    obtain ⟨F, hM⟩ := ho few rfl
    have H := hu_of (c := c) g hK hm (AD := kD9 K) (.inl rfl)
    have t := T1 (B2 (F := fIsN true) (var_sh (i := 6) (ρ := f4 d ns K mo few .no .no .no) (d := .int few) rfl) (rfl : eC .non _ = .ret (.sh .non, _)) (isN_ev (.int few)))
    have bd : ∀ one, one ∈ ns → Sat (v1 c (f4 d ns K mo few (.sh (.str one)) .no .no)) (fun o => ∃ ρ2, o = .nx ρ2 ∧ wipeR ρ2 [13, 14, 15] = f4 d ns K mo few .no .no .no) := fun one h => v1_sat d H F hM h
    generalize v1 c = B at *
    have e : eIf (eTest (eOp2 (fIsN true) (eVar 6) (eC .non))) (eFor (iItems (eVar 3)) (gN 13) B [13, 14, 15]) eSkip (f4 d ns K mo few .no .no .no) = eForGo (gN 13) B [13, 14, 15] (wsD ns) (f4 d ns K mo few .no .no .no) := (ifT1 t).trans rfl
    show Sat (eIf _ _ _ (f4 d ns K mo few .no .no .no)) _
    rw [e]
    refine for_box (fun ds ρ => ρ = f4 d ns K mo few .no .no .no ∧ ∃ r : List Str, ds = wsD r ∧ ∀ x ∈ r, x ∈ ns) (fun ρ h => ⟨ρ, rfl, by rw [h.1]; rfl⟩) (fun x ds ρ h => ?_) _ _ ⟨rfl, ns, rfl, fun x h => h⟩
    obtain ⟨rfl, r, e2, h2⟩ := h
    cases r with
    | nil => cases e2
    | cons y r =>
      have e2 : x :: ds = .str y :: wsD r := e2
      injection e2 with e3 e4
      subst e3 e4
      refine ⟨_, rfl, (bd y (h2 y List.mem_cons_self)).imp ?_⟩
      rintro o ⟨ρ2, e, w⟩
      exact ⟨ρ2, e, w, r, rfl, fun z hz => h2 z (List.mem_cons_of_mem _ hz)⟩
theorem turn81 (d : D) : Sat (bs_0 c (q81 d .no .no .no .no .no .no .no .no .no .no .no .no .no)) (fun o => ∃ ρ1, o = .nx ρ1 ∧ wipeR ρ1 vs81 = rho0 16) := by
  unfold bs_0
  refine seq_sat (y0 d) ?_
  rintro ρ1 ⟨ns, ks, g, rfl⟩
  unfold bs_1
  refine seq_sat (y1 d _ _) ?_
  rintro ρ1 ⟨mo, hm, rfl⟩
  unfold bs_2
  obtain ⟨o, ho, e⟩ := y2 (c := c) d g (ask4 g.ask) hm
  refine seq_ret e ?_
  unfold bs_3
  refine seq_sat (y3 d g (ask4 g.ask) hm) ?_
  rintro ρ1 rfl
  unfold bs_4
  exact y4 d g (ask4 g.ask) hm ho
end
theorem law_says : ∀ c : Str → Addr, (cs_l c).Nodup → LawSays 16 (b_law_e c) := by
  intro c nd
  have hr : rho0 16 = [.no, .sh .stm, .no, .no, .no, .no, .no, .no, .no, .no, .no, .no, .no, .no, .no, .no] := rfl
  have key : ∀ B : ES, (∀ d, Sat (B (q81 d .no .no .no .no .no .no .no .no .no .no .no .no .no)) (fun o => ∃ ρ1, o = .nx ρ1 ∧ wipeR ρ1 vs81 = rho0 16)) → Sat (eFor (iRng1 (aCons (eC (.int 3)) aNil)) (gN 2) B vs81 (rho0 16)) (fun o => ∃ ρ1, o = .nx ρ1 ∧ ρ1 = rho0 16) := by
    intro B hB
    have e : eFor (iRng1 (aCons (eC (.int 3)) aNil)) (gN 2) B vs81 (rho0 16) = eForGo (gN 2) B vs81 (rangeD 0 3) (rho0 16) := by
      rw [hr]
      simp [eFor, sizeLine_eq, wipeR]
    rw [e]
    refine for_box (fun ds ρ => ρ = rho0 16) (fun ρ h => ⟨ρ, rfl, h⟩) (fun d ds ρ h => ?_) _ _ rfl
    rw [h]
    exact ⟨_, rfl, hB d⟩
  have q1 : Sat (bq_1 c (rho0 16)) (fun o => ∃ ρ1, o = .nx ρ1 ∧ ρ1 = rho0 16) := by
    rw [bq_eq_1]
    exact key (bs_0 c) fun d => turn81 d
  have all : Sat (b_law_e c (rho0 16)) (Out.sat { nx := fun _ => False, rt := fun r => r = .sh (.bl true) }) := by
    unfold b_law_e
    refine seq_sat q1 ?_
    rintro ρ1 rfl
    unfold bq_2
    rw [hr]
    refine ⟨?_⟩
    simp
  exact all.out
end DL
set_option Elab.async false
set_option linter.all false
set_option maxRecDepth 100000
set_option maxHeartbeats 4000000
open PySem PySem.W PySem.Calls PyProof.Rows
theorem PySem.Challenge.cw_patchlots_k81_whole_next_ones_asked_holds : PySem.Challenge.rw_patchlots_k81_whole_next_ones_asked.Holds := by
  w_on; o_law
  refine HandSHeadRun.head_any (r := OpenLaw.row PySem.Challenge.rw_patchlots_k81_whole_next_ones_asked) (q := view (OpenLaw.row PySem.Challenge.rw_patchlots_k81_whole_next_ones_asked).prog [37]) (H := HD.hk) (ob := HD.ob) (M := 4000) (loose := HD.loose) (d := HandSHeadRun.topDef (OpenLaw.row PySem.Challenge.rw_patchlots_k81_whole_next_ones_asked).prog 37) (kwd := []) HD.ob_eq
    (by kernel_rfl) (fun s => by kernel_rfl) HD.run (by kernel_rfl) (by kernel_rfl) (by kernel_rfl) (by rfl) (by first | assumption | decide +kernel) (by decide +kernel) ⟨rfl, rfl, rfl, rfl, rfl, by decide +kernel⟩ ?hw ?hc
  case hw => w_witness2
  case hc =>
    refine DL.walk_top (l := PySem.Challenge.rw_patchlots_k81_whole_next_ones_asked) (n := 63) rfl (by decide) (by kernel_rfl) (by kernel_rfl) ?F
    intro w mg f h Y G hmg0
    have hmg : mg ("law" : PySem.Str) = some (.ref f) := by
      have e : (HandSHeadRun.topDef (OpenLaw.row PySem.Challenge.rw_patchlots_k81_whole_next_ones_asked).prog 37).name = ("law" : PySem.Str) := by kernel_rfl
      rw [← e]
      exact hmg0
    exact DL.law_end Y G hmg DL.law_says
