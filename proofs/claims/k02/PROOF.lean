import PyProof.Rows.All
import Wide.All
import OpenK.AllK
import Wide.FinOn
import HandS.ForMost
import HandS.Deep
import KE.KeyNested
import KE.KDictKeyed
import KE.SortData
import HandS.TupAny
import HandS.TupMul
import HandS.Flow
import HandS.Style
import HandS.TupLe
import PyProof.Rows.TupTab
import HandS.IsInst
import HandS.Conv
import HandS.Sort
import HandS.TupLen
import HandS.Strs
import KE.DataMinMax
import HandS.Codes
import HandS.Iter
import HandS.Remove
import HandS.Comp
import HandS.SortOrd
import KE.KDictSum
import PyProof.TupleOfSeq
import HandS.DictComp
import KE.KDictCopyH
import KE.GoesEnum
import HandS.DictTup
import HandS.SetFor
import PySem.Challenge.RW_whypicked_k02_tables_cut_and_named
set_option Elab.async false
set_option linter.all false
set_option maxRecDepth 100000
set_option maxHeartbeats 4000000
/-! PL1: the pure layer: data, slots, the IR, the weakest-precondition reading of the IR over plain data. -/
namespace PL
open PySem PySem.Spec PyProof.Rows L2

/-- plain data; rng: a range object; pool: the law's pool of draws -/
inductive D where
  | non
  | bl (b : Bool)
  | int (i : Int)
  | str (s : Str)
  | tup (xs : List D)
  | lst (xs : List D)
  | dct (kvs : List (D × D))
  | rng (lo hi : Int)
  | pool
mutual
/-- as data that == can read -/
def D.py : D → PyData
  | .non => .none
  | .bl b => .bool b
  | .int i => .int i
  | .str s => .str s
  | .tup xs => .tuple (D.pys xs)
  | .lst xs => .list (D.pys xs)
  | .dct _ => .dict []
  | .rng _ _ => .dict []
  | .pool => .dict []
def D.pys : List D → List PyData
  | [] => []
  | x :: xs => x.py :: D.pys xs
end
/-- data that == reads: no dicts, ranges, pools; not too deep -/
def shp (d : D) : Bool := SeqAt.shaped d.py
def deq (a b : D) : Bool := PyData.eqv a.py b.py
/-- what a slot holds: nothing, a value that never changes, a list or a dict that this slot alone owns -/
inductive SV where
  | no
  | val (d : D)
  | own (xs : List D)
  | owd (kvs : List (D × D))
/-- what an expression gives: a value that never changes, a slot's own thing lent, a new list or dict -/
inductive RV where
  | val (d : D)
  | brw (d : D)
  | own (xs : List D)
  | owd (kvs : List (D × D))
def RV.toD : RV → D
  | .val d => d
  | .brw d => d
  | .own xs => .lst xs
  | .owd kvs => .dct kvs
/-- what may be laid into other things -/
def RV.kept (r : RV) (Q : D → Prop) : Prop :=
  match r with
  | .val d => Q d
  | .brw _ => False
  | .own xs => Q (.lst xs)
  | .owd kvs => Q (.dct kvs)
/-- .. into a slot -/
def RV.slot (r : RV) (Q : SV → Prop) : Prop :=
  match r with
  | .val d => Q (.val d)
  | .brw _ => False
  | .own xs => Q (.own xs)
  | .owd kvs => Q (.owd kvs)
/-- the slots; the number of draws so far (at most) -/
structure PEnv where
  sl : List SV
  dr : Nat
abbrev RK := RV → PEnv → Prop

inductive Op2 where
  | add | sub | mul | fdiv | mod | pow
  deriving DecidableEq
inductive Cm where
  | eq | ne | lt | le | gt | ge | isin | notin | is | isnot
  deriving DecidableEq
/-- what may be asked by isinstance -/
inductive Ty where
  | bool | int | str | tuple | list | dict
  deriving DecidableEq
/-- built-ins that are called by name with values -/
inductive BI where
  | len | int | str | tuple | list | sorted | min | max | sum | any | all | abs | bool | dict | range
  | minD | maxD
  deriving DecidableEq
/-- methods that read -/
inductive MT where
  | index | get | upper | join | split
  deriving DecidableEq
/-- targets -/
inductive Tg where
  | nm (i : Nat)
  | tp (is : List Nat)
  deriving DecidableEq
def Tg.slots : Tg → List Nat
  | .nm i => [i]
  | .tp is => is

/-- expressions; anil, acons: lists of expressions; it..: what a loop walks -/
inductive IE where
  | cst (d : D)
  | var (i : Nat)
  | bor (i : Nat)
  | bin (o : Op2) (a b : IE)
  | neg (a : IE)
  | cmp (c : Cm) (a b : IE)
  | cmp2 (c c' : Cm) (a b d : IE)
  | tst (a : IE)
  | and (a b : IE)
  | or (a b : IE)
  | not (a : IE)
  | ite (c a b : IE)
  | tup (as : IE)
  | lst (as : IE)
  | dnew
  | anil
  | acons (a as : IE)
  | idx (a b : IE)
  | slc (a lo hi : IE)
  | rev (a : IE)
  | call (f : Nat) (as : IE)
  | callb (f : Nat) (as : IE)
  | blt (f : BI) (as : IE)
  | isi (a : IE) (t : Ty)
  | mth (m : MT) (a as : IE)
  | itSeq (a : IE)
  | itR1 (a : IE)
  | itR2 (a b : IE)
  | itEnum (a : IE)
  | itZip (a b : IE)
  | itZip3 (a b c : IE)
  | itItems (a : IE)
  | comp (vs : List Nat) (tg : Tg) (it c e : IE)
  | comp2 (vs vs1 : List Nat) (tg : Tg) (it c : IE) (tg1 : Tg) (it1 c1 e : IE)
  | dcomp (vs : List Nat) (tg : Tg) (it c k v : IE)
  | mmd (mx : Bool) (a e : IE)

inductive IS where
  | skip
  | seq (a b : IS)
  | asg (t : Tg) (e : IE)
  | asgS (i : Nat) (k e : IE)
  | aug (i : Nat) (e : IE)
  | app (i : Nat) (e : IE)
  | ext (i : Nat) (e : IE)
  | remv (i : Nat) (e : IE)
  | pop0 (t : Option Nat) (i : Nat)
  | pop1 (t : Option Nat) (i : Nat) (e : IE)
  | popT (j : Nat) (i : Nat) (e : IE)
  | sdef (i : Nat) (k e : IE)
  | ifs (c : IE) (a b : IS)
  | fr (t : Tg) (it : IE) (b : IS)
  | frl (t : Tg) (i : Nat) (b : IS)
  | whl (c : IE) (b : IS)
  | ret (e : IE)
  | ret0
  | reto (i : Nat)
  | brk
  | cnt
  | ex (e : IE)
  | rais (n : Nat)

/-! ### operations on data -/
def truthD : D → Option Bool
  | .non => some false
  | .bl b => some b
  | .int i => some (i != 0)
  | .lst xs => some (!xs.isEmpty)
  | .tup xs => some (!xs.isEmpty)
  | _ => none
def binP (o : Op2) (a b : D) (Q : RV → Prop) : Prop :=
  match o with
  | .add => match a, b with
    | .int i, .int j => Q (.val (.int (i + j)))
    | .str x, .str y => x.length + y.length ≤ sizeLine ∧ Q (.val (.str (x ++ y)))
    | .tup xs, .tup ys => xs.length + ys.length ≤ sizeLine ∧ Q (.val (.tup (xs ++ ys)))
    | .lst xs, .lst ys => xs.length + ys.length ≤ sizeLine ∧ Q (.own (xs ++ ys))
    | _, _ => False
  | .sub => match a, b with
    | .int i, .int j => Q (.val (.int (i - j)))
    | _, _ => False
  | .mul => match a, b with
    | .int i, .int j => CMul i j ∧ Q (.val (.int (i * j)))
    | .lst xs, .int k => (-(2 ^ 63) ≤ k ∧ k < 2 ^ 63 ∧ xs.length * k.toNat ≤ sizeLine) ∧ Q (.own (List.replicate k.toNat xs).flatten)
    | .tup xs, .int k => (xs ≠ [] ∧ 2 ≤ k ∧ k ≤ 1000 ∧ xs.length ≤ 1000) ∧ Q (.val (.tup (List.replicate k.toNat xs).flatten))
    | _, _ => False
  | .fdiv => match a, b with
    | .int i, .int j => CDivN i j ∧ Q (.val (.int (i.fdiv j)))
    | _, _ => False
  | .mod => match a, b with
    | .int i, .int j => j ≠ 0 ∧ Q (.val (.int (i.fmod j)))
    | _, _ => False
  | .pow => match a, b with
    | .int i, .int j => CPow i j ∧ Q (.val (.int (i ^ j.toNat)))
    | _, _ => False
/-- == of data: the scalars at once, the rest where it has the shape that == can read -/
def eqP (a b : D) (Q : Bool → Prop) : Prop :=
  match a, b with
  | .int i, .int j => Q (decide (i = j))
  | .str x, .str y => Q (decide (x = y))
  | .bl x, .bl y => Q (decide (x = y))
  | .non, .non => Q true
  | .non, .int _ => Q false
  | .int _, .non => Q false
  | a, b => (shp a = true ∧ shp b = true) ∧ Q (deq a b)
def rngL (lo hi : Int) : List D := (List.range (hi - lo).toNat).map fun i => D.int (lo + (i : Nat))
def itemsD : D → Option (List D)
  | .lst xs => some xs
  | .tup xs => some xs
  | .dct kvs => some (kvs.map (·.1))
  | .rng lo hi => some (rngL lo hi)
  | _ => none
/-- the items of a list, a tuple -/
def seqD : D → Option (List D)
  | .lst xs => some xs
  | .tup xs => some xs
  | _ => none
mutual
/-- < of data: ints, texts, tuples of such; none where it is not told -/
def ltD : D → D → Option Bool
  | .int i, .int j => some (decide (i < j))
  | .str x, .str y => some (decide (x.cps.toList < y.cps.toList))
  | .tup xs, .tup ys => ltDs xs ys
  | _, _ => none
def ltDs : List D → List D → Option Bool
  | [], [] => some false
  | [], _ :: _ => some true
  | _ :: _, [] => some false
  | x :: xs, y :: ys => match ltDs xs ys with
    | none => none
    | some r => if deq x y = true then some r else ltD x y
end
def ordP (c : Cm) (a b : D) (Q : Bool → Prop) : Prop :=
  match a, b with
  | .int i, .int j => match c with
    | .lt => Q (decide (i < j))
    | .le => Q (decide (i ≤ j))
    | .gt => Q (decide (j < i))
    | .ge => Q (decide (j ≤ i))
    | _ => False
  | a, b => match c with
    | .lt => ((shp a = true ∧ shp b = true) ∧ (ltD a b).isSome = true) ∧ Q ((ltD a b).getD false)
    | _ => False
mutual
/-- data as a dict's key -/
def nk : D → Option NestedKey
  | .int i => some (.num i)
  | .str x => some (.text x)
  | .tup xs => (nks xs).map .tup
  | _ => none
def nks : List D → Option (List NestedKey)
  | [] => some []
  | x :: xs => (nk x).bind fun a => (nks xs).map fun as => a :: as
end
def scal : D → Bool
  | .int _ => true
  | .str _ => true
  | _ => false
/-- a key that may be asked of a dict with such keys -/
def keyOk (kvs : List (D × D)) (k : D) : Bool := (match nk k with | some n => decide (n.depth ≤ 8) | none => false) && kvs.all fun p => scal p.1 == scal k
def inP (a b : D) (Q : Bool → Prop) : Prop :=
  match b with
  | .lst xs => (shp a = true ∧ shp (.lst xs) = true) ∧ Q (xs.any fun z => deq z a)
  | .tup xs => (shp a = true ∧ shp (.tup xs) = true) ∧ Q (xs.any fun z => deq z a)
  | .dct kvs => keyOk kvs a = true ∧ Q (kvs.any fun p => deq p.1 a)
  | .str y => match a with
    | .str x => Q (!(Builtin.Str.occurrences y x 0 y.length 1).isEmpty)
    | _ => False
  | _ => False
def isNon : D → Bool
  | .non => true
  | _ => false
def cmpP (c : Cm) (a b : D) (Q : Bool → Prop) : Prop :=
  match c with
  | .eq => eqP a b Q
  | .ne => eqP a b fun r => Q (!r)
  | .isin => inP a b Q
  | .notin => inP a b fun r => Q (!r)
  | .is => match b with
    | .non => Q (isNon a)
    | .bl j => (match a with | .bl i => Q (decide (i = j)) | _ => False)
    | _ => False
  | .isnot => match b with
    | .non => Q (!isNon a)
    | .bl j => (match a with | .bl i => Q (!decide (i = j)) | _ => False)
    | _ => False
  | c => ordP c a b Q
def lookD (kvs : List (D × D)) (k : D) : Option D := (kvs.find? fun p => deq p.1 k).map (·.2)
/-- a dict with k told to be v -/
def putD (kvs : List (D × D)) (k v : D) : List (D × D) := if kvs.any (fun p => deq p.1 k) then kvs.map (fun p => if deq p.1 k then (p.1, v) else p) else kvs ++ [(k, v)]
def idxP (a b : D) (Q : D → Prop) : Prop :=
  match a with
  | .lst xs => (match b with | .int i => ∃ v, atI xs i = some v ∧ Q v | _ => False)
  | .tup xs => (match b with | .int i => ∃ v, atI xs i = some v ∧ Q v | _ => False)
  | .str z => (match b with | .int i => z.length ≤ sizeLine ∧ ∃ c, atI z.cps.toList i = some c ∧ Q (.str ⟨#[c]⟩) | _ => False)
  | .dct kvs => keyOk kvs b = true ∧ ∃ v, lookD kvs b = some v ∧ Q v
  | _ => False
def cutL {α : Type} (xs : List α) (lo hi : Option Int) : List α := (xs.drop (HT.sIx xs.length 0 lo)).take (HT.sIx xs.length xs.length hi - HT.sIx xs.length 0 lo)
def isRng : D → Bool
  | .rng _ _ => true
  | _ => false
def isMiss : IE → Bool
  | .cst .non => true
  | _ => false
def slcP (a : D) (l h : Option Int) (Q : RV → Prop) : Prop :=
  match a with
  | .lst xs => Q (.own (cutL xs l h))
  | .tup xs => Q (.val (.tup (cutL xs l h)))
  | _ => False
def revP (a : D) (Q : RV → Prop) : Prop :=
  match a with
  | .lst xs => Q (.own xs.reverse)
  | .tup xs => Q (.val (.tup xs.reverse))
  | _ => False
def isTy (t : Ty) : D → Bool
  | .bl _ => t == .bool || t == .int
  | .int _ => t == .int
  | .str _ => t == .str
  | .tup _ => t == .tuple
  | .lst _ => t == .list
  | .dct _ => t == .dict
  | _ => false
/-- the kinds that isinstance tells -/
def hasTy : D → Bool
  | .non | .bl _ | .int _ | .str _ | .tup _ | .lst _ => true
  | _ => false
/-- all items can be put in an order by < -/
def sortable (xs : List D) : Prop := (∀ x ∈ xs, shp x = true ∧ x.py ≠ .none) ∧ ∀ x ∈ xs, ∀ y ∈ xs, PySem.W.alike x.py y.py = true
def leB (x y : D) : Bool := PySem.W.dataLe false D.py x y
def ltB (x y : D) : Bool := (ltD x y).getD false
def ints? : List D → Option (List Int)
  | [] => some []
  | .int i :: xs => (ints? xs).map (i :: ·)
  | _ :: _ => none
def bls? : List D → Option (List Bool)
  | [] => some []
  | .bl i :: xs => (bls? xs).map (i :: ·)
  | _ :: _ => none
def rngOk (i : Int) : Prop := -(2 ^ 62) ≤ i ∧ i < 2 ^ 62
def sortD (xs : List D) : List D := xs.mergeSort leB
def sortP (xs : List D) (Q : RV → Prop) : Prop := sortable xs ∧ Q (.own (sortD xs))
def minL (is : List Int) : Int := is.tail.foldl min (is.headD 0)
def maxL (is : List Int) : Int := is.tail.foldl max (is.headD 0)
def minP (xs : List D) (Q : RV → Prop) : Prop := ∃ is, ints? xs = some is ∧ is ≠ [] ∧ Q (.val (.int (minL is)))
def maxP (xs : List D) (Q : RV → Prop) : Prop := ∃ is, ints? xs = some is ∧ is ≠ [] ∧ Q (.val (.int (maxL is)))
def bltP (f : BI) (as : List D) (Q : RV → Prop) : Prop :=
  match f, as with
  | .len, [.str s] => s.length ≤ sizeLine ∧ Q (.val (.int s.length))
  | .len, [.dct kvs] => Q (.val (.int kvs.length))
  | .len, [.lst xs] => Q (.val (.int xs.length))
  | .len, [.tup xs] => Q (.val (.int xs.length))
  | .int, [.int i] => Q (.val (.int i))
  | .int, [.bl b] => Q (.val (.int (if b then 1 else 0)))
  | .str, [.int i] => i.natAbs.log2 < 1920 ∧ Q (.val (.str (toString i)))
  | .tuple, [.lst xs] => Q (.val (.tup xs))
  | .tuple, [.tup xs] => Q (.val (.tup xs))
  | .tuple, [.rng lo hi] => (hi - lo).toNat ≤ 16777216 ∧ Q (.val (.tup (rngL lo hi)))
  | .list, [.lst xs] => Q (.own xs)
  | .list, [.tup xs] => Q (.own xs)
  | .list, [.rng lo hi] => (hi - lo).toNat ≤ 16777216 ∧ Q (.own (rngL lo hi))
  | .list, [.dct kvs] => Q (.own (kvs.map (·.1)))
  | .sorted, [.lst xs] => sortP xs Q
  | .sorted, [.tup xs] => sortP xs Q
  | .sorted, [.dct kvs] => sortP (kvs.map (·.1)) Q
  | .min, [.lst xs] => minP xs Q
  | .max, [.lst xs] => maxP xs Q
  | .min, [.tup xs] => minP xs Q
  | .max, [.tup xs] => maxP xs Q
  | .min, [.int i, .int j] => Q (.val (.int (if j < i then j else i)))
  | .max, [.int i, .int j] => Q (.val (.int (if j > i then j else i)))
  | .minD, [.lst xs, d] => if xs = [] then Q (.val d) else minP xs Q
  | .maxD, [.lst xs, d] => if xs = [] then Q (.val d) else maxP xs Q
  | .sum, [.lst xs] => ∃ is, ints? xs = some is ∧ Q (.val (.int is.sum))
  | .any, [.lst xs] => ∃ bs, bls? xs = some bs ∧ Q (.val (.bl (bs.any id)))
  | .all, [.lst xs] => ∃ bs, bls? xs = some bs ∧ Q (.val (.bl (bs.all id)))
  | .abs, [.int i] => Q (.val (.int (if i < 0 then -i else i)))
  | .range, [.int j] => rngOk j ∧ Q (.val (.rng 0 j))
  | .range, [.int i, .int j] => (rngOk i ∧ rngOk j) ∧ Q (.val (.rng i j))
  | _, _ => False
/-- the place of the first equal item -/
def idxOfD (xs : List D) (y : D) : Option Nat := xs.findIdx? fun z => deq z y
def recvOk (m : MT) (a : D) : Bool := match m, a with
  | .index, .lst _ | .index, .tup _ | .get, .dct _ | .upper, .str _ => true
  | _, _ => false
/-- whether a method's arguments are only looked at -/
def lends : MT → Bool
  | .get => false
  | _ => true
def mthP (m : MT) (a : D) (as : List D) (Q : RV → Prop) : Prop :=
  match m, as with
  | .index, [y] => (shp y = true ∧ shp a = true) ∧ match a with
    | .lst xs => ∃ j, idxOfD xs y = some j ∧ Q (.val (.int (j : Nat)))
    | .tup xs => ∃ j, idxOfD xs y = some j ∧ Q (.val (.int (j : Nat)))
    | _ => False
  | .upper, [] => ∃ x, a = .str x ∧ x.length ≤ 5592405 ∧ Q (.val (.str (Txt.upper x)))
  | .get, [k, v] => ∃ kvs, a = .dct kvs ∧ keyOk kvs k = true ∧ Q (.val ((lookD kvs k).getD v))
  | .get, [k] => ∃ kvs, a = .dct kvs ∧ keyOk kvs k = true ∧ Q (.val ((lookD kvs k).getD .non))
  | _, _ => False

/-! ### slots -/
def PEnv.get (ρ : PEnv) (i : Nat) : SV := ρ.sl.getD i .no
def PEnv.put (ρ : PEnv) (i : Nat) (v : SV) : PEnv := ⟨ρ.sl.set i v, ρ.dr⟩
def rdV (ρ : PEnv) (i : Nat) (Q : RK) : Prop :=
  match ρ.get i with
  | .val d => Q (.val d) ρ
  | .own xs => Q (.val (.lst xs)) (ρ.put i (.val (.lst xs)))
  | .owd kvs => Q (.val (.dct kvs)) (ρ.put i (.val (.dct kvs)))
  | .no => False
def rdB (ρ : PEnv) (i : Nat) (Q : RK) : Prop :=
  match ρ.get i with
  | .val d => Q (.val d) ρ
  | .own xs => Q (.brw (.lst xs)) ρ
  | .owd kvs => Q (.brw (.dct kvs)) ρ
  | .no => False
def putAll (ρ : PEnv) : List Nat → List D → Option PEnv
  | [], [] => some ρ
  | i :: is, d :: ds => putAll (ρ.put i (.val d)) is ds
  | _, _ => none
/-- a value to a target -/
def tgP (t : Tg) (d : D) (ρ : PEnv) (Q : PEnv → Prop) : Prop :=
  match t with
  | .nm i => Q (ρ.put i (.val d))
  | .tp is => ∃ xs ρ', d = .tup xs ∧ putAll ρ is xs = some ρ' ∧ Q ρ'
/-- the slots vs of a block emptied; given back -/
def PEnv.wipe (ρ : PEnv) (vs : List Nat) : PEnv := ⟨vs.foldl (fun l i => l.set i .no) ρ.sl, ρ.dr⟩
def PEnv.back (ρ₀ ρ : PEnv) (vs : List Nat) : PEnv := ⟨vs.foldl (fun l i => l.set i (ρ₀.get i)) ρ.sl, ρ.dr⟩
def SV.plain : SV → Bool
  | .no => true
  | .val _ => true
  | _ => false
def SV.isO : SV → Bool
  | .own _ => true
  | _ => false
def SV.isD : SV → Bool
  | .owd _ => true
  | _ => false
def PEnv.plainAt (ρ : PEnv) (vs : List Nat) : Bool := vs.all fun i => (ρ.get i).plain
/-- one way or the other -/
def brn (b : Bool) (A B : Prop) : Prop := (b = true → A) ∧ (b = false → B)
theorem brn_ite (b : Bool) (A B : Prop) : brn b A B = if b = true then A else B := propext ⟨fun h => by cases b; exact h.2 rfl; exact h.1 rfl, fun h => by cases b; exact ⟨fun z => (by cases z), fun _ => h⟩; exact ⟨fun _ => h, fun z => (by cases z)⟩⟩
/-- a comprehension's turns -/
def compL (vs : List Nat) (tg : Tg) (fc fe : PEnv → RK → Prop) : List D → PEnv → List D → (List D → PEnv → Prop) → Prop
  | [], ρ, acc, Q => Q acc ρ
  | d :: ds, ρ, acc, Q => tgP tg d ρ fun ρ1 => fc ρ1 fun c ρ2 => ∃ b, c = .val (.bl b) ∧
      brn b (fe ρ2 fun r ρ3 => r.kept fun x => acc.length < sizeLine ∧ compL vs tg fc fe ds (ρ3.wipe vs) (acc ++ [x]) Q)
        (compL vs tg fc fe ds (ρ2.wipe vs) acc Q)
/-- .. with a second clause -/
def compL2 (vs vs1 : List Nat) (tg : Tg) (fc : PEnv → RK → Prop) (fi : PEnv → (List D → PEnv → Prop) → Prop) (tg1 : Tg) (fc1 fe : PEnv → RK → Prop) : List D → PEnv → List D → (List D → PEnv → Prop) → Prop
  | [], ρ, acc, Q => Q acc ρ
  | d :: ds, ρ, acc, Q => tgP tg d ρ fun ρ1 => fc ρ1 fun c ρ2 => ∃ b, c = .val (.bl b) ∧
      brn b (fi ρ2 fun es ρ3 => compL vs1 tg1 fc1 fe es (ρ3.wipe vs1) acc fun acc' ρ4 => compL2 vs vs1 tg fc fi tg1 fc1 fe ds (ρ4.wipe vs) acc' Q)
        (compL2 vs vs1 tg fc fi tg1 fc1 fe ds (ρ2.wipe vs) acc Q)
def dcompL (vs : List Nat) (tg : Tg) (fc fk fv : PEnv → RK → Prop) : List D → PEnv → List (D × D) → (List (D × D) → PEnv → Prop) → Prop
  | [], ρ, acc, Q => Q acc ρ
  | d :: ds, ρ, acc, Q => tgP tg d ρ fun ρ1 => fc ρ1 fun c ρ2 => ∃ b, c = .val (.bl b) ∧
      brn b (fk ρ2 fun k ρ3 => k.kept fun kd => fv ρ3 fun v ρ4 => v.kept fun vd => keyOk acc kd = true ∧ acc.length < sizeLine ∧ dcompL vs tg fc fk fv ds (ρ4.wipe vs) (putD acc kd vd) Q)
        (dcompL vs tg fc fk fv ds (ρ2.wipe vs) acc Q)

/-! ### expressions -/
/-- a def's promise: arguments, draws so far, what is wanted of the answer and the draws then, of an error and the draws then -/
abbrev Spec := List D → Nat → (RV → Nat → Prop) → (Nat → Nat → Prop) → Prop
/-- what the defs promise; what is wanted of an error that leaves -/
structure PC where
  sp : Nat → Spec
  xe : Nat → Nat → Prop
abbrev AK := List D → PEnv → Prop
def optP (b : Bool) (f : PEnv → RK → Prop) (ρ : PEnv) (Q : Option Int → PEnv → Prop) : Prop := if b = true then Q none ρ else f ρ fun l ρ' => ∃ i, l.toD = .int i ∧ Q (some i) ρ'
mutual
def wpE (C : PC) : IE → PEnv → RK → Prop
  | .cst d, ρ, Q => Q (.val d) ρ
  | .var i, ρ, Q => rdV ρ i Q
  | .bor i, ρ, Q => rdB ρ i Q
  | .bin o a b, ρ, Q => wpE C a ρ fun x ρ1 => wpE C b ρ1 fun y ρ2 => binP o x.toD y.toD fun r => Q r ρ2
  | .neg a, ρ, Q => wpE C a ρ fun x ρ1 => ∃ i, x.toD = .int i ∧ Q (.val (.int (-i))) ρ1
  | .cmp c a b, ρ, Q => wpE C a ρ fun x ρ1 => wpE C b ρ1 fun y ρ2 => cmpP c x.toD y.toD fun r => Q (.val (.bl r)) ρ2
  | .cmp2 c c' a b d, ρ, Q => wpE C a ρ fun x ρ1 => wpE C b ρ1 fun y ρ2 => cmpP c x.toD y.toD fun r => brn r (wpE C d ρ2 fun z ρ3 => cmpP c' y.toD z.toD fun r' => Q (.val (.bl r')) ρ3) (Q (.val (.bl false)) ρ2)
  | .tst a, ρ, Q => wpE C a ρ fun x ρ1 => ∃ b, truthD x.toD = some b ∧ Q (.val (.bl b)) ρ1
  | .and a b, ρ, Q => wpE C a ρ fun x ρ1 => ∃ c, x = .val (.bl c) ∧ brn c (wpE C b ρ1 Q) (Q (.val (.bl false)) ρ1)
  | .or a b, ρ, Q => wpE C a ρ fun x ρ1 => ∃ c, x = .val (.bl c) ∧ brn c (Q (.val (.bl true)) ρ1) (wpE C b ρ1 Q)
  | .not a, ρ, Q => wpE C a ρ fun x ρ1 => ∃ c, x = .val (.bl c) ∧ Q (.val (.bl (!c))) ρ1
  | .ite c a b, ρ, Q => wpE C c ρ fun x ρ1 => ∃ k, x = .val (.bl k) ∧ brn k (wpE C a ρ1 Q) (wpE C b ρ1 Q)
  | .tup as, ρ, Q => wpA C false as ρ fun ds ρ1 => ds.length ≤ sizeLine ∧ Q (.val (.tup ds)) ρ1
  | .lst as, ρ, Q => wpA C false as ρ fun ds ρ1 => ds.length ≤ sizeLine ∧ Q (.own ds) ρ1
  | .dnew, ρ, Q => Q (.owd []) ρ
  | .idx a b, ρ, Q => wpE C a ρ fun x ρ1 => wpE C b ρ1 fun y ρ2 => idxP x.toD y.toD fun d => Q (.val d) ρ2
  | .slc a lo hi, ρ, Q => wpE C a ρ fun x ρ1 => optP (isMiss lo) (wpE C lo) ρ1 fun l ρ2 => optP (isMiss hi) (wpE C hi) ρ2 fun h ρ3 => slcP x.toD l h fun r => Q r ρ3
  | .rev a, ρ, Q => wpE C a ρ fun x ρ1 => revP x.toD fun r => Q r ρ1
  | .call f as, ρ, Q => wpA C false as ρ fun ds ρ1 => C.sp f ds ρ1.dr (fun r n => Q r ⟨ρ1.sl, n⟩) C.xe
  | .blt f as, ρ, Q => wpA C true as ρ fun ds ρ1 => bltP f ds fun r => Q r ρ1
  | .isi a t, ρ, Q => wpE C a ρ fun x ρ1 => hasTy x.toD = true ∧ Q (.val (.bl (isTy t x.toD))) ρ1
  | .mth m a as, ρ, Q => wpE C a ρ fun x ρ1 => recvOk m x.toD = true ∧ wpA C (lends m) as ρ1 fun ds ρ2 => mthP m x.toD ds fun r => Q r ρ2
  | .comp vs tg it c e, ρ, Q => ρ.plainAt vs = true ∧ wpI C true it ρ fun ds ρ1 => compL vs tg (wpE C c) (wpE C e) ds (ρ1.wipe vs) [] fun acc ρ2 => Q (.own acc) (ρ1.back ρ2 vs)
  | .comp2 vs vs1 tg it c tg1 it1 c1 e, ρ, Q => ρ.plainAt vs = true ∧ wpI C true it ρ fun ds ρ1 => compL2 vs vs1 tg (wpE C c) (wpI C false it1) tg1 (wpE C c1) (wpE C e) ds (ρ1.wipe vs) [] fun acc ρ2 => Q (.own acc) (ρ1.back ρ2 vs)
  | .mmd mx a e, ρ, Q => wpE C a ρ fun x ρ1 => wpE C e ρ1 fun r ρ2 => r.kept fun d => ∃ xs is, x.toD = .lst xs ∧ ints? xs = some is ∧ Q (.val (if is = [] then d else .int (if mx = true then maxL is else minL is))) ρ2
  | .dcomp vs tg it c k v, ρ, Q => ρ.plainAt vs = true ∧ wpI C true it ρ fun ds ρ1 => dcompL vs tg (wpE C c) (wpE C k) (wpE C v) ds (ρ1.wipe vs) [] fun acc ρ2 => Q (.owd acc) (ρ1.back ρ2 vs)
  | _, _, _ => False
def wpA (C : PC) : Bool → IE → PEnv → AK → Prop
  | _, .anil, ρ, Q => Q [] ρ
  | b, .acons a as, ρ, Q => wpE C a ρ fun x ρ1 => (if b = true then (fun K : D → Prop => K x.toD) else x.kept) fun d => wpA C b as ρ1 fun ds ρ2 => Q (d :: ds) ρ2
  | _, _, _, _ => False
/-- what is walked, as the list of its items (b: it may be lent) -/
def wpI (C : PC) : Bool → IE → PEnv → AK → Prop
  | b, .itSeq a, ρ, Q => wpE C a ρ fun x ρ1 => (if b = true then (fun K : D → Prop => K x.toD) else x.kept) fun d => ∃ xs, itemsD d = some xs ∧ ((isRng d = false → xs.length ≤ sizeLine) → Q xs ρ1)
  | _, .itR1 a, ρ, Q => wpE C a ρ fun x ρ1 => ∃ j, x.toD = .int j ∧ rngOk j ∧ Q (rngL 0 j) ρ1
  | _, .itR2 a b, ρ, Q => wpE C a ρ fun x ρ1 => wpE C b ρ1 fun y ρ2 => ∃ i j, x.toD = .int i ∧ y.toD = .int j ∧ (rngOk i ∧ rngOk j) ∧ Q (rngL i j) ρ2
  | b, .itEnum a, ρ, Q => wpE C a ρ fun x ρ1 => (if b = true then (fun K : D → Prop => K x.toD) else x.kept) fun d => ∃ xs, seqD d = some xs ∧ (xs.length ≤ sizeLine → Q (xs.mapIdx fun k d => .tup [.int (k : Nat), d]) ρ1)
  | b, .itZip a c, ρ, Q => wpE C a ρ fun x ρ1 => (if b = true then (fun K : D → Prop => K x.toD) else x.kept) fun d => wpE C c ρ1 fun y ρ2 => (if b = true then (fun K : D → Prop => K y.toD) else y.kept) fun e => ∃ xs ys, seqD d = some xs ∧ seqD e = some ys ∧ (xs.length ≤ sizeLine → Q ((xs.zip ys).map fun p => .tup [p.1, p.2]) ρ2)
  | b, .itZip3 a c a3, ρ, Q => wpE C a ρ fun x ρ1 => (if b = true then (fun K : D → Prop => K x.toD) else x.kept) fun d => wpE C c ρ1 fun y ρ2 => (if b = true then (fun K : D → Prop => K y.toD) else y.kept) fun e => wpE C a3 ρ2 fun z ρ3 => (if b = true then (fun K : D → Prop => K z.toD) else z.kept) fun f => ∃ xs ys zs, seqD d = some xs ∧ seqD e = some ys ∧ seqD f = some zs ∧ (xs.length ≤ sizeLine → Q ((xs.zip (ys.zip zs)).map fun p => .tup [p.1, p.2.1, p.2.2]) ρ3)
  | b, .itItems a, ρ, Q => wpE C a ρ fun x ρ1 => (if b = true then (fun K : D → Prop => K x.toD) else x.kept) fun d => ∃ kvs, d = .dct kvs ∧ (kvs.length ≤ sizeLine → Q (kvs.map fun p => .tup [p.1, p.2]) ρ1)
  | _, _, _, _ => False
end

/-! ### statements -/
structure PEnds where
  nx : PEnv → Prop
  rt : RV → Nat → Prop
  bk : PEnv → Prop
  ct : PEnv → Prop
def forL (tg : Tg) (fb : PEnv → PEnds → Prop) : List D → PEnv → PEnds → Prop
  | [], ρ, E => E.nx ρ
  | d :: ds, ρ, E => tgP tg d ρ fun ρ1 => fb ρ1 ⟨fun ρ2 => forL tg fb ds ρ2 E, E.rt, E.nx, fun ρ2 => forL tg fb ds ρ2 E⟩
/-- over a slot's own list as it stands at each turn -/
def forO (tg : Tg) (i : Nat) (fb : PEnv → PEnds → Prop) : Nat → Nat → PEnv → PEnds → Prop
  | 0, _, _, _ => False
  | n + 1, k, ρ, E => ∃ xs, ρ.get i = .own xs ∧ match xs[k]? with
    | none => E.nx ρ
    | some d => tgP tg d ρ fun ρ1 => fb ρ1 ⟨fun ρ2 => forO tg i fb n (k + 1) ρ2 E, E.rt, E.nx, fun ρ2 => forO tg i fb n (k + 1) ρ2 E⟩
def whlL (fc : PEnv → RK → Prop) (fb : PEnv → PEnds → Prop) : Nat → PEnv → PEnds → Prop
  | 0, _, _ => False
  | n + 1, ρ, E => fc ρ fun c ρ1 => ∃ b, c = .val (.bl b) ∧ brn b (fb ρ1 ⟨fun ρ2 => whlL fc fb n ρ2 E, E.rt, E.nx, fun ρ2 => whlL fc fb n ρ2 E⟩) (E.nx ρ1)
def stT (t : Option Nat) (d : D) (ρ : PEnv) : PEnv := match t with
  | some j => ρ.put j (.val d)
  | none => ρ
def wpS (C : PC) : IS → PEnv → PEnds → Prop
  | .skip, ρ, E => E.nx ρ
  | .seq a b, ρ, E => wpS C a ρ { E with nx := fun ρ1 => wpS C b ρ1 E }
  | .asg (.nm i) e, ρ, E => wpE C e ρ fun r ρ1 => r.slot fun v => E.nx (ρ1.put i v)
  | .asg (.tp is) e, ρ, E => wpE C e ρ fun r ρ1 => r.kept fun d => tgP (.tp is) d ρ1 E.nx
  | .asgS i k e, ρ, E => wpE C e ρ fun r ρ1 => r.kept fun d => (ρ1.get i).plain = false ∧ wpE C k ρ1 fun kr ρ2 => match ρ2.get i with
    | .own xs => ∃ n j, kr.toD = .int n ∧ ixN xs.length n = some j ∧ E.nx (ρ2.put i (.own (xs.set j d)))
    | .owd kvs => kr.kept fun kd => keyOk kvs kd = true ∧ kvs.length < sizeLine ∧ E.nx (ρ2.put i (.owd (putD kvs kd d)))
    | _ => False
  | .aug i e, ρ, E => ∃ n, ρ.get i = .val (.int n) ∧ wpE C e ρ fun y ρ1 => ∃ m, y.toD = .int m ∧ E.nx (ρ1.put i (.val (.int (n + m))))
  | .app i e, ρ, E => (ρ.get i).isO = true ∧ wpE C e ρ fun r ρ1 => r.kept fun d => ∃ xs, ρ1.get i = .own xs ∧ xs.length < sizeLine ∧ E.nx (ρ1.put i (.own (xs ++ [d])))
  | .ext i e, ρ, E => (ρ.get i).isO = true ∧ wpE C e ρ fun r ρ1 => ∃ ys xs, r.toD = .lst ys ∧ ρ1.get i = .own xs ∧ xs.length + ys.length ≤ sizeLine ∧ E.nx (ρ1.put i (.own (xs ++ ys)))
  | .remv i e, ρ, E => (ρ.get i).isO = true ∧ wpE C e ρ fun r ρ1 => ∃ xs j is n, r.toD = .int n ∧ ρ1.get i = .own xs ∧ ints? xs = some is ∧ (is[j]? = some n ∧ ∀ m : Nat, m < j → is[m]? ≠ some n) ∧ E.nx (ρ1.put i (.own (xs.eraseIdx j)))
  | .pop0 t i, ρ, E => ∃ xs d, ρ.get i = .own xs ∧ xs[xs.length - 1]? = some d ∧ E.nx (stT t d (ρ.put i (.own xs.dropLast)))
  | .pop1 t i e, ρ, E => (ρ.get i).isO = true ∧ wpE C e ρ fun r ρ1 => ∃ xs n j d, ρ1.get i = .own xs ∧ r.toD = .int n ∧ rngOk n ∧ ixN xs.length n = some j ∧ xs[j]? = some d ∧ E.nx (stT t d (ρ1.put i (.own (xs.eraseIdx j))))
  | .popT k i e, ρ, E => ∃ ts, ρ.get k = .val (.tup ts) ∧ (ρ.get i).isO = true ∧ wpE C e ρ fun r ρ1 => ∃ xs n j d, ρ1.get i = .own xs ∧ r.toD = .int n ∧ rngOk n ∧ ixN xs.length n = some j ∧ xs[j]? = some d ∧ ts.length + 1 ≤ sizeLine ∧
      E.nx ((ρ1.put i (.own (xs.eraseIdx j))).put k (.val (.tup (ts ++ [d]))))
  | .sdef i k e, ρ, E => (ρ.get i).isD = true ∧ wpE C k ρ fun kr ρ1 => kr.kept fun kd => wpE C e ρ1 fun r ρ2 => r.kept fun d => ∃ kvs, ρ2.get i = .owd kvs ∧ keyOk kvs kd = true ∧ kvs.length < sizeLine ∧
      E.nx (ρ2.put i (.owd (if kvs.any (fun p => deq p.1 kd) then kvs else kvs ++ [(kd, d)])))
  | .ifs c a b, ρ, E => wpE C c ρ fun x ρ1 => ∃ k, x = .val (.bl k) ∧ brn k (wpS C a ρ1 E) (wpS C b ρ1 E)
  | .fr tg it b, ρ, E => wpI C false it ρ fun ds ρ1 => forL tg (wpS C b) ds ρ1 E
  | .frl tg i b, ρ, E => ∃ n, forO tg i (wpS C b) n 0 ρ E
  | .whl c b, ρ, E => ∃ n, whlL (wpE C c) (wpS C b) n ρ E
  | .ret e, ρ, E => wpE C e ρ fun r ρ1 => E.rt r ρ1.dr
  | .ret0, ρ, E => E.rt (.val .non) ρ.dr
  | .reto i, ρ, E => match ρ.get i with
    | .own xs => E.rt (.own xs) ρ.dr
    | .owd kvs => E.rt (.owd kvs) ρ.dr
    | _ => False
  | .brk, ρ, E => E.bk ρ
  | .cnt, ρ, E => E.ct ρ
  | .ex e, ρ, E => wpE C e ρ fun _ ρ1 => E.nx ρ1
  | .rais n, ρ, _ => C.xe n ρ.dr
/-- a def: its arguments in the first slots -/
def wpF (C : PC) (n : Nat) (b : IS) (as : List D) (dr : Nat) (Q : RV → Nat → Prop) : Prop :=
  wpS C b ⟨as.map SV.val ++ List.replicate (n - as.length) SV.no, dr⟩ ⟨fun ρ => Q (.val .non) ρ.dr, Q, fun _ => False, fun _ => False⟩
end PL
/-! PL2: plain data in the heap; the state's relation; how it goes on. -/
namespace PL
open PySem PySem.Spec PyProof.Rows L2

/-- what stands fixed: the written part, the world, the pool's three lists -/
structure RC where
  K : PySem.W.Frag
  w : World
  P : Option (Addr × Addr × Addr)
/-- an exact object -/
def exO (a : Addr) (o : Obj) : HO := .ext fun h => h.get? a = some o
def TupAt (K : PySem.W.Frag) (F : Hp) (a : Addr) (vs : List V) : Prop :=
  (∃ o, F a = some (.frz o (.tup vs)) ∧ o.dict = none) ∨
    ∃ (o : Obj) (its : Array Value) (n : Nat), K.lookup a = some o ∧ o.cls = .type "tuple" ∧ o.dict = none ∧ o.data = .seq its n ∧ its.size ≤ sizeLine ∧ Vals vs its.toList
def DctAt (F : Hp) (a : Addr) (es : List DictEntry) : Prop :=
  ∃ o ep, F a = some (exO a o) ∧ o.ExactDict ∧ o.data = .dict es.toArray ep ∧ (a == sysModules) = false ∧ es.length ≤ sizeLine
mutual
/-- v is the data d -/
inductive R (k : RC) (F : Hp) : V → D → Prop where
  | non : R k F .non .non
  | bl (b : Bool) : R k F (.bl b) (.bl b)
  | int (i : Int) : R k F (.int i) (.int i)
  | str (x : Str) : R k F (.str x) (.str x)
  | tup {a : Addr} {vs : List V} {ds : List D} : TupAt k.K F a vs → Rs k F vs ds → R k F (.ref a) (.tup ds)
  | lst {a : Addr} {vs : List V} {ds : List D} : F a = some (.lst vs) → Rs k F vs ds → R k F (.ref a) (.lst ds)
  | dct {a : Addr} {es : List DictEntry} {kvs : List (D × D)} : DctAt F a es → RKs k F es kvs → (kvs.map fun p => nk p.1).Nodup →
      (∀ p ∈ kvs, ∀ q ∈ kvs, scal p.1 = scal q.1) → R k F (.ref a) (.dct kvs)
  | rng {a : Addr} {lo hi : Int} : F a = some (.rng lo hi) → rngOk lo → rngOk hi → R k F (.ref a) (.rng lo hi)
  | pool {a r c : Addr} : k.P = some (a, r, c) → R k F (.ref a) .pool
inductive Rs (k : RC) (F : Hp) : List V → List D → Prop where
  | nil : Rs k F [] []
  | cons {v : V} {vs : List V} {d : D} {ds : List D} : R k F v d → Rs k F vs ds → Rs k F (v :: vs) (d :: ds)
inductive RKs (k : RC) (F : Hp) : List DictEntry → List (D × D) → Prop where
  | nil : RKs k F [] []
  | cons {e : DictEntry} {es : List DictEntry} {kd vd : D} {kvs : List (D × D)} {kv vv : V} {n : NestedKey} : RelV kv e.key → R k F kv kd → RelV vv e.val → R k F vv vd →
      nk kd = some n → n.depth ≤ 8 → e.hash = n.hash k.w → RKs k F es kvs → RKs k F (e :: es) ((kd, vd) :: kvs)
end
section
variable {k : RC} {F F' : Hp}
theorem TupAt.mono {K : PySem.W.Frag} {a : Addr} {vs : List V} (h : TupAt K F a vs) (s : Same F F') : TupAt K F' a vs := by
  rcases h with ⟨o, h, d⟩ | h
  · exact .inl ⟨o, s _ _ h, d⟩
  · exact .inr h
theorem TupAt.sq {K : PySem.W.Frag} {a : Addr} {vs : List V} (h : TupAt K F a vs) : SqT K F a vs := by
  rcases h with ⟨o, h, d⟩ | ⟨o, its, n, h1, h2, h3, h4, h5, h6⟩
  · exact .inl (.inr ⟨o, h⟩)
  · exact .inr ⟨o, its, n, h1, h2, h4, h5, h6⟩
theorem Rd.mono {a : Addr} {u : HO} (h : Rd F a u) (s : Same F F') : Rd F' a u := by
  rcases h with h | ⟨o, h⟩
  · exact .inl (s _ _ h)
  · exact .inr ⟨o, s _ _ h⟩
theorem DctAt.mono {a : Addr} {es : List DictEntry} (h : DctAt F a es) (s : Same F F') : DctAt F' a es := by
  obtain ⟨o, ep, h, r⟩ := h
  exact ⟨o, ep, s _ _ h, r⟩
mutual
theorem R.mono (s : Same F F') : ∀ {v : V} {d : D}, R k F v d → R k F' v d
  | _, _, .non => .non
  | _, _, .bl b => .bl b
  | _, _, .int i => .int i
  | _, _, .str x => .str x
  | _, _, .tup h r => .tup (h.mono s) (Rs.mono s r)
  | _, _, .lst h r => .lst (s _ _ h) (Rs.mono s r)
  | _, _, .dct h r n u => .dct (h.mono s) (RKs.mono s r) n u
  | _, _, .rng h a b => .rng (s _ _ h) a b
  | _, _, .pool h => .pool h
theorem Rs.mono (s : Same F F') : ∀ {vs : List V} {ds : List D}, Rs k F vs ds → Rs k F' vs ds
  | _, _, .nil => .nil
  | _, _, .cons h r => .cons (R.mono s h) (Rs.mono s r)
theorem RKs.mono (s : Same F F') : ∀ {es : List DictEntry} {kvs : List (D × D)}, RKs k F es kvs → RKs k F' es kvs
  | _, _, .nil => .nil
  | _, _, .cons a h b i c d e r => .cons a (R.mono s h) b (R.mono s i) c d e (RKs.mono s r)
end
theorem Rs.length : ∀ {vs : List V} {ds : List D}, Rs k F vs ds → vs.length = ds.length
  | _, _, .nil => rfl
  | _, _, .cons _ r => by rw [List.length_cons, List.length_cons, Rs.length r]
theorem RKs.length : ∀ {es : List DictEntry} {kvs : List (D × D)}, RKs k F es kvs → es.length = kvs.length
  | _, _, .nil => rfl
  | _, _, .cons _ _ _ _ _ _ _ r => by rw [List.length_cons, List.length_cons, RKs.length r]
theorem Rs.get : ∀ {vs : List V} {ds : List D} {i : Nat} {d : D}, Rs k F vs ds → ds[i]? = some d → ∃ v, vs[i]? = some v ∧ R k F v d
  | _, _, _, _, .nil, e => by simp at e
  | _, _, 0, _, .cons h _, e => by simp at e; subst e; exact ⟨_, rfl, h⟩
  | _, _, i + 1, d, .cons _ r, e => by
    obtain ⟨v, h1, h2⟩ := Rs.get (i := i) (d := d) r (by simpa using e)
    exact ⟨v, by simpa using h1, h2⟩
theorem Rs.get' : ∀ {vs : List V} {ds : List D} {i : Nat} {v : V}, Rs k F vs ds → vs[i]? = some v → ∃ d, ds[i]? = some d ∧ R k F v d
  | _, _, _, _, .nil, e => by simp at e
  | _, _, 0, _, .cons h _, e => by simp at e; subst e; exact ⟨_, rfl, h⟩
  | _, _, i + 1, d, .cons _ r, e => by
    obtain ⟨v, h1, h2⟩ := Rs.get' (i := i) (v := d) r (by simpa using e)
    exact ⟨v, by simpa using h1, h2⟩
theorem Rs.append : ∀ {vs ws : List V} {ds es : List D}, Rs k F vs ds → Rs k F ws es → Rs k F (vs ++ ws) (ds ++ es)
  | _, _, _, _, .nil, s => s
  | _, _, _, _, .cons h r, s => .cons h (Rs.append r s)
theorem Rs.take : ∀ {vs : List V} {ds : List D} (n : Nat), Rs k F vs ds → Rs k F (vs.take n) (ds.take n)
  | _, _, 0, _ => .nil
  | _, _, _ + 1, .nil => .nil
  | _, _, n + 1, .cons h r => .cons h (Rs.take n r)
theorem Rs.drop : ∀ {vs : List V} {ds : List D} (n : Nat), Rs k F vs ds → Rs k F (vs.drop n) (ds.drop n)
  | _, _, 0, r => r
  | _, _, _ + 1, .nil => .nil
  | _, _, n + 1, .cons _ r => Rs.drop n r
theorem Rs.set : ∀ {vs : List V} {ds : List D} (i : Nat) {v : V} {d : D}, Rs k F vs ds → R k F v d → Rs k F (vs.set i v) (ds.set i d)
  | _, _, _, _, _, .nil, _ => .nil
  | _, _, 0, _, _, .cons _ r, h => .cons h r
  | _, _, i + 1, _, _, .cons q r, h => .cons q (Rs.set i r h)
theorem Rs.eraseIdx : ∀ {vs : List V} {ds : List D} (i : Nat), Rs k F vs ds → Rs k F (vs.eraseIdx i) (ds.eraseIdx i)
  | _, _, _, .nil => .nil
  | _, _, 0, .cons _ r => r
  | _, _, i + 1, .cons h r => .cons h (Rs.eraseIdx i r)
theorem Rs.reverse : ∀ {vs : List V} {ds : List D}, Rs k F vs ds → Rs k F vs.reverse ds.reverse
  | _, _, .nil => .nil
  | _, _, .cons h r => by rw [List.reverse_cons, List.reverse_cons]; exact (Rs.reverse r).append (.cons h .nil)
theorem Rs.flat {vs : List V} {ds : List D} (r : Rs k F vs ds) : ∀ n : Nat, Rs k F (List.replicate n vs).flatten (List.replicate n ds).flatten
  | 0 => .nil
  | n + 1 => by rw [List.replicate_succ, List.replicate_succ, List.flatten_cons, List.flatten_cons]; exact r.append (Rs.flat r n)
theorem Rs.dropLast {vs : List V} {ds : List D} (r : Rs k F vs ds) : Rs k F vs.dropLast ds.dropLast := by
  rw [List.dropLast_eq_take, List.dropLast_eq_take, r.length]; exact r.take _
end

/-! ### the state -/
def isC (k : RC) (a : Addr) : Prop := ∃ p r, k.P = some (p, r, a)
def inP' (k : RC) (a : Addr) : Prop := ∃ p r c, k.P = some (p, r, c) ∧ (a = p ∨ a = r ∨ a = c)
theorem isC.inP {k : RC} {a : Addr} (h : isC k a) : inP' k a := let ⟨p, r, e⟩ := h; ⟨p, r, a, e, .inr (.inr rfl)⟩
/-- the pool's lists, not seen from elsewhere -/
def PoolOk (k : RC) (F H : Hp) (dr : Nat) : Prop := ∀ p r c, k.P = some (p, r, c) → (F p = none ∧ F r = none ∧ F c = none) ∧ (c ≠ p ∧ c ≠ r) ∧ H p = some (.lst [.ref r, .ref c]) ∧
  (∃ rows : List Int, (rows ≠ [] ∧ rows.length ≤ 1000000) ∧ H r = some (.lst (rows.map V.int))) ∧ ∃ n : Int, 0 ≤ n ∧ n ≤ dr ∧ H c = some (.lst [.int n])
def OwnL (k : RC) (F H : Hp) (a : Addr) (xs : List D) : Prop := ∃ vs, H a = some (.lst vs) ∧ F a = none ∧ ¬ inP' k a ∧ Rs k F vs xs
def OwnDk (k : RC) (F H : Hp) (a : Addr) (kvs : List (D × D)) : Prop := ∃ es, DctAt H a es ∧ F a = none ∧ ¬ inP' k a ∧ RKs k F es kvs ∧ (kvs.map fun p => nk p.1).Nodup ∧ ∀ p ∈ kvs, ∀ q ∈ kvs, scal p.1 = scal q.1
def SlotR (k : RC) (F H : Hp) (x : Option (Option V)) : SV → Prop
  | .no => True
  | .val d => ∃ v, x = some (some v) ∧ R k F v d
  | .own xs => ∃ a, x = some (some (.ref a)) ∧ OwnL k F H a xs
  | .owd kvs => ∃ a, x = some (some (.ref a)) ∧ OwnDk k F H a kvs
/-- the slot i owns the thing at a -/
def OwnAt (ρ : PEnv) (σ : L2.St) (i : Nat) (a : Addr) : Prop := (ρ.get i).plain = false ∧ σ[i]? = some (some (.ref a))
structure Rel (k : RC) (ρ : PEnv) (σ : L2.St) (F H : Hp) : Prop where
  len : ρ.sl.length = σ.length
  sub : Same F H
  slot : ∀ i, SlotR k F H σ[i]? (ρ.get i)
  inj : ∀ i j a, OwnAt ρ σ i a → OwnAt ρ σ j a → i = j
  pool : PoolOk k F H ρ.dr
/-- all tracked things but the pool's counter are as they were -/
def SameX (k : RC) (H H' : Hp) : Prop := ∀ a o, H a = some o → ¬ isC k a → H' a = some o
/-- an expression has been evaluated -/
structure ETr (k : RC) (ρ : PEnv) (σ : L2.St) (F H : Hp) (ρ' : PEnv) (F' H' : Hp) : Prop where
  sub : Same F F'
  heap : SameX k H H'
  there : ∀ a, H a ≠ none → H' a ≠ none
  vis : ∀ a, H a ≠ none → (∀ i, ¬ OwnAt ρ σ i a) → F' a = F a
  own : ∀ i a, OwnAt ρ' σ i a → OwnAt ρ σ i a
/-- what is lent: a seen thing, or a slot's own one -/
def BR (k : RC) (F H : Hp) (v : V) (d : D) : Prop := R k F v d ∨ (∃ a xs, v = .ref a ∧ d = .lst xs ∧ OwnL k F H a xs) ∨ ∃ a kvs, v = .ref a ∧ d = .dct kvs ∧ OwnDk k F H a kvs
def RR (k : RC) (H : Hp) (F' H' : Hp) (v : V) : RV → Prop
  | .val d => R k F' v d
  | .brw d => BR k F' H' v d
  | .own xs => ∃ a, v = .ref a ∧ H a = none ∧ OwnL k F' H' a xs
  | .owd kvs => ∃ a, v = .ref a ∧ H a = none ∧ OwnDk k F' H' a kvs
structure EPost (k : RC) (ρ : PEnv) (σ : L2.St) (F H : Hp) (r : RV) (v : V) (ρ' : PEnv) (F' H' : Hp) : Prop where
  rel : Rel k ρ' σ F' H'
  tr : ETr k ρ σ F H ρ' F' H'
  res : RR k H F' H' v r
section
variable {k : RC} {ρ ρ1 ρ2 ρ3 : PEnv} {σ : L2.St} {F F1 F2 F3 H H1 H2 H3 : Hp} {v : V} {d : D} {r : RV}
theorem SameX.refl : SameX k H H := fun _ _ h _ => h
theorem SameX.trans (a : SameX k H H1) (b : SameX k H1 H2) : SameX k H H2 := fun c o h n => b c o (a c o h n) n
theorem SameX.of (a : Same H H1) : SameX k H H1 := fun c o h _ => a c o h
theorem Rel.nop (h : Rel k ρ σ F H) : ∀ a, inP' k a → F a = none := fun a ⟨p, r, c, e, z⟩ => by
  obtain ⟨⟨h1, h2, h3⟩, _⟩ := h.pool p r c e
  rcases z with rfl | rfl | rfl
  · exact h1
  · exact h2
  · exact h3
theorem Same.upd_new {a : Addr} {o : HO} (h : F a = none) : Same F (upd F a o) := fun b u e => by
  rw [upd_ne (ne_of_none e h)]; exact e
theorem EPost.lent (p : EPost k ρ σ F H r v ρ1 F1 H1) : BR k F1 H1 v r.toD := by
  have q := p.res
  cases r with
  | val d => exact .inl q
  | brw d => exact q
  | own xs => obtain ⟨a, rfl, _, o⟩ := q; exact .inr (.inl ⟨a, xs, rfl, rfl, o⟩)
  | owd kvs => obtain ⟨a, rfl, _, o⟩ := q; exact .inr (.inr ⟨a, kvs, rfl, rfl, o⟩)
theorem ETr.refl : ETr k ρ σ F H ρ F H := ⟨fun _ _ h => h, .refl, fun _ h => h, fun _ _ _ => rfl, fun _ _ h => h⟩
theorem ETr.trans (a : ETr k ρ σ F H ρ1 F1 H1) (b : ETr k ρ1 σ F1 H1 ρ2 F2 H2) : ETr k ρ σ F H ρ2 F2 H2 where
  sub := fun c o h => b.sub c o (a.sub c o h)
  heap := a.heap.trans b.heap
  there := fun c h => b.there c (a.there c h)
  vis := fun c h n => (b.vis c (a.there c h) fun i z => n i (a.own i c z)).trans (a.vis c h n)
  own := fun i c h => a.own i c (b.own i c h)
end
end PL
/-! PL3: the state goes on: new things, frozen things; tuples made, with their objects known. -/
namespace PL
open PySem PySem.Spec PyProof.Rows L2

section
variable {k : RC} {ρ ρ' ρ1 ρ2 ρ3 : PEnv} {σ : L2.St} {F F1 F2 F3 F' H H1 H2 H3 H' : Hp} {v : V} {d : D} {r : RV} {a : Addr} {o : HO}
theorem PoolOk.grow {dr : Nat} (h : PoolOk k F H dr) (s : Same H H') (vis : ∀ a, H a ≠ none → F' a = F a) : PoolOk k F' H' dr := fun p r c e => by
  obtain ⟨⟨f1, f2, f3⟩, n, h1, ⟨rows, hr, h2⟩, m, hm, hm', h3⟩ := h p r c e
  have g : ∀ {b u}, H b = some u → H b ≠ none := fun e z => by rw [e] at z; cases z
  exact ⟨⟨(vis p (g h1)).trans f1, (vis r (g h2)).trans f2, (vis c (g h3)).trans f3⟩, n, s _ _ h1, ⟨rows, hr, s _ _ h2⟩, m, hm, hm', s _ _ h3⟩
theorem OwnL.grow {xs : List D} (h : OwnL k F H a xs) (sub : Same F F') (heap : SameX k H H') (vis : F' a = F a) : OwnL k F' H' a xs := by
  obtain ⟨vs, h1, h2, h3, h4⟩ := h
  exact ⟨vs, heap _ _ h1 fun z => h3 z.inP, vis.trans h2, h3, h4.mono sub⟩
theorem OwnDk.grow {kvs : List (D × D)} (h : OwnDk k F H a kvs) (sub : Same F F') (heap : SameX k H H') (vis : F' a = F a) : OwnDk k F' H' a kvs := by
  obtain ⟨es, ⟨o, ep, h1, hr⟩, h2, h3, h4, h5⟩ := h
  exact ⟨es, ⟨o, ep, heap _ _ h1 fun z => h3 z.inP, hr⟩, vis.trans h2, h3, h4.mono sub, h5⟩
/-- what is lent stays so, or is seen by now -/
theorem BR.grow (h : BR k F H v d) (sub : Same F F') (heap : SameX k H H') (ins : Same F' H') : BR k F' H' v d := by
  rcases h with h | ⟨a, xs, rfl, rfl, o⟩ | ⟨a, kvs, rfl, rfl, o⟩
  · exact .inl (h.mono sub)
  · obtain ⟨vs, h1, h2, h3, h4⟩ := id o
    have h1' := heap _ _ h1 fun z => h3 z.inP
    cases e : F' a with
    | none => exact .inr (.inl ⟨a, xs, rfl, rfl, vs, h1', e, h3, h4.mono sub⟩)
    | some u =>
      have := (ins a u e).symm.trans h1'
      cases this
      exact .inl (.lst e (h4.mono sub))
  · obtain ⟨es, ⟨ob, ep, h1, hr⟩, h2, h3, h4, n, u⟩ := id o
    have h1' := heap _ _ h1 fun z => h3 z.inP
    cases e : F' a with
    | none => exact .inr (.inr ⟨a, kvs, rfl, rfl, es, ⟨ob, ep, h1', hr⟩, e, h3, h4.mono sub, n, u⟩)
    | some w =>
      have := (ins a w e).symm.trans h1'
      cases this
      exact .inl (.dct ⟨ob, ep, e, hr⟩ (h4.mono sub) n u)
theorem BR.tr {σ' : L2.St} (h : BR k F H v d) (t : ETr k ρ σ F H ρ' F' H') (r : Rel k ρ' σ' F' H') : BR k F' H' v d := h.grow t.sub t.heap r.sub
theorem BR.int {i : Int} (h : BR k F H v (.int i)) : v = .int i := by
  rcases h with h | ⟨a, xs, _, e, _⟩ | ⟨a, kvs, _, e, _⟩
  · cases h; rfl
  · cases e
  · cases e
theorem BR.bl {i : Bool} (h : BR k F H v (.bl i)) : v = .bl i := by
  rcases h with h | ⟨a, xs, _, e, _⟩ | ⟨a, kvs, _, e, _⟩
  · cases h; rfl
  · cases e
  · cases e
theorem BR.str {i : Str} (h : BR k F H v (.str i)) : v = .str i := by
  rcases h with h | ⟨a, xs, _, e, _⟩ | ⟨a, kvs, _, e, _⟩
  · cases h; rfl
  · cases e
  · cases e
theorem BR.non (h : BR k F H v .non) : v = .non := by
  rcases h with h | ⟨a, xs, _, e, _⟩ | ⟨a, kvs, _, e, _⟩
  · cases h; rfl
  · cases e
  · cases e
theorem BR.tup {ds : List D} (h : BR k F H v (.tup ds)) : ∃ a vs, v = .ref a ∧ TupAt k.K F a vs ∧ Rs k F vs ds := by
  rcases h with h | ⟨a, xs, _, e, _⟩ | ⟨a, kvs, _, e, _⟩
  · cases h with | tup h r => exact ⟨_, _, rfl, h, r⟩
  · cases e
  · cases e
theorem BR.lst {ds : List D} (s : Same F H) (h : BR k F H v (.lst ds)) : ∃ a vs, v = .ref a ∧ H a = some (.lst vs) ∧ Rs k F vs ds := by
  rcases h with h | ⟨a, xs, rfl, e, vs, h1, _, _, h4⟩ | ⟨a, kvs, _, e, _⟩
  · cases h with | lst h r => exact ⟨_, _, rfl, s _ _ h, r⟩
  · cases e; exact ⟨a, vs, rfl, h1, h4⟩
  · cases e
theorem BR.dct {kvs : List (D × D)} (s : Same F H) (h : BR k F H v (.dct kvs)) : ∃ a es, v = .ref a ∧ DctAt H a es ∧ RKs k F es kvs ∧ (kvs.map fun p => nk p.1).Nodup ∧ ∀ p ∈ kvs, ∀ q ∈ kvs, scal p.1 = scal q.1 := by
  rcases h with h | ⟨a, xs, _, e, _⟩ | ⟨a, kvs, rfl, e, es, h1, _, _, h4, h5⟩
  · cases h with | dct h r n u => exact ⟨_, _, rfl, DctAt.mono h s, r, n, u⟩
  · cases e
  · cases e; exact ⟨a, es, rfl, h1, h4, h5⟩
theorem BR.rng {lo hi : Int} (h : BR k F H v (.rng lo hi)) : ∃ a, v = .ref a ∧ F a = some (.rng lo hi) ∧ rngOk lo ∧ rngOk hi := by
  rcases h with h | ⟨a, xs, _, e, _⟩ | ⟨a, kvs, _, e, _⟩
  · cases h with | rng h a b => exact ⟨_, rfl, h, a, b⟩
  · cases e
  · cases e
theorem SlotR.here {x : Option (Option V)} {s : SV} {i : Nat} (h : SlotR k F H σ[i]? s) (e : s.plain = false) : ∃ a, σ[i]? = some (some (.ref a)) ∧ H a ≠ none := by
  cases s with
  | no => cases e
  | val d => cases e
  | own xs => obtain ⟨a, e, vs, h1, _⟩ := h; exact ⟨a, e, by rw [h1]; simp⟩
  | owd kvs => obtain ⟨a, e, es, ⟨o, ep, h1, _⟩, _⟩ := h; exact ⟨a, e, by rw [h1]; simp⟩
theorem Rel.ownH (h : Rel k ρ σ F H) {i : Nat} (q : OwnAt ρ σ i a) : H a ≠ none := by
  obtain ⟨b, e, n⟩ := SlotR.here (x := none) (h.slot i) q.1
  rw [q.2] at e
  cases e
  exact n
/-- the same slots over a grown heap -/
theorem Rel.grow {dr : Nat} (h : Rel k ρ σ F H) (sub : Same F F') (ins : Same F' H') (heap : SameX k H H') (vis : ∀ a, H a ≠ none → F' a = F a) (pool : PoolOk k F' H' dr) : Rel k ⟨ρ.sl, dr⟩ σ F' H' := by
  refine ⟨h.len, ins, fun i => ?_, h.inj, pool⟩
  have q := h.slot i
  show SlotR k F' H' σ[i]? (ρ.get i)
  cases e : ρ.get i with
  | no => trivial
  | val d => rw [e] at q; obtain ⟨v, e1, e2⟩ := q; exact ⟨v, e1, e2.mono sub⟩
  | own xs =>
    rw [e] at q; obtain ⟨a, e1, e2⟩ := q
    exact ⟨a, e1, e2.grow sub heap (vis a (h.ownH (i := i) ⟨by rw [e]; rfl, e1⟩))⟩
  | owd xs =>
    rw [e] at q; obtain ⟨a, e1, e2⟩ := q
    exact ⟨a, e1, e2.grow sub heap (vis a (h.ownH (i := i) ⟨by rw [e]; rfl, e1⟩))⟩
theorem ETr.grow {dr : Nat} (sub : Same F F') (heap : SameX k H H') (there : ∀ a, H a ≠ none → H' a ≠ none) (vis : ∀ a, H a ≠ none → F' a = F a) : ETr k ρ σ F H ⟨ρ.sl, dr⟩ F' H' :=
  ⟨sub, heap, there, fun a h _ => vis a h, fun _ _ h => h⟩
theorem there_of (s : Same H H') : ∀ a, H a ≠ none → H' a ≠ none := fun a h z => by
  cases e : H a with
  | none => exact h e
  | some u => rw [s a u e] at z; cases z
/-- all the tracked things kept -/
theorem Rel.keepH (h : Rel k ρ σ F H) (s : Same H H') : Rel k ρ σ F H' :=
  h.grow (fun _ _ e => e) (fun b u e => s b u (h.sub b u e)) (.of s) (fun _ _ => rfl) (h.pool.grow s fun _ _ => rfl)
theorem ETr.keepH (s : Same H H') : ETr k ρ σ F H ρ F H' := ETr.grow (dr := ρ.dr) (fun _ _ e => e) (.of s) (there_of s) fun _ _ => rfl
/-- a new thing that is seen from now on -/
theorem Rel.newF (h : Rel k ρ σ F H) (hn : H a = none) : Rel k ρ σ (upd F a o) (upd H a o) := by
  have fn : F a = none := by
    cases e : F a with
    | none => rfl
    | some u => rw [h.sub a u e] at hn; cases hn
  have vis : ∀ b, H b ≠ none → upd F a o b = F b := fun b hb => upd_ne fun z => hb (z ▸ hn)
  refine h.grow (Same.upd_new fn) (fun b u e => ?_) (.of (Same.upd_new hn)) vis (h.pool.grow (Same.upd_new hn) vis)
  by_cases z : b = a
  · subst z; rw [upd_same] at e ⊢; exact e
  · rw [upd_ne z] at e ⊢; exact h.sub b u e
theorem Rel.fnone (h : Rel k ρ σ F H) (hn : H a = none) : F a = none := by
  cases e : F a with
  | none => rfl
  | some u => rw [h.sub a u e] at hn; cases hn
theorem ETr.newF (h : Rel k ρ σ F H) (hn : H a = none) : ETr k ρ σ F H ρ (upd F a o) (upd H a o) :=
  ETr.grow (dr := ρ.dr) (Same.upd_new (h.fnone hn)) (.of (Same.upd_new hn)) (there_of (Same.upd_new hn)) fun b hb => upd_ne fun z => hb (z ▸ hn)
/-- .. not seen -/
theorem Rel.newH (h : Rel k ρ σ F H) (hn : H a = none) : Rel k ρ σ F (upd H a o) := h.keepH (Same.upd_new hn)
theorem Rel.nopN (h : Rel k ρ σ F H) (hn : H a = none) : ¬ inP' k a := fun ⟨p, r, c, e, z⟩ => by
  obtain ⟨_, _, h1, ⟨rows, _, h2⟩, m, _, _, h3⟩ := h.pool p r c e
  rcases z with rfl | rfl | rfl
  · rw [h1] at hn; cases hn
  · rw [h2] at hn; cases hn
  · rw [h3] at hn; cases hn
/-- a slot's own thing is frozen -/
theorem get_put {i j : Nat} {s : SV} (hi : i < ρ.sl.length) : (ρ.put i s).get j = if j = i then s else ρ.get j := by
  unfold PEnv.get PEnv.put
  simp only [List.getD_eq_getElem?_getD, List.getElem?_set]
  by_cases h : i = j
  · subst h; simp [hi]
  · rw [if_neg h, if_neg (Ne.symm h)]
theorem put_len {i : Nat} {s : SV} : (ρ.put i s).sl.length = ρ.sl.length := by unfold PEnv.put; simp
theorem get_lt {i : Nat} (h : ρ.get i ≠ .no) : i < ρ.sl.length := by
  by_cases q : i < ρ.sl.length
  · exact q
  · exfalso; apply h; unfold PEnv.get; rw [List.getD_eq_getElem?_getD, List.getElem?_eq_none (by omega)]; rfl
theorem PoolOk.see {dr : Nat} (h : PoolOk k F H dr) (n : ¬ inP' k a) : PoolOk k (upd F a o) H dr := fun p r c e => by
  obtain ⟨⟨f1, f2, f3⟩, q⟩ := h p r c e
  have w : ∀ b, (b = p ∨ b = r ∨ b = c) → b ≠ a := fun b z y => n ⟨p, r, c, e, y ▸ z⟩
  exact ⟨⟨(upd_ne (w p (.inl rfl))).trans f1, (upd_ne (w r (.inr (.inl rfl)))).trans f2, (upd_ne (w c (.inr (.inr rfl)))).trans f3⟩, q⟩
/-- the thing at a, that slot i owns, is seen from now on -/
theorem Rel.freeze {i : Nat} {u : HO} (h : Rel k ρ σ F H) (q : OwnAt ρ σ i a) (hu : H a = some u) (fa : F a = none) (np : ¬ inP' k a) {d : D} (rd : R k (upd F a u) (.ref a) d) :
    Rel k (ρ.put i (.val d)) σ (upd F a u) H ∧ ETr k ρ σ F H (ρ.put i (.val d)) (upd F a u) H := by
  have hi : i < ρ.sl.length := get_lt fun z => by have := q.1; rw [z] at this; cases this
  have sub : Same F (upd F a u) := Same.upd_new fa
  have pl : ∀ j, j ≠ i → (ρ.put i (.val d)).get j = ρ.get j := fun j e => by rw [get_put hi, if_neg e]
  have pi : (ρ.put i (.val d)).get i = .val d := by rw [get_put hi, if_pos rfl]
  have ow : ∀ j b, OwnAt (ρ.put i (.val d)) σ j b → OwnAt ρ σ j b ∧ j ≠ i := fun j b z => by
    by_cases e : j = i
    · subst e; have := z.1; rw [pi] at this; cases this
    · exact ⟨⟨by rw [← pl j e]; exact z.1, z.2⟩, e⟩
  refine ⟨⟨?_, ?_, fun j => ?_, fun j l b x y => h.inj j l b (ow j b x).1 (ow l b y).1, ?_⟩, ⟨sub, .refl, fun _ z => z, fun b hb n => ?_, fun j b z => (ow j b z).1⟩⟩
  · rw [put_len]; exact h.len
  · intro b w e
    by_cases z : b = a
    · subst z; rw [upd_same] at e; rw [← e]; exact hu
    · rw [upd_ne z] at e; exact h.sub b w e
  · by_cases e : j = i
    · subst e; rw [pi]; exact ⟨.ref a, q.2, rd⟩
    · rw [pl j e]
      have s := h.slot j
      cases eg : ρ.get j with
      | no => trivial
      | val d => rw [eg] at s; obtain ⟨v, e1, e2⟩ := s; exact ⟨v, e1, e2.mono sub⟩
      | own xs =>
        rw [eg] at s; obtain ⟨b, e1, e2⟩ := s
        exact ⟨b, e1, e2.grow sub .refl (upd_ne fun z => e (h.inj j i a ⟨by rw [eg]; rfl, by rw [← z]; exact e1⟩ q))⟩
      | owd xs =>
        rw [eg] at s; obtain ⟨b, e1, e2⟩ := s
        exact ⟨b, e1, e2.grow sub .refl (upd_ne fun z => e (h.inj j i a ⟨by rw [eg]; rfl, by rw [← z]; exact e1⟩ q))⟩
  · exact h.pool.see np
  · exact upd_ne fun z => n i (by rw [z]; exact q)
end

/-! ### what an expression's reading ends with -/
section
variable {k : RC} {ρ ρ' ρ1 ρ2 ρ3 : PEnv} {σ : L2.St} {F F1 F2 F3 F' H H1 H2 H3 H' : Hp} {v : V} {d : D} {r : RV} {a : Addr} {o : HO}
theorem EPost.flat (h : Rel k ρ1 σ F1 H1) (t : ETr k ρ σ F H ρ1 F1 H1) (q : R k F1 v d) : EPost k ρ σ F H (.val d) v ρ1 F1 H1 := ⟨h, t, q⟩
theorem EPost.newF (h : Rel k ρ1 σ F1 H1) (t : ETr k ρ σ F H ρ1 F1 H1) (hn : H1 a = none) (q : R k (upd F1 a o) (.ref a) d) : EPost k ρ σ F H (.val d) (.ref a) ρ1 (upd F1 a o) (upd H1 a o) :=
  ⟨h.newF hn, t.trans (.newF h hn), q⟩
theorem none_back (s : ∀ a, H a ≠ none → H1 a ≠ none) (hn : H1 a = none) : H a = none := by
  cases e : H a with
  | none => rfl
  | some u => exact absurd hn (s a (by rw [e]; simp))
theorem EPost.newL {vs : List V} {xs : List D} (h : Rel k ρ1 σ F1 H1) (t : ETr k ρ σ F H ρ1 F1 H1) (hn : H1 a = none) (q : Rs k F1 vs xs) : EPost k ρ σ F H (.own xs) (.ref a) ρ1 F1 (upd H1 a (.lst vs)) :=
  ⟨h.newH hn, t.trans (.keepH (Same.upd_new hn)), a, rfl, none_back t.there hn, vs, upd_same, h.fnone hn, h.nopN hn, q⟩
/-- behind an expression, another one -/
theorem EPost.then {r1 r2 : RV} {v1 v2 : V} (p : EPost k ρ σ F H r1 v1 ρ1 F1 H1) (q : EPost k ρ1 σ F1 H1 r2 v2 ρ2 F2 H2) : EPost k ρ σ F H r2 v2 ρ2 F2 H2 := by
  refine ⟨q.rel, p.tr.trans q.tr, ?_⟩
  have z := q.res
  cases r2 with
  | val d => exact z
  | brw d => exact z
  | own xs => obtain ⟨a, e, n, o⟩ := z; exact ⟨a, e, none_back p.tr.there n, o⟩
  | owd xs => obtain ⟨a, e, n, o⟩ := z; exact ⟨a, e, none_back p.tr.there n, o⟩
theorem EPost.tr2 {r1 r2 : RV} {v1 v2 : V} (p : EPost k ρ σ F H r1 v1 ρ1 F1 H1) (q : ETr k ρ1 σ F1 H1 ρ2 F2 H2) : ETr k ρ σ F H ρ2 F2 H2 := p.tr.trans q
/-- a thing that no slot owns is seen from now on -/
theorem Rel.see {u : HO} (h : Rel k ρ σ F H) (n : ∀ i, ¬ OwnAt ρ σ i a) (hu : H a = some u) (fa : F a = none) (np : ¬ inP' k a) : Rel k ρ σ (upd F a u) H := by
  have sub : Same F (upd F a u) := Same.upd_new fa
  refine ⟨h.len, ?_, fun j => ?_, h.inj, h.pool.see np⟩
  · intro b w e
    by_cases z : b = a
    · subst z; rw [upd_same] at e; rw [← e]; exact hu
    · rw [upd_ne z] at e; exact h.sub b w e
  · have s := h.slot j
    cases eg : ρ.get j with
    | no => trivial
    | val d => rw [eg] at s; obtain ⟨v, e1, e2⟩ := s; exact ⟨v, e1, e2.mono sub⟩
    | own xs =>
      rw [eg] at s; obtain ⟨b, e1, e2⟩ := s
      exact ⟨b, e1, e2.grow sub .refl (upd_ne fun z => n j ⟨by rw [eg]; rfl, by rw [← z]; exact e1⟩)⟩
    | owd xs =>
      rw [eg] at s; obtain ⟨b, e1, e2⟩ := s
      exact ⟨b, e1, e2.grow sub .refl (upd_ne fun z => n j ⟨by rw [eg]; rfl, by rw [← z]; exact e1⟩)⟩
/-- kept things may be laid into others: what is new is seen from now on -/
theorem EPost.keep {Q : D → Prop} (h0 : Rel k ρ σ F H) (p : EPost k ρ σ F H r v ρ1 F1 H1) (h : r.kept Q) : ∃ d F2, Q d ∧ r.toD = d ∧ R k F2 v d ∧ Rel k ρ1 σ F2 H1 ∧ ETr k ρ σ F H ρ1 F2 H1 := by
  have q := p.res
  have seen : ∀ {a u}, H a = none → H1 a = some u → F1 a = none → ¬ inP' k a → Rel k ρ1 σ (upd F1 a u) H1 ∧ ETr k ρ σ F H ρ1 (upd F1 a u) H1 := fun {a u} hn hu fa np => by
    have ne : ∀ i, ¬ OwnAt ρ1 σ i a := fun i z => h0.ownH (p.tr.own i a z) hn
    refine ⟨p.rel.see ne hu fa np, ⟨fun b w e => Same.upd_new fa b w (p.tr.sub b w e), p.tr.heap, p.tr.there, fun b hb n => ?_, p.tr.own⟩⟩
    rw [upd_ne (fun z => hb (by rw [z]; exact hn))]; exact p.tr.vis b hb n
  cases r with
  | val d => exact ⟨d, F1, h, rfl, q, p.rel, p.tr⟩
  | brw d => exact h.elim
  | own xs =>
    obtain ⟨a, rfl, hn, vs, h1, h2, h3, h4⟩ := q
    obtain ⟨x1, x2⟩ := seen hn h1 h2 h3
    exact ⟨_, _, h, rfl, .lst upd_same (h4.mono (Same.upd_new h2)), x1, x2⟩
  | owd kvs =>
    obtain ⟨a, rfl, hn, es, ⟨o, ep, h1, h5, h6, h7⟩, h2, h3, h4, n, u⟩ := q
    obtain ⟨x1, x2⟩ := seen hn h1 h2 h3
    exact ⟨_, _, h, rfl, .dct ⟨o, ep, upd_same, h5, h6, h7⟩ (h4.mono (Same.upd_new h2)) n u, x1, x2⟩
end

/-! ### tuples made, their objects known -/
section
variable {X : Cx} {pins : List (Addr × Obj)} {σ : L2.St} {H : Hp} {s : Shared}
def tupObj (its : List Value) : Obj := { cls := .type "tuple", data := .seq its.toArray }
theorem laidT {xs : List V} {its : List Value} {t' : Nat} (I : Inv X pins σ H s) (r : Vals xs its) (hz : xs.length ≤ sizeLine) :
    Inv X pins σ (upd H s.heap.objs.size (.frz (tupObj its) (.tup xs))) { s with heap := s.heap.push (tupObj its), toks := t' } :=
  I.laid (fun b o e => Heap.get?_push_of_some _ e) (Nat.le_refl _) ⟨Heap.get?_push_size _ rfl, hz, its, r, IsTup.new _ _⟩
/-- the wish of a new tuple -/
def NewT (xs : List V) (H : Hp) (Q : VK) : Prop := ∀ p o, H p = none → o.dict = none → Q (.ref p) (upd H p (.frz o (.tup xs)))
def tTupF (t : TA) : TE := fun σ H Q => t σ H fun xs H1 => xs.length ≤ sizeLine ∧ NewT xs H1 Q
theorem pe_tupF {es : List Expr} {t : TA} {pos : Pos} {x1} (h : PA X es t) : PE X (.Tuple es x1 pos) (tTupF t) := by
  refine ⟨fun pins s σ H Q I hq => ?_⟩
  refine wpAny_Tuple_spliced (thn (h.run pos pins s σ H _ I hq) fun us s1 ⟨xs, H1, I1, r, z, q⟩ => ⟨by rw [← r.length]; exact z, ?_⟩)
  exact ⟨.ref s1.heap.objs.size, _, laidT (t' := s1.toks) I1 r z, rfl, q _ _ (I1.hok.fresh (Nat.le_refl _)) rfl⟩
theorem tuple_ofF : CallR X (.type "tuple") (fun xs H Q => ∃ p ys, xs = [.ref p] ∧ ((SqL X.K H p ys ∧ NewT ys H Q) ∨ (SqT X.K H p ys ∧ Q (.ref p) H))) := by
  intro pins s σ H xs us Q I r h
  obtain ⟨p, ys, rfl, h⟩ := h
  obtain ⟨u, rfl, rx⟩ := vals1 r
  cases rx
  rcases h with ⟨hq, q⟩ | ⟨hq, q⟩
  · obtain ⟨its, r', pl, hz⟩ := I.list hq
    have hlen := r'.length
    refine call_tuple_list pl.isList (fun h' kp => ?_) (by simp only [List.size_toArray] <;> omega)
    have I1 : Inv X pins σ H { s with heap := h' } := I.kept (t' := s.toks) kp
    exact ⟨.ref h'.objs.size, _, laidT (t' := s.toks) I1 r' hz, rfl, q _ _ (I1.hok.fresh (Nat.le_refl _)) rfl⟩
  · obtain ⟨its, r', pl, hz⟩ := I.tuple hq
    exact call_tuple_same pl ⟨.ref p, H, I, rfl, q⟩
def rCatF (K : PySem.W.Frag) : R2 := fun x y H Q => ∃ a b xs ys, x = .ref a ∧ y = .ref b ∧ SqT K H a xs ∧ SqT K H b ys ∧ xs.length + ys.length ≤ sizeLine ∧
  (xs = [] → Q (.ref b) H) ∧ (xs ≠ [] → ys = [] → Q (.ref a) H) ∧ (xs ≠ [] → ys ≠ [] → NewT (xs ++ ys) H Q)
theorem op_catF : OpR X (binaryOp .Add) (rCatF X.K) := by
  intro pins s σ H x y v u Q I rx ry h
  obtain ⟨a, b, xs, ys, rfl, rfl, ha, hb, hz, q0, q1, q2⟩ := h
  cases rx
  cases ry
  obtain ⟨its, r1, p1, _⟩ := I.tuple ha
  obtain ⟨its2, r2, p2, _⟩ := I.tuple hb
  by_cases hx : xs = []
  · subst hx
    cases r1
    exact cat_tup0 p1 p2 ⟨.ref b, H, I, rfl, q0 rfl⟩
  · refine HT.cat_tup p1 p2 (fun z => hx (r1.nil_iff.mp z)) (fun z => ⟨.ref a, H, I, rfl, q1 hx (r2.nil_iff.mp z)⟩) (fun z => ?_) (by rw [← r1.length, ← r2.length]; exact hz)
    exact ⟨.ref s.heap.objs.size, _, laidT (t' := s.toks) I (r1.append r2) (by rw [List.length_append]; exact hz), rfl, q2 hx (fun w => z (r2.nil_iff.mpr w)) _ _ (I.hok.fresh (Nat.le_refl _)) rfl⟩
def rSlF (K : PySem.W.Frag) : V → Option Int → Option Int → Hp → VK → Prop := fun x lo hi H Q => ∃ a xs, x = .ref a ∧ SqT K H a xs ∧
  (HT.sIx xs.length 0 lo = 0 ∧ HT.sIx xs.length xs.length hi = xs.length → Q (.ref a) H) ∧ (¬ (HT.sIx xs.length 0 lo = 0 ∧ HT.sIx xs.length xs.length hi = xs.length) → NewT (cutV xs lo hi) H Q)
theorem sl_tupF : SlR X (rSlF X.K) := by
  intro pins s σ H x v vl vu lo hi sl Q I rx hs pl pu h
  obtain ⟨a, xs, rfl, hx, q1, q2⟩ := h
  cases rx
  obtain ⟨its, r, ht, hz⟩ := I.tuple hx
  have hlen : its.toArray.size = xs.length := by rw [List.size_toArray]; exact r.length.symm
  refine ⟨"tuple", _, PyProof.Rows.slot_tuple_getitem.lookup, ht.typeIs, ?_⟩
  by_cases hw : HT.sIx xs.length 0 lo = 0 ∧ HT.sIx xs.length xs.length hi = xs.length
  · exact getItem_tuple_whole ht hs pl pu (by rw [hlen]; exact hw) ⟨.ref a, H, I, rfl, q1 hw⟩
  · refine HT.getItem_tuple_cut ht hs pl pu (by rw [hlen]; exact hw) ?_ (by rw [hlen]; exact hz)
    rw [hlen]
    exact ⟨.ref s.heap.objs.size, _, laidT (t' := s.toks) I ((r.drop (HT.sIx xs.length 0 lo)).take (HT.sIx xs.length xs.length hi - HT.sIx xs.length 0 lo)) (Nat.le_trans (cutV_length xs lo hi) hz), rfl, q2 hw _ _ (I.hok.fresh (Nat.le_refl _)) rfl⟩
def rRepF (K : PySem.W.Frag) : R2 := fun x y H Q => ∃ l k xs, x = .ref l ∧ y = .int k ∧ SqT K H l xs ∧ xs ≠ [] ∧ 2 ≤ k ∧ k ≤ 1000 ∧ xs.length ≤ 1000 ∧ NewT (List.replicate k.toNat xs).flatten H Q
theorem op_repF : OpR X (binaryOp .Mult) (rRepF X.K) := by
  intro pins s σ H x y v u Q I rx ry h
  obtain ⟨l, k, xs, rfl, rfl, hT, hne, h1, h2, hz, q⟩ := h
  cases rx
  obtain ⟨t, rfl⟩ := ry
  obtain ⟨its, r, ⟨⟨cls, dd, data, sl⟩, ho, hc, n, hd⟩, hs⟩ := I.tuple hT
  simp only at hc hd
  subst hc hd
  have hle : its.length = xs.length := r.length.symm
  have hn : its ≠ [] := fun e => hne (by
    rw [e] at hle
    exact List.eq_nil_of_length_eq_zero hle.symm)
  have hi : its.toArray.isEmpty = false := by
    cases its with
    | nil => exact absurd rfl hn
    | cons a b => rfl
  have hsz0 : its.toArray.size = xs.length := by rw [List.size_toArray, hle]
  have hm : ((its.toArray.size : Nat) : Int) * k ≤ 1000000 := by
    rw [hsz0]
    have a1 : ((xs.length : Nat) : Int) * k ≤ 1000 * k := Int.mul_le_mul_of_nonneg_right (by omega) (by omega)
    omega
  have flen : (List.replicate k.toNat its).flatten.length ≤ sizeLine := by
    rw [PyProof.Rows.lm_len_rep_flat, hle, sizeLine_eq]
    have a1 : k.toNat * xs.length ≤ 1000 * 1000 := Nat.mul_le_mul (by omega) hz
    omega
  have c0 : (decide (k < -(2 ^ 63)) || decide (k ≥ 2 ^ 63)) = false := by
    rw [decide_eq_false (by omega), decide_eq_false (by omega)] <;> rfl
  have c1 : (its.toArray.isEmpty || k == 1) = false := by
    rw [hi, Bool.false_or]
    exact beq_eq_false_iff_ne.mpr (by omega)
  have c2 : (decide (k ≤ 0) || its.toArray.isEmpty) = false := by
    rw [hi, Bool.or_false]
    exact decide_eq_false (by omega)
  have c4 : Builtin.Tuple.tupleTooMany (((its.toArray.size : Nat) : Int) * k) = false := by
    unfold Builtin.Tuple.tupleTooMany
    rw [sizeLine_eq]
    exact decide_eq_false (by omega)
  refine wpAny_binaryOp_repeat_ref (T := "tuple") (U := "int") (by decide) ⟨_, ho, rfl⟩ (fun s' => typeIs_int s' k t) noFill_tuple_mul F.fills_int_mul F.slot_int_rmul repeat_tuple F.slot_int_index.lookup
    (call_meets F.slot_int_rmul (typeIs_int s k t) F.entry_int_rmul (F.args_int_rmul_2 _ _) (int_rmul_tuple k t l its.toArray n dd sl)
      ⟨ho, rfl, ⟨_, ho, rfl⟩, call_meets F.slot_tuple_mul ⟨_, ho, rfl⟩ F.entry_tuple_mul (F.args_tuple_mul_2 _ _) (tuple_mulW l its.toArray n dd sl k t c0 c1 c2 (by omega) c4 (by rw [size_rep, List.size_toArray]; exact flen)) ⟨ho, ?_⟩⟩)
  rw [size_rep]
  exact ⟨.ref s.heap.objs.size, _, laidT (t' := s.toks) I (r.rep k.toNat) (by rw [PyProof.Rows.lm_len_rep_flat, sizeLine_eq]; have a1 : k.toNat * xs.length ≤ 1000 * 1000 := Nat.mul_le_mul (by omega) hz; omega), rfl, q _ _ (I.hok.fresh (Nat.le_refl _)) rfl⟩
end
end PL
/-! PL4: expressions: the reading over plain data gives the hand layer's reading. -/
namespace PL
open PySem PySem.Spec PyProof.Rows L2

/-- what the context is known to be -/
structure XOk (X : Cx) (k : RC) : Prop where
  K : k.K = X.K
  w : k.w = X.w
  calm : X.calm = true
  room : Room 0 X.A
def tE (C : PC) (k : RC) (e : IE) : TE := fun σ H Q => ∃ ρ F QQ, Rel k ρ σ F H ∧ wpE C e ρ QQ ∧ ∀ r ρ' v F' H', EPost k ρ σ F H r v ρ' F' H' → QQ r ρ' → Q v H'
def tT (C : PC) (k : RC) (e : IE) : TT := fun σ H Q => ∃ ρ F QQ, Rel k ρ σ F H ∧ wpE C e ρ QQ ∧ ∀ b ρ' F' H', Rel k ρ' σ F' H' → ETr k ρ σ F H ρ' F' H' → QQ (.val (.bl b)) ρ' → Q b H'
/-- lent things -/
inductive BRs (k : RC) (F H : Hp) : List V → List D → Prop where
  | nil : BRs k F H [] []
  | cons {v : V} {vs : List V} {d : D} {ds : List D} : BR k F H v d → BRs k F H vs ds → BRs k F H (v :: vs) (d :: ds)
def ARel (k : RC) (b : Bool) (F H : Hp) (vs : List V) (ds : List D) : Prop := if b = true then BRs k F H vs ds else Rs k F vs ds
def tA (C : PC) (k : RC) (b : Bool) (e : IE) : TA := fun σ H Q => ∃ ρ F QQ, Rel k ρ σ F H ∧ wpA C b e ρ QQ ∧ ∀ ds ρ' vs F' H', Rel k ρ' σ F' H' → ETr k ρ σ F H ρ' F' H' → ARel k b F' H' vs ds → QQ ds ρ' → Q vs H'
theorem BRs.grow {k : RC} {F F' H H' : Hp} (sub : Same F F') (heap : SameX k H H') (ins : Same F' H') : ∀ {vs : List V} {ds : List D}, BRs k F H vs ds → BRs k F' H' vs ds
  | _, _, .nil => .nil
  | _, _, .cons h r => .cons (h.grow sub heap ins) (BRs.grow sub heap ins r)
theorem weak {X : Cx} {e : Expr} {t t' : TE} (h : PE X e t) (w : ∀ σ H Q, t' σ H Q → t σ H Q) : PE X e t' := ⟨fun pins s σ H Q I q => h.run pins s σ H Q I (w σ H Q q)⟩
theorem weakT {X : Cx} {e : Expr} {t t' : TT} (h : PT X e t) (w : ∀ σ H Q, t' σ H Q → t σ H Q) : PT X e t' := ⟨fun pins s σ H Q I q => h.run pins s σ H Q I (w σ H Q q)⟩
theorem weakA {X : Cx} {e : List Expr} {t t' : TA} (h : PA X e t) (w : ∀ σ H Q, t' σ H Q → t σ H Q) : PA X e t' := ⟨fun pos pins s σ H Q I q => h.run pos pins s σ H Q I (w σ H Q q)⟩

/-! ### data read by == -/
section
variable {k : RC} {F H : Hp}
mutual
theorem R.dp : ∀ {v : V} {d : D}, R k F v d → d.py.canLay0 = true → Dp k.K F v d.py
  | _, _, .non, _ => .non
  | _, _, .bl b, _ => .bl b
  | _, _, .int i, _ => .int i
  | _, _, .str x, _ => .str x
  | _, _, .tup h r, c => .tup h.sq (Rs.dp r (by simpa only [D.py, PyData.canLay0] using c))
  | _, _, .lst h r, c => .lst (.inl (.inl h)) (Rs.dp r (by simpa only [D.py, PyData.canLay0] using c))
  | _, _, .dct _ _ _ _, c => by simp [D.py, PyData.canLay0] at c
  | _, _, .rng _ _ _, c => by simp [D.py, PyData.canLay0] at c
  | _, _, .pool _, c => by simp [D.py, PyData.canLay0] at c
theorem Rs.dp : ∀ {vs : List V} {ds : List D}, Rs k F vs ds → PyData.canLayAll0 (D.pys ds) = true → DpAll k.K F vs (D.pys ds)
  | _, _, .nil, _ => .nil
  | _, _, .cons h r, c => by
    simp only [D.pys, PyData.canLayAll0, Bool.and_eq_true] at c
    exact .cons (R.dp h c.1) (Rs.dp r c.2)
end
theorem BR.dp {v : V} {d : D} (s : Same F H) (h : BR k F H v d) (c : shp d = true) : Dp k.K H v d.py := by
  have c' := SeqAt.canLay_of_shaped c
  rcases h with h | ⟨a, xs, rfl, rfl, vs, h1, _, _, h4⟩ | ⟨a, kvs, _, rfl, _⟩
  · exact (h.mono s).dp c'
  · exact .lst (.inl (.inl h1)) ((h4.mono s).dp (by simpa only [D.py, PyData.canLay0] using c'))
  · simp [D.py, PyData.canLay0] at c'
theorem any_pys (a : D) : ∀ xs : List D, ((D.pys xs).any fun z => PyData.eqv z a.py) = xs.any fun z => deq z a
  | [] => rfl
  | x :: xs => by rw [D.pys, List.any_cons, List.any_cons, any_pys a xs]; rfl
end

section
variable {X : Cx} {k : RC} {C : PC}
/-! ### constants and names -/
theorem qe_c {e : Expr} {v : V} {d : D} (h : PE X e (tC v)) (r : ∀ F, R k F v d) : PE X e (tE C k (.cst d)) := by
  refine weak h fun σ H Q ⟨ρ, F, QQ, rel, wp, fin⟩ => ?_
  exact fin _ _ _ _ _ (.flat rel .refl (r F)) wp
theorem slot_val {ρ : PEnv} {σ : L2.St} {F H : Hp} {i : Nat} {d : D} (rel : Rel k ρ σ F H) (e : ρ.get i = .val d) : ∃ v, σ[i]? = some (some v) ∧ R k F v d := by
  have q := rel.slot i
  rw [e] at q
  exact q
theorem slot_own {ρ : PEnv} {σ : L2.St} {F H : Hp} {i : Nat} {xs : List D} (rel : Rel k ρ σ F H) (e : ρ.get i = .own xs) : ∃ a, σ[i]? = some (some (.ref a)) ∧ OwnL k F H a xs := by
  have q := rel.slot i
  rw [e] at q
  exact q
theorem slot_owd {ρ : PEnv} {σ : L2.St} {F H : Hp} {i : Nat} {xs : List (D × D)} (rel : Rel k ρ σ F H) (e : ρ.get i = .owd xs) : ∃ a, σ[i]? = some (some (.ref a)) ∧ OwnDk k F H a xs := by
  have q := rel.slot i
  rw [e] at q
  exact q
theorem rd_v {ρ : PEnv} {σ : L2.St} {F H : Hp} {i : Nat} {QQ : RK} (rel : Rel k ρ σ F H) (wp : rdV ρ i QQ) : ∃ v r ρ' F', σ[i]? = some (some v) ∧ EPost k ρ σ F H r v ρ' F' H ∧ QQ r ρ' := by
  unfold rdV at wp
  cases e : ρ.get i with
  | no => rw [e] at wp; exact wp.elim
  | val d =>
    rw [e] at wp
    obtain ⟨v, h1, h2⟩ := slot_val rel e
    exact ⟨v, _, _, _, h1, .flat rel .refl h2, wp⟩
  | own xs =>
    rw [e] at wp
    obtain ⟨a, h1, vs, h2, h3, h4, h5⟩ := slot_own rel e
    have rd : R k (upd F a (.lst vs)) (.ref a) (.lst xs) := .lst upd_same (h5.mono (Same.upd_new h3))
    obtain ⟨x1, x2⟩ := rel.freeze ⟨by rw [e]; rfl, h1⟩ h2 h3 h4 rd
    exact ⟨_, _, _, _, h1, .flat x1 x2 rd, wp⟩
  | owd kvs =>
    rw [e] at wp
    obtain ⟨a, h1, es, ⟨o, ep, h2, hr⟩, h3, h4, h5, n, u⟩ := slot_owd rel e
    have rd : R k (upd F a (exO a o)) (.ref a) (.dct kvs) := .dct ⟨o, ep, upd_same, hr⟩ (h5.mono (Same.upd_new h3)) n u
    obtain ⟨x1, x2⟩ := rel.freeze ⟨by rw [e]; rfl, h1⟩ h2 h3 h4 rd
    exact ⟨_, _, _, _, h1, .flat x1 x2 rd, wp⟩
theorem rd_b {ρ : PEnv} {σ : L2.St} {F H : Hp} {i : Nat} {QQ : RK} (rel : Rel k ρ σ F H) (wp : rdB ρ i QQ) : ∃ v r, σ[i]? = some (some v) ∧ EPost k ρ σ F H r v ρ F H ∧ QQ r ρ := by
  unfold rdB at wp
  cases e : ρ.get i with
  | no => rw [e] at wp; exact wp.elim
  | val d =>
    rw [e] at wp
    obtain ⟨v, h1, h2⟩ := slot_val rel e
    exact ⟨v, _, h1, .flat rel .refl h2, wp⟩
  | own xs =>
    rw [e] at wp
    obtain ⟨a, h1, h2⟩ := slot_own rel e
    exact ⟨_, .brw (.lst xs), h1, ⟨rel, .refl, show BR k F H _ _ from .inr (.inl ⟨a, xs, rfl, rfl, h2⟩)⟩, wp⟩
  | owd kvs =>
    rw [e] at wp
    obtain ⟨a, h1, h2⟩ := slot_owd rel e
    exact ⟨_, .brw (.dct kvs), h1, ⟨rel, .refl, show BR k F H _ _ from .inr (.inr ⟨a, kvs, rfl, rfl, h2⟩)⟩, wp⟩
theorem qe_var {e : Expr} {i : Nat} (h : PE X e (tVar i)) : PE X e (tE C k (.var i)) := by
  refine weak h fun σ H Q ⟨ρ, F, QQ, rel, wp, fin⟩ => ?_
  obtain ⟨v, r, ρ', F', h1, p, q⟩ := rd_v rel wp
  exact ⟨v, h1, fin _ _ _ _ _ p q⟩
theorem qe_bor {e : Expr} {i : Nat} (h : PE X e (tVar i)) : PE X e (tE C k (.bor i)) := by
  refine weak h fun σ H Q ⟨ρ, F, QQ, rel, wp, fin⟩ => ?_
  obtain ⟨v, r, h1, p, q⟩ := rd_b rel wp
  exact ⟨v, h1, fin _ _ _ _ _ p q⟩

/-! ### operators -/
/-- an operation on two lent values -/
def r2P (k : RC) (P : D → D → (RV → Prop) → Prop) : R2 := fun x y H Q => ∃ ρ σ F d e QQ, Rel k ρ σ F H ∧ BR k F H x d ∧ BR k F H y e ∧ P d e QQ ∧ ∀ r v F' H', EPost k ρ σ F H r v ρ F' H' → QQ r → Q v H'
theorem two {a b : IE} {P : D → D → (RV → Prop) → Prop} {σ : L2.St} {H : Hp} {Q : VK} {QQ : RK} {ρ : PEnv} {F : Hp} (rel : Rel k ρ σ F H) (wp : wpE C a ρ fun x ρ1 => wpE C b ρ1 fun y ρ2 => P x.toD y.toD fun r => QQ r ρ2)
    (fin : ∀ r ρ' v F' H', EPost k ρ σ F H r v ρ' F' H' → QQ r ρ' → Q v H') : tOp (r2P k P) (tE C k a) (tE C k b) σ H Q := by
  refine ⟨ρ, F, _, rel, wp, fun r1 ρ1 v1 F1 H1 p1 q1 => ⟨ρ1, F1, _, p1.rel, q1, fun r2 ρ2 v2 F2 H2 p2 q2 => ?_⟩⟩
  exact ⟨ρ2, σ, F2, _, _, _, p2.rel, p1.lent.tr p2.tr p2.rel, p2.lent, q2, fun r v F' H' p3 q3 => fin r ρ2 v F' H' (p1.then (p2.then p3)) q3⟩
def opOf : Op2 → Operator
  | .add => .Add
  | .sub => .Sub
  | .mul => .Mult
  | .fdiv => .FloorDiv
  | .mod => .Mod
  | .pow => .Pow
/-- a new tuple's wish -/
theorem newT {ρ : PEnv} {σ : L2.St} {F H : Hp} {vs : List V} {ds : List D} {Q : VK} (rel : Rel k ρ σ F H) (r : Rs k F vs ds) (fin : ∀ v F' H', EPost k ρ σ F H (.val (.tup ds)) v ρ F' H' → Q v H') : NewT vs H Q := fun p o hn hd =>
  fin _ _ _ (.newF rel .refl hn (.tup (.inl ⟨o, upd_same, hd⟩) (r.mono (Same.upd_new (rel.fnone hn)))))
theorem rs_nil {F : Hp} {vs : List V} (r : Rs k F vs []) : vs = [] := by cases r; rfl
theorem rs_nil' {F : Hp} {ds : List D} (r : Rs k F [] ds) : ds = [] := by cases r; rfl
theorem op_bin (hX : XOk X k) (o : Op2) : OpR X (binaryOp (opOf o)) (r2P k (binP o)) := by
  intro pins s σ H x y v u Q I rx ry ⟨ρ, σ', F, d, e, QQ, rel, bx, by', wp, fin⟩
  have hK := hX.K
  have int : ∀ {n : Int}, QQ (.val (.int n)) → Q (.int n) H := fun q => fin _ _ _ _ (.flat rel .refl (.int _)) q
  cases o <;> cases d <;> cases e <;> first | exact (show False from wp).elim | skip
  · -- int + int
    cases bx.int; cases by'.int
    exact op_add pins s σ H _ _ v u Q I rx ry ⟨_, _, rfl, rfl, int wp⟩
  · cases bx.str; cases by'.str
    obtain ⟨hz, q⟩ := wp
    exact op_add_str pins s σ H _ _ v u Q I rx ry ⟨_, _, rfl, rfl, hz, fin _ _ _ _ (.flat rel .refl (.str _)) q⟩
  · rename_i xs ys
    obtain ⟨a, vs, rfl, ta, ra⟩ := bx.tup
    obtain ⟨b, ws, rfl, tb, rb⟩ := by'.tup
    obtain ⟨hz, q⟩ := wp
    have sq1 := (ta.mono rel.sub).sq
    have sq2 := (tb.mono rel.sub).sq
    rw [hK] at sq1 sq2
    refine op_catF pins s σ H _ _ v u Q I rx ry ⟨a, b, vs, ws, rfl, rfl, sq1, sq2, by rw [ra.length, rb.length]; exact hz, fun z => ?_, fun _ z => ?_, fun _ _ => newT rel (ra.append rb) fun v F' H' p => fin _ _ _ _ p q⟩
    · subst z
      have := rs_nil' ra
      subst this
      exact fin _ _ _ _ (.flat rel .refl (.tup tb rb)) q
    · subst z
      have := rs_nil' rb
      subst this
      rw [List.append_nil] at q
      exact fin _ _ _ _ (.flat rel .refl (.tup ta ra)) q
  · rename_i xs ys
    obtain ⟨a, vs, rfl, ta, ra⟩ := bx.lst rel.sub
    obtain ⟨b, ws, rfl, tb, rb⟩ := by'.lst rel.sub
    obtain ⟨hz, q⟩ := wp
    exact op_cat pins s σ H _ _ v u Q I rx ry ⟨a, b, vs, ws, rfl, rfl, ta, tb, by rw [ra.length, rb.length]; exact hz, fun p hn => fin _ _ _ _ (.newL rel .refl hn (ra.append rb)) q⟩
  · cases bx.int; cases by'.int
    exact op_sub pins s σ H _ _ v u Q I rx ry ⟨_, _, rfl, rfl, int wp⟩
  · cases bx.int; cases by'.int
    exact op_mul pins s σ H _ _ v u Q I rx ry ⟨_, _, rfl, rfl, wp.1, int wp.2⟩
  · rename_i xs n
    obtain ⟨a, vs, rfl, ta, ra⟩ := bx.tup
    cases by'.int
    obtain ⟨⟨h1, h2, h3, h4⟩, q⟩ := wp
    have sq1 := (ta.mono rel.sub).sq
    rw [hK] at sq1
    refine op_repF pins s σ H _ _ v u Q I rx ry ⟨a, n, vs, rfl, rfl, sq1, fun z => h1 (by subst z; exact rs_nil' ra), h2, h3, by rw [ra.length]; exact h4, newT rel (ra.flat _) fun v F' H' p => fin _ _ _ _ p q⟩
  · rename_i xs n
    obtain ⟨a, vs, rfl, ta, ra⟩ := bx.lst rel.sub
    cases by'.int
    obtain ⟨⟨h1, h2, h3⟩, q⟩ := wp
    exact op_rep pins s σ H _ _ v u Q I rx ry ⟨a, n, vs, rfl, rfl, ta, h1, h2, by rw [ra.length]; exact h3, fun p hn => fin _ _ _ _ (.newL rel .refl hn (ra.flat _)) q⟩
  · cases bx.int; cases by'.int
    exact op_fdivN pins s σ H _ _ v u Q I rx ry ⟨_, _, rfl, rfl, wp.1, int wp.2⟩
  · cases bx.int; cases by'.int
    exact op_modN pins s σ H _ _ v u Q I rx ry ⟨_, _, rfl, rfl, wp.1, int wp.2⟩
  · cases bx.int; cases by'.int
    exact op_pow pins s σ H _ _ v u Q I rx ry ⟨_, _, rfl, rfl, wp.1, int wp.2⟩
theorem qe_bin (hX : XOk X k) {o : Op2} {a b : Expr} {ia ib : IE} {pos : Pos} (ha : PE X a (tE C k ia)) (hb : PE X b (tE C k ib)) : PE X (.BinOp a (opOf o) b pos) (tE C k (.bin o ia ib)) :=
  weak (pe_op (op_bin hX o) ha hb) fun σ H Q ⟨ρ, F, QQ, rel, wp, fin⟩ => two (P := binP o) rel wp fin
end
end PL
/-! PL5: dicts: their entries as plain data; looked up, stored. -/
namespace PL
open PySem PySem.Spec PyProof.Rows L2

/-! ### keys -/
mutual
theorem deq_nk : ∀ (a b : D) (n m : NestedKey), nk a = some n → nk b = some m → PyData.eqv a.py b.py = NestedKey.beq n m
  | .int i, .int j, n, m, h1, h2 => by
    simp only [nk, Option.some.injEq] at h1 h2
    subst h1; subst h2
    simp only [D.py, PyData.eqv, NestedKey.beq]
    exact Bool.beq_eq_decide_eq ..
  | .str i, .str j, n, m, h1, h2 => by
    simp only [nk, Option.some.injEq] at h1 h2
    subst h1; subst h2
    simp only [D.py, PyData.eqv, NestedKey.beq]
    exact Bool.beq_eq_decide_eq ..
  | .tup xs, .tup ys, n, m, h1, h2 => by
    simp only [nk, Option.map_eq_some_iff] at h1 h2
    obtain ⟨ns, e1, rfl⟩ := h1
    obtain ⟨ms, e2, rfl⟩ := h2
    simp only [D.py, PyData.eqv, NestedKey.beq]
    exact deqs_nk xs ys ns ms e1 e2
  | .int i, .str j, n, m, h1, h2 => by
    simp only [nk, Option.some.injEq] at h1 h2
    subst h1; subst h2; rfl
  | .str i, .int j, n, m, h1, h2 => by
    simp only [nk, Option.some.injEq] at h1 h2
    subst h1; subst h2; rfl
  | .int i, .tup ys, n, m, h1, h2 => by
    simp only [nk, Option.some.injEq, Option.map_eq_some_iff] at h1 h2
    obtain ⟨ms, e2, rfl⟩ := h2
    subst h1; rfl
  | .str i, .tup ys, n, m, h1, h2 => by
    simp only [nk, Option.some.injEq, Option.map_eq_some_iff] at h1 h2
    obtain ⟨ms, e2, rfl⟩ := h2
    subst h1; rfl
  | .tup xs, .int i, n, m, h1, h2 => by
    simp only [nk, Option.some.injEq, Option.map_eq_some_iff] at h1 h2
    obtain ⟨ms, e2, rfl⟩ := h1
    subst h2; rfl
  | .tup xs, .str i, n, m, h1, h2 => by
    simp only [nk, Option.some.injEq, Option.map_eq_some_iff] at h1 h2
    obtain ⟨ms, e2, rfl⟩ := h1
    subst h2; rfl
  | .non, _, _, _, h, _ => by simp [nk] at h
  | .bl _, _, _, _, h, _ => by simp [nk] at h
  | .lst _, _, _, _, h, _ => by simp [nk] at h
  | .dct _, _, _, _, h, _ => by simp [nk] at h
  | .rng _ _, _, _, _, h, _ => by simp [nk] at h
  | .pool, _, _, _, h, _ => by simp [nk] at h
  | .int _, .non, _, _, _, h => by simp [nk] at h
  | .int _, .bl _, _, _, _, h => by simp [nk] at h
  | .int _, .lst _, _, _, _, h => by simp [nk] at h
  | .int _, .dct _, _, _, _, h => by simp [nk] at h
  | .int _, .rng _ _, _, _, _, h => by simp [nk] at h
  | .int _, .pool, _, _, _, h => by simp [nk] at h
  | .str _, .non, _, _, _, h => by simp [nk] at h
  | .str _, .bl _, _, _, _, h => by simp [nk] at h
  | .str _, .lst _, _, _, _, h => by simp [nk] at h
  | .str _, .dct _, _, _, _, h => by simp [nk] at h
  | .str _, .rng _ _, _, _, _, h => by simp [nk] at h
  | .str _, .pool, _, _, _, h => by simp [nk] at h
  | .tup _, .non, _, _, _, h => by simp [nk] at h
  | .tup _, .bl _, _, _, _, h => by simp [nk] at h
  | .tup _, .lst _, _, _, _, h => by simp [nk] at h
  | .tup _, .dct _, _, _, _, h => by simp [nk] at h
  | .tup _, .rng _ _, _, _, _, h => by simp [nk] at h
  | .tup _, .pool, _, _, _, h => by simp [nk] at h
theorem deqs_nk : ∀ (xs ys : List D) (n m : List NestedKey), nks xs = some n → nks ys = some m → PyData.eqvAll (D.pys xs) (D.pys ys) = NestedKey.beqAll n m
  | [], [], n, m, h1, h2 => by
    simp only [nks, Option.some.injEq] at h1 h2
    subst h1; subst h2; rfl
  | [], y :: ys, n, m, h1, h2 => by
    simp only [nks, Option.some.injEq, Option.bind_eq_some_iff, Option.map_eq_some_iff] at h1 h2
    obtain ⟨a, _, b, _, rfl⟩ := h2
    subst h1; rfl
  | x :: xs, [], n, m, h1, h2 => by
    simp only [nks, Option.some.injEq, Option.bind_eq_some_iff, Option.map_eq_some_iff] at h1 h2
    obtain ⟨a, _, b, _, rfl⟩ := h1
    subst h2; rfl
  | x :: xs, y :: ys, n, m, h1, h2 => by
    simp only [nks, Option.bind_eq_some_iff, Option.map_eq_some_iff] at h1 h2
    obtain ⟨a, e1, b, e2, rfl⟩ := h1
    obtain ⟨c, e3, d, e4, rfl⟩ := h2
    simp only [D.pys, PyData.eqvAll, NestedKey.beqAll]
    rw [deq_nk x y a c e1 e3, deqs_nk xs ys b d e2 e4]
end
theorem deq_key {a b : D} {n m : NestedKey} (h1 : nk a = some n) (h2 : nk b = some m) : deq a b = decide (n = m) := by
  unfold deq
  rw [deq_nk a b n m h1 h2, NestedKey.decide_eq]
mutual
theorem nIs {P : Program} {w : World} {k : RC} {F : Hp} {h : Heap} (kin : k.K.In h) (ok : HOk P w F h) : ∀ {v : V} {d : D} {n : NestedKey} {u : Value}, R k F v d → nk d = some n → RelV v u → NestedIs h n u
  | _, _, _, _, .non, e, _ => by simp [nk] at e
  | _, _, _, _, .bl _, e, _ => by simp [nk] at e
  | _, _, _, _, .int i, e, r => by
    simp only [nk, Option.some.injEq] at e
    subst e
    obtain ⟨t, rfl⟩ := r
    exact .int i t
  | _, _, _, _, .str i, e, r => by
    simp only [nk, Option.some.injEq] at e
    subst e
    obtain ⟨t, rfl⟩ := r
    exact .text i t
  | _, _, _, _, .tup t rs, e, r => by
    simp only [nk, Option.map_eq_some_iff] at e
    obtain ⟨ns, e, rfl⟩ := e
    cases r
    rcases t with ⟨o, ho, hd⟩ | ⟨o, its, m, h1, h2, h3, h4, h5, h6⟩
    · obtain ⟨q, hz, its, rv, ob, e1, e2, m, e3⟩ := ok _ _ ho
      rw [q] at e1
      cases e1
      exact .tup q e2 e3 (nIss kin ok rs e rv)
    · exact .tup (kin _ _ h1) h2 h4 (nIss kin ok rs e h6)
  | _, _, _, _, .lst _ _, e, _ => by simp [nk] at e
  | _, _, _, _, .dct _ _ _ _, e, _ => by simp [nk] at e
  | _, _, _, _, .rng _ _ _, e, _ => by simp [nk] at e
  | _, _, _, _, .pool _, e, _ => by simp [nk] at e
theorem nIss {P : Program} {w : World} {k : RC} {F : Hp} {h : Heap} (kin : k.K.In h) (ok : HOk P w F h) : ∀ {vs : List V} {ds : List D} {ns : List NestedKey} {us : List Value}, Rs k F vs ds → nks ds = some ns → Vals vs us → NestedAll h ns us
  | _, _, _, _, .nil, e, r => by
    simp only [nks, Option.some.injEq] at e
    subst e
    cases r
    exact .nil
  | _, _, _, _, .cons h1 hr, e, r => by
    simp only [nks, Option.bind_eq_some_iff, Option.map_eq_some_iff] at e
    obtain ⟨n, e1, ns, e2, rfl⟩ := e
    cases r with
    | cons r1 r2 => exact .cons (nIs kin ok h1 e1 r1) (nIss kin ok hr e2 r2)
end

/-! ### the two kinds of dicts -/
def skey : D → Option Key
  | .int i => some (.inl i)
  | .str x => some (.inr x)
  | _ => none
inductive SX (k : RC) (F : Hp) : List (Key × Value) → List (D × D) → Prop where
  | nil : SX k F [] []
  | cons {c : Key} {u : Value} {ps : List (Key × Value)} {kd vd : D} {kvs : List (D × D)} {vv : V} : skey kd = some c → RelV vv u → R k F vv vd → SX k F ps kvs → SX k F ((c, u) :: ps) ((kd, vd) :: kvs)
inductive HX (k : RC) (F : Hp) : List (NestedKey × Addr × Value) → List (D × D) → Prop where
  | nil : HX k F [] []
  | cons {n : NestedKey} {q : Addr} {u : Value} {ps : List (NestedKey × Addr × Value)} {kd vd : D} {kvs : List (D × D)} {vv : V} : nk kd = some n → n.depth ≤ 8 → R k F (.ref q) kd → RelV vv u → R k F vv vd → HX k F ps kvs → HX k F ((n, q, u) :: ps) ((kd, vd) :: kvs)
def kN : Key → NestedKey
  | .inl i => .num i
  | .inr x => .text x
theorem skey_nk {d : D} {c : Key} (h : skey d = some c) : nk d = some (kN c) ∧ scal d = true := by
  cases d <;> simp only [skey, Option.some.injEq, reduceCtorEq] at h
  · subst h; exact ⟨rfl, rfl⟩
  · subst h; exact ⟨rfl, rfl⟩
theorem deq_skey {a b : D} {c e : Key} (h1 : skey a = some c) (h2 : skey b = some e) : deq a b = decide (c = e) := by
  rw [deq_key (skey_nk h1).1 (skey_nk h2).1]
  cases c <;> cases e <;> simp [kN]
theorem skey_of {d : D} (h : scal d = true) : ∃ c, skey d = some c := by
  cases d <;> first | exact ⟨_, rfl⟩ | (simp [scal] at h)
section
variable {k : RC} {F : Hp} {P : Program} {w : World}
theorem SX.len : ∀ {ps : List (Key × Value)} {kvs : List (D × D)}, SX k F ps kvs → ps.length = kvs.length
  | _, _, .nil => rfl
  | _, _, .cons _ _ _ r => by rw [List.length_cons, List.length_cons, r.len]
theorem HX.len : ∀ {ps : List (NestedKey × Addr × Value)} {kvs : List (D × D)}, HX k F ps kvs → ps.length = kvs.length
  | _, _, .nil => rfl
  | _, _, .cons _ _ _ _ _ r => by rw [List.length_cons, List.length_cons, r.len]
theorem SX.find {kd : D} {c : Key} (hc : skey kd = some c) : ∀ {ps : List (Key × Value)} {kvs : List (D × D)}, SX k F ps kvs →
    (match lookD kvs kd with | some vd => ∃ u vv, valueAt ps c = some u ∧ RelV vv u ∧ R k F vv vd | none => valueAt ps c = none) ∧ (kvs.any fun p => deq p.1 kd) = (valueAt ps c).isSome
  | _, _, .nil => ⟨rfl, rfl⟩
  | (e, u) :: ps, (kd', vd) :: kvs, .cons h1 h2 h3 r => by
    have ih := SX.find hc r
    have d := deq_skey h1 hc
    unfold lookD valueAt at ih ⊢
    by_cases q : e = c
    · subst q
      have d' : deq kd' kd = true := by rw [d]; simp
      simp only [List.find?_cons, d', decide_true, Option.map_some, List.any_cons, Bool.true_or, Option.isSome_some, and_true]
      exact ⟨u, _, rfl, h2, h3⟩
    · have d' : deq kd' kd = false := by rw [d]; simp [q]
      simp only [List.find?_cons, d', q, decide_false, List.any_cons, Bool.false_or]
      exact ih
theorem HX.find {kd : D} {n : NestedKey} (hc : nk kd = some n) : ∀ {ps : List (NestedKey × Addr × Value)} {kvs : List (D × D)}, HX k F ps kvs →
    (match lookD kvs kd with | some vd => ∃ p vv, atKey ps n = some p ∧ RelV vv p.2 ∧ R k F vv vd | none => atKey ps n = none) ∧ (kvs.any fun p => deq p.1 kd) = (atKey ps n).isSome
  | _, _, .nil => ⟨rfl, rfl⟩
  | (e, q, u) :: ps, (kd', vd) :: kvs, .cons h1 _ _ h2 h3 r => by
    have ih := HX.find hc r
    have d := deq_key h1 hc
    unfold lookD atKey at ih ⊢
    by_cases z : e = n
    · subst z
      have d' : deq kd' kd = true := by rw [d]; simp
      simp only [List.find?_cons, d', decide_true, Option.map_some, List.any_cons, Bool.true_or, Option.isSome_some, and_true]
      exact ⟨(q, u), _, rfl, h2, h3⟩
    · have d' : deq kd' kd = false := by rw [d]; simp [z]
      simp only [List.find?_cons, d', z, decide_false, List.any_cons, Bool.false_or]
      exact ih
theorem SX.append {ps qs : List (Key × Value)} {kvs lvs : List (D × D)} : SX k F ps kvs → SX k F qs lvs → SX k F (ps ++ qs) (kvs ++ lvs) := fun h h' => by
  induction h with
  | nil => exact h'
  | cons a b c _ ih => exact .cons a b c ih
theorem HX.append {ps qs : List (NestedKey × Addr × Value)} {kvs lvs : List (D × D)} : HX k F ps kvs → HX k F qs lvs → HX k F (ps ++ qs) (kvs ++ lvs) := fun h h' => by
  induction h with
  | nil => exact h'
  | cons a b c d e _ ih => exact .cons a b c d e ih
theorem SX.mapPut {kd vd : D} {c : Key} {u : Value} {vv : V} (hc : skey kd = some c) (hu : RelV vv u) (hv : R k F vv vd) {ps : List (Key × Value)} {kvs : List (D × D)} (h : SX k F ps kvs) :
    SX k F (ps.map fun kv => if kv.1 = c then (kv.1, u) else kv) (kvs.map fun p => if deq p.1 kd then (p.1, vd) else p) := by
  induction h with
  | nil => exact .nil
  | @cons c' u' ps' kd' vd' kvs' vv' a b e _ ih =>
    rw [List.map_cons, List.map_cons]
    have d := deq_skey a hc
    by_cases q : c' = c
    · have d' : deq kd' kd = true := by rw [d]; simp [q]
      simp only [q, d', if_true]
      exact .cons (by rw [a, q]) hu hv ih
    · have d' : deq kd' kd = false := by rw [d]; simp [q]
      simp only [q, d', if_false, Bool.false_eq_true]
      exact .cons a b e ih
theorem SX.put {kd vd : D} {c : Key} {u : Value} {vv : V} (hc : skey kd = some c) (hu : RelV vv u) (hv : R k F vv vd) {ps : List (Key × Value)} {kvs : List (D × D)} (h : SX k F ps kvs) : SX k F (stored ps c u) (putD kvs kd vd) := by
  have e : (ps.any fun kv => decide (kv.1 = c)) = kvs.any fun p => deq p.1 kd := by
    induction h with
    | nil => rfl
    | cons a b e _ ih => rw [List.any_cons, List.any_cons, ih, deq_skey a hc]
  unfold stored putD
  rw [e]
  split
  · exact h.mapPut hc hu hv
  · exact h.append (.cons hc hu hv .nil)
theorem HX.mapPut {kd vd : D} {n : NestedKey} {u : Value} {vv : V} (hc : nk kd = some n) (hu : RelV vv u) (hv : R k F vv vd) {ps : List (NestedKey × Addr × Value)} {kvs : List (D × D)} (h : HX k F ps kvs) :
    HX k F (ps.map (putAt n u)) (kvs.map fun p => if deq p.1 kd then (p.1, vd) else p) := by
  induction h with
  | nil => exact .nil
  | @cons c' q' u' ps' kd' vd' kvs' vv' a a1 a2 b e _ ih =>
    rw [List.map_cons, List.map_cons]
    have d := deq_key a hc
    have pe : putAt n u (c', q', u') = if c' = n then (c', q', u) else (c', q', u') := rfl
    rw [pe]
    by_cases z : c' = n
    · have d' : deq kd' kd = true := by rw [d]; simp [z]
      simp only [z, d', if_true]
      exact .cons (by rw [a, z]) (z ▸ a1) a2 hu hv ih
    · have d' : deq kd' kd = false := by rw [d]; simp [z]
      simp only [z, d', if_false, Bool.false_eq_true]
      exact .cons a a1 a2 b e ih
theorem HX.put {kd vd : D} {n : NestedKey} {q : Addr} {u : Value} {vv : V} (hc : nk kd = some n) (hd : n.depth ≤ 8) (hq : R k F (.ref q) kd) (hu : RelV vv u) (hv : R k F vv vd) {ps : List (NestedKey × Addr × Value)} {kvs : List (D × D)} (h : HX k F ps kvs) :
    HX k F (storedH ps n q u) (putD kvs kd vd) := by
  have e : (atKey ps n).isSome = kvs.any fun p => deq p.1 kd := (HX.find hc h).2.symm
  unfold storedH putD
  rw [e]
  split
  · exact h.mapPut hc hu hv
  · exact h.append (.cons hc hd hq hu hv .nil)
/-- the entries, seen as pairs -/
theorem rk_sx : ∀ {es : List DictEntry} {kvs : List (D × D)}, RKs k F es kvs → (∀ p ∈ kvs, scal p.1 = true) → ∃ ps, SX k F ps kvs ∧ Pairs (mixKind P k.w) es ps ∧ KeysOf (mixKind P k.w) es.toArray
  | _, _, .nil, _ => ⟨[], .nil, .nil, fun e he => by simp at he⟩
  | e :: es, (kd, vd) :: kvs, .cons r1 rk rv rr en ed eh rest, u => by
    obtain ⟨ps, h1, h2, h3⟩ := rk_sx rest fun p hp => u p (List.mem_cons_of_mem _ hp)
    obtain ⟨c, hc⟩ := skey_of (u (kd, vd) List.mem_cons_self)
    have key : keyIs c e.key = true ∧ e.hash = keyH k.w c := by
      have := (skey_nk hc).1
      rw [en] at this
      cases kd <;> simp only [skey, Option.some.injEq, reduceCtorEq] at hc
      · subst hc
        cases rk
        obtain ⟨t, q⟩ := r1
        simp only [Option.some.injEq] at this
        subst this
        exact ⟨by rw [q]; exact keyIs_int _ _, eh⟩
      · subst hc
        cases rk
        obtain ⟨t, q⟩ := r1
        simp only [Option.some.injEq] at this
        subst this
        exact ⟨by rw [q]; exact keyIs_str _ _, eh⟩
    refine ⟨(c, e.val) :: ps, .cons hc rv rr h1, .cons key.1 rfl h2, fun x hx => ?_⟩
    have hx : x = e ∨ x ∈ es := by simpa using hx
    rcases hx with rfl | hx
    · exact ⟨c, key.1, key.2⟩
    · exact h3 x (by simpa using hx)
theorem rk_hx : ∀ {es : List DictEntry} {kvs : List (D × D)}, RKs k F es kvs → (∀ p ∈ kvs, scal p.1 = false) → ∃ ps, HX k F ps kvs ∧ es = ps.map (entryOfKey (nestedKind P k.w))
  | _, _, .nil, _ => ⟨[], .nil, rfl⟩
  | e :: es, (kd, vd) :: kvs, .cons r1 rk rv rr en ed eh rest, u => by
    obtain ⟨ps, h1, h2⟩ := rk_hx rest fun p hp => u p (List.mem_cons_of_mem _ hp)
    have ref : ∃ q, e.key = .ref q ∧ R k F (.ref q) kd := by
      have us := u (kd, vd) List.mem_cons_self
      cases rk with
      | tup a b => exact ⟨_, r1, .tup a b⟩
      | int i => simp [scal] at us
      | str x => simp [scal] at us
      | _ => simp [nk] at en
    obtain ⟨q, eq, rq⟩ := ref
    rename_i n
    refine ⟨(n, q, e.val) :: ps, .cons en ed rq rv rr h1, ?_⟩
    rw [List.map_cons, ← h2]
    congr 1
    obtain ⟨eh', ek', ev'⟩ := e
    simp only at eq eh
    subst eq
    unfold entryOfKey
    rw [eh]
    rfl
theorem sx_rk {es : List DictEntry} : ∀ {ps : List (Key × Value)} {kvs : List (D × D)}, SX k F ps kvs → ∀ {es : List DictEntry}, Pairs (mixKind P k.w) es ps → KeysOf (mixKind P k.w) es.toArray → RKs k F es kvs ∧ ∀ p ∈ kvs, scal p.1 = true
  | _, _, .nil, _, .nil, _ => ⟨.nil, fun p hp => by simp at hp⟩
  | (c, u) :: ps, (kd, vd) :: kvs, .cons hc hu hv r, e :: es, .cons p1 p2 p3, ko => by
    obtain ⟨h1, h2⟩ := sx_rk (es := es) r p3 fun x hx => ko x (by simp at hx ⊢; exact .inr hx)
    obtain ⟨c', k1, k2⟩ := ko e (by simp)
    have := (mixKind P k.w).inj _ _ _ k1 p1
    subst this
    refine ⟨?_, fun p hp => (List.mem_cons.mp hp).elim (fun z => by rw [z]; exact (skey_nk hc).2) (h2 p)⟩
    cases kd <;> simp only [skey, Option.some.injEq, reduceCtorEq] at hc
    · subst hc
      rcases keyIs_shape ((mixKind_is P k.w _ _).symm.trans k1) with ⟨i, t, q1, q2⟩ | ⟨x, t, q1, q2⟩
      · cases q1
        exact .cons (kv := .int _) ⟨t, q2⟩ (.int _) (by rw [p2]; exact hu) hv rfl (Nat.zero_le _) k2 h1
      · cases q1
    · subst hc
      rcases keyIs_shape ((mixKind_is P k.w _ _).symm.trans k1) with ⟨i, t, q1, q2⟩ | ⟨x, t, q1, q2⟩
      · cases q1
      · cases q1
        exact .cons (kv := .str _) ⟨t, q2⟩ (.str _) (by rw [p2]; exact hu) hv rfl (Nat.zero_le _) k2 h1
theorem hx_rk : ∀ {ps : List (NestedKey × Addr × Value)} {kvs : List (D × D)}, HX k F ps kvs → RKs k F (ps.map (entryOfKey (nestedKind P k.w))) kvs
  | _, _, .nil => .nil
  | (n, q, u) :: ps, (kd, vd) :: kvs, .cons h1 h2 h3 h4 h5 r => .cons (kv := .ref q) rfl h3 h4 h5 h1 h2 rfl (hx_rk r)
theorem hx_scal : ∀ {ps : List (NestedKey × Addr × Value)} {kvs : List (D × D)}, HX k F ps kvs → ∀ p ∈ kvs, scal p.1 = false
  | _, _, .nil, p, hp => by simp at hp
  | (n, q, u) :: ps, (kd, vd) :: kvs, .cons h1 h2 h3 h4 h5 r, p, hp => by
    rcases List.mem_cons.mp hp with z | z
    · rw [z]
      cases h3 <;> rfl
    · exact hx_scal r p z
theorem sx_nodup : ∀ {ps : List (Key × Value)} {kvs : List (D × D)}, SX k F ps kvs → ((ps.map (·.1)).Nodup ↔ (kvs.map fun p => nk p.1).Nodup)
  | _, _, h => by
    have e : ∀ {ps : List (Key × Value)} {kvs : List (D × D)}, SX k F ps kvs → (kvs.map fun p => nk p.1) = ps.map fun p => some (kN p.1) := fun h => by
      induction h with
      | nil => rfl
      | cons a _ _ _ ih => simp only [List.map_cons, ih, (skey_nk a).1] <;> rfl
    rw [e h]
    rename_i ps kvs
    clear e h
    induction ps with
    | nil => simp
    | cons p ps ih =>
      rw [List.map_cons, List.map_cons, List.nodup_cons, List.nodup_cons]
      refine and_congr (not_congr ?_) ih
      simp only [List.mem_map, Option.some.injEq]
      constructor
      · rintro ⟨x, h1, h2⟩; exact ⟨x, h1, by rw [h2]⟩
      · rintro ⟨x, h1, h2⟩
        refine ⟨x, h1, ?_⟩
        revert h2
        cases x.1 <;> cases p.1 <;> simp [kN]
theorem hx_nodup {ps : List (NestedKey × Addr × Value)} {kvs : List (D × D)} (h : HX k F ps kvs) : (ps.map (·.1)).Nodup ↔ (kvs.map fun p => nk p.1).Nodup := by
  have e : (kvs.map fun p => nk p.1) = (ps.map (·.1)).map some := by
    induction h with
    | nil => rfl
    | cons a _ _ _ _ _ ih => rw [List.map_cons, List.map_cons, List.map_cons, ih, a]
  rw [e]
  generalize ps.map (·.1) = l
  induction l with
  | nil => simp
  | cons p ps ih =>
    rw [List.map_cons, List.nodup_cons, List.nodup_cons]
    refine and_congr (not_congr ?_) ih
    simp
end
end PL
/-! PL6: dicts in the running state; comparisons, subscripts. -/
namespace PL
open PySem PySem.Spec PyProof.Rows L2

section
variable {X : Cx} {k : RC} {pins : List (Addr × Obj)} {σ : L2.St} {F H : Hp} {s : Shared} {a : Addr} {es : List DictEntry} {kvs : List (D × D)} {y : V} {u : Value} {kd : D}
theorem dct_at (I : Inv X pins σ H s) (h : DctAt H a es) : ∃ o ep, s.heap.get? a = some o ∧ o.ExactDict ∧ o.data = .dict es.toArray ep ∧ (a == sysModules) = false ∧ es.length ≤ sizeLine := by
  obtain ⟨o, ep, h1, h2, h3, h4, h5⟩ := h
  have q : ObjOk X.prog X.w H s.heap a (exO a o) := I.hok a _ h1
  exact ⟨o, ep, q.1, h2, h3, h4, h5⟩
theorem keyOk_iff (h : keyOk kvs kd = true) : ∃ n, nk kd = some n ∧ n.depth ≤ 8 ∧ ∀ p ∈ kvs, scal p.1 = scal kd := by
  unfold keyOk at h
  rw [Bool.and_eq_true] at h
  obtain ⟨h1, h2⟩ := h
  cases e : nk kd with
  | none => rw [e] at h1; cases h1
  | some n =>
    rw [e] at h1
    exact ⟨n, rfl, of_decide_eq_true h1, fun p hp => eq_of_beq (List.all_eq_true.mp h2 p hp)⟩
theorem dv_s (hX : XOk X k) (I : Inv X pins σ H s) (da : DctAt H a es) (rk : RKs k F es kvs) (nd : (kvs.map fun p => nk p.1).Nodup) (un : ∀ p ∈ kvs, scal p.1 = true) :
    ∃ ps, s.heap.DictOf (mixKind X.prog X.w) a ps ∧ SX k F ps kvs := by
  obtain ⟨o, ep, h1, h2, h3, _⟩ := dct_at I da
  have hw := hX.w
  obtain ⟨ps, q1, q2, q3⟩ := rk_sx (P := X.prog) rk un
  rw [hw] at q2 q3
  exact ⟨ps, ⟨o, es.toArray, ep, h1, h2, h3, q3, q2, (sx_nodup q1).mpr nd⟩, q1⟩
theorem dv_h (hX : XOk X k) (I : Inv X pins σ H s) (sub : Same F H) (da : DctAt H a es) (rk : RKs k F es kvs) (nd : (kvs.map fun p => nk p.1).Nodup) (un : ∀ p ∈ kvs, scal p.1 = false) :
    ∃ ps, s.heap.DictOfH (nestedKind X.prog X.w) a ps ∧ HX k F ps kvs := by
  obtain ⟨o, ep, h1, h2, h3, _⟩ := dct_at I da
  have hw := hX.w
  obtain ⟨ps, q1, q2⟩ := rk_hx (P := X.prog) rk un
  rw [hw] at q2
  refine ⟨ps, ⟨o, es.toArray, ep, h1, h2, h3, q2, fun x hx => ?_, (hx_nodup q1).mpr nd⟩, q1⟩
  have kin : k.K.In s.heap := by rw [hX.K]; exact I.kIn
  clear q2 rk
  induction q1 with
  | nil => cases hx
  | cons e1 e2 e3 _ _ _ ih =>
    rcases List.mem_cons.mp hx with z | z
    · rw [z]; exact ⟨nIs kin I.hok (e3.mono sub) e1 rfl, e2⟩
    · exact ih (by simp only [List.map_cons, List.nodup_cons] at nd; exact nd.2) (fun p hp => un p (List.mem_cons_of_mem _ hp)) z
theorem dk_room (hX : XOk X k) : (nestedKind X.prog X.w).room X.A.in1 := by
  have := hX.room.un
  show X.A.units + 1 + 8 < cLine
  omega
/-- a key as the dict's kind wants it -/
theorem key_ref (hs : scal kd = false) {n : NestedKey} (hn : nk kd = some n) (r : R k F y kd) : ∃ q, y = .ref q := by
  cases r <;> first | exact ⟨_, rfl⟩ | (exfalso; simp [scal] at hs; done) | (exfalso; simp [nk] at hn; done)
theorem key_is {c : Key} (hc : skey kd = some c) (r : R k F y kd) (ry : RelV y u) (P : Program) (w : World) : (mixKind P w).is c u = true := by
  rw [mixKind_is]
  cases kd <;> simp only [skey, Option.some.injEq, reduceCtorEq] at hc
  · subst hc; cases r; obtain ⟨t, rfl⟩ := ry; exact keyIs_int _ _
  · subst hc; cases r; obtain ⟨t, rfl⟩ := ry; exact keyIs_str _ _
theorem d_in (hX : XOk X k) (I : Inv X pins σ H s) (sub : Same F H) (da : DctAt H a es) (rk : RKs k F es kvs) (nd : (kvs.map fun p => nk p.1).Nodup) (r : R k F y kd) (ry : RelV y u) (ok : keyOk kvs kd = true)
    {Q : Value → Shared → Prop} {E : Value → Shared → Prop} (h : ∀ s', Inv X pins σ H s' → Q (.bool (kvs.any fun p => deq p.1 kd)) s') : wpAny (model X.prog X.w) X.A (compareOp .In u (.ref a)) Q E s := by
  obtain ⟨_, _, _, _, _, hs, _⟩ := dct_at I da
  obtain ⟨n, h1, h2, h3⟩ := keyOk_iff ok
  cases e : scal kd with
  | true =>
    obtain ⟨c, hc⟩ := skey_of e
    obtain ⟨ps, q1, q2⟩ := dv_s hX I da rk nd fun p hp => (h3 p hp).trans e
    refine wpAny_in_of (key_is hc r ry _ _) hs q1.mapOf ?_
    rw [← (SX.find hc q2).2]
    exact h _ (I.tok _)
  | false =>
    obtain ⟨ps, q1, q2⟩ := dv_h hX I sub da rk nd fun p hp => (h3 p hp).trans e
    obtain ⟨q, rfl⟩ := key_ref e h1 r
    cases ry
    have kin : k.K.In s.heap := by rw [hX.K]; exact I.kIn
    refine wpAny_in_heap (dk_room hX) ⟨nIs kin I.hok (r.mono sub) h1 rfl, h2⟩ hs q1 ?_
    rw [← (HX.find h1 q2).2]
    exact h _ (I.tok _)
theorem d_notin (hX : XOk X k) (I : Inv X pins σ H s) (sub : Same F H) (da : DctAt H a es) (rk : RKs k F es kvs) (nd : (kvs.map fun p => nk p.1).Nodup) (r : R k F y kd) (ry : RelV y u) (ok : keyOk kvs kd = true)
    {Q : Value → Shared → Prop} {E : Value → Shared → Prop} (h : ∀ s', Inv X pins σ H s' → Q (.bool (!kvs.any fun p => deq p.1 kd)) s') : wpAny (model X.prog X.w) X.A (compareOp .NotIn u (.ref a)) Q E s := by
  obtain ⟨_, _, _, _, _, hs, _⟩ := dct_at I da
  obtain ⟨n, h1, h2, h3⟩ := keyOk_iff ok
  cases e : scal kd with
  | true =>
    obtain ⟨c, hc⟩ := skey_of e
    obtain ⟨ps, q1, q2⟩ := dv_s hX I da rk nd fun p hp => (h3 p hp).trans e
    refine wpAny_notIn_of (key_is hc r ry _ _) hs q1.mapOf ?_
    rw [← (SX.find hc q2).2]
    exact h _ (I.tok _)
  | false =>
    obtain ⟨ps, q1, q2⟩ := dv_h hX I sub da rk nd fun p hp => (h3 p hp).trans e
    obtain ⟨q, rfl⟩ := key_ref e h1 r
    cases ry
    have kin : k.K.In s.heap := by rw [hX.K]; exact I.kIn
    refine wpAny_notIn_heap (dk_room hX) ⟨nIs kin I.hok (r.mono sub) h1 rfl, h2⟩ hs q1 ?_
    rw [← (HX.find h1 q2).2]
    exact h _ (I.tok _)
theorem d_get (hX : XOk X k) (I : Inv X pins σ H s) (sub : Same F H) (da : DctAt H a es) (rk : RKs k F es kvs) (nd : (kvs.map fun p => nk p.1).Nodup) (r : R k F y kd) (ry : RelV y u) (ok : keyOk kvs kd = true) {vd : D} (hv : lookD kvs kd = some vd)
    {Q : Value → Shared → Prop} {E : Value → Shared → Prop} (h : ∀ s' vv w, Inv X pins σ H s' → RelV vv w → R k F vv vd → Q w s') : wpAny (model X.prog X.w) X.A (getItem (.ref a) u) Q E s := by
  obtain ⟨_, _, _, _, _, hs, _⟩ := dct_at I da
  obtain ⟨n, h1, h2, h3⟩ := keyOk_iff ok
  cases e : scal kd with
  | true =>
    obtain ⟨c, hc⟩ := skey_of e
    obtain ⟨ps, q1, q2⟩ := dv_s hX I da rk nd fun p hp => (h3 p hp).trans e
    have fd := (SX.find hc q2).1
    rw [hv] at fd
    obtain ⟨w, vv, f1, f2, f3⟩ := fd
    exact wpAny_getItem_of (key_is hc r ry _ _) q1.mapOf f1 (h _ vv w (I.tok _) f2 f3)
  | false =>
    obtain ⟨ps, q1, q2⟩ := dv_h hX I sub da rk nd fun p hp => (h3 p hp).trans e
    obtain ⟨q, rfl⟩ := key_ref e h1 r
    cases ry
    have kin : k.K.In s.heap := by rw [hX.K]; exact I.kIn
    have fd := (HX.find h1 q2).1
    rw [hv] at fd
    obtain ⟨p, vv, f1, f2, f3⟩ := fd
    exact wpAny_getItem_heap (dk_room hX) ⟨nIs kin I.hok (r.mono sub) h1 rfl, h2⟩ q1 f1 (h _ vv p.2 (I.tok _) f2 f3)
theorem d_set (hX : XOk X k) (I : Inv X pins σ H s) (sub : Same F H) (da : DctAt H a es) (rk : RKs k F es kvs) (nd : (kvs.map fun p => nk p.1).Nodup) (r : R k F y kd) (ry : RelV y u) (ok : keyOk kvs kd = true) (hz : kvs.length < sizeLine)
    {vd : D} {vv : V} {w : Value} (rw' : RelV vv w) (rv : R k F vv vd)
    {Q : Unit → Shared → Prop} {E : Value → Shared → Prop} (h : ∀ s' es' o', Inv X pins σ (upd H a (exO a o')) s' → DctAt (upd H a (exO a o')) a es' → RKs k F es' (putD kvs kd vd) → ((putD kvs kd vd).map fun p => nk p.1).Nodup → (∀ p ∈ putD kvs kd vd, ∀ q ∈ putD kvs kd vd, scal p.1 = scal q.1) → Q () s') :
    wpAny (model X.prog X.w) X.A (setItem (.ref a) u w) Q E s := by
  obtain ⟨o0, ep0, hob, hex, hdt, hs, hl⟩ := dct_at I da
  obtain ⟨n, h1, h2, h3⟩ := keyOk_iff ok
  have mu : Mut (H a) := by
    obtain ⟨o, ep, e1, _⟩ := id da
    rw [e1]; trivial
  have fin : ∀ {h' : Heap} {t : Nat} {es' : List DictEntry} {o' : Obj} {ep' : Nat}, h'.get? a = some o' → o'.ExactDict → o'.data = .dict es'.toArray ep' → es'.length ≤ sizeLine → Heap.SameBut a s.heap h' → RKs k F es' (putD kvs kd vd) → ((putD kvs kd vd).map fun p => nk p.1).Nodup →
      (∀ p ∈ putD kvs kd vd, ∀ q ∈ putD kvs kd vd, scal p.1 = scal q.1) → Q () { s with heap := h', toks := t } := fun {h' t es' o' ep'} e1 e2 e3 e4 sb e5 e6 e7 => by
    have J : Inv X pins σ (upd H a (exO a o')) { s with heap := h', toks := t } := by
      refine I.write mu (.inl rfl) (fun b ob hb e => (sb.2 b hb).trans e) ⟨o', e1⟩ ?_
      refine ⟨e1, ⟨o', e1⟩, fun g1 g2 q1 q2 => q2 _ q1⟩
    exact h _ es' o' J ⟨o', ep', upd_same, e2, e3, hs, e4⟩ e5 e6 e7
  have hlen : ∀ {κ : Type} [DecidableEq κ] {n m : Nat}, n ≤ m + 1 → m < sizeLine → n ≤ sizeLine := fun a b => by omega
  cases e : scal kd with
  | true =>
    obtain ⟨c, hc⟩ := skey_of e
    have un : ∀ p ∈ kvs, scal p.1 = true := fun p hp => (h3 p hp).trans e
    obtain ⟨ps, q1, q2⟩ := dv_s hX I da rk nd un
    have hps : ps.length = kvs.length := q2.len
    refine wpAny_setItem_pairs (hsz := by rw [hps]; omega) (key_is hc r ry _ _) q1 fun h' hd sb => ?_
    obtain ⟨o', esA, ep', g1, g2, g3, g4, g5, g6⟩ := hd
    have sx := q2.put hc rw' rv
    have hw := hX.w
    rw [← hw] at g4 g5
    obtain ⟨x1, x2⟩ := sx_rk (es := []) (P := X.prog) sx g5 (by simpa using g4)
    have l1 : esA.toList.length = (stored ps c w).length := g5.length
    have l2 := stored_length_le ps c w
    exact fin (es' := esA.toList) g1 g2 (by simpa using g3) (by omega) sb x1 ((sx_nodup sx).mp g6) fun p hp q hq => (x2 p hp).trans (x2 q hq).symm
  | false =>
    have un : ∀ p ∈ kvs, scal p.1 = false := fun p hp => (h3 p hp).trans e
    obtain ⟨ps, q1, q2⟩ := dv_h hX I sub da rk nd un
    obtain ⟨q, rfl⟩ := key_ref e h1 r
    cases ry
    have kin : k.K.In s.heap := by rw [hX.K]; exact I.kIn
    have hps : ps.length = kvs.length := q2.len
    refine wpAny_setItem_heap (hsz := by rw [hps]; omega) (dk_room hX) ⟨nIs kin I.hok (r.mono sub) h1 rfl, h2⟩ q1 fun h' hd sb => ?_
    obtain ⟨o', esA, ep', g1, g2, g3, g4, g5, g6⟩ := hd
    have hx := q2.put h1 h2 r rw' rv
    have x1 := hx_rk (P := X.prog) hx
    have hw := hX.w
    rw [hw, ← g4] at x1
    have l1 : esA.toList.length = (storedH ps n q w).length := by rw [g4, List.length_map]
    have l2 : (storedH ps n q w).length ≤ ps.length + 1 := by
      unfold storedH
      split
      · rw [List.length_map]; omega
      · rw [List.length_append]; simp
    have x2 := hx_scal hx
    exact fin (es' := esA.toList) g1 g2 (by simpa using g3) (by omega) sb x1 ((hx_nodup hx).mp g6) fun p hp q hq => (x2 p hp).trans (x2 q hq).symm
end
end PL
/-! PL7: comparisons. -/
namespace PL
open PySem PySem.Spec PyProof.Rows L2

theorem pys_get : ∀ (xs : List D) (j : Nat), (D.pys xs)[j]? = (xs[j]?).map D.py
  | [], j => by simp [D.pys]
  | x :: xs, 0 => by simp [D.pys]
  | x :: xs, j + 1 => by simp [D.pys, pys_get xs j]
theorem pys_len : ∀ xs : List D, (D.pys xs).length = xs.length
  | [] => rfl
  | x :: xs => by simp [D.pys, pys_len xs]
theorem canLay_mem : ∀ {xs : List D} {j : Nat} {x : D}, PyData.canLayAll0 (D.pys xs) = true → xs[j]? = some x → x.py.canLay0 = true
  | [], _, _, _, e => by simp at e
  | y :: xs, 0, x, h, e => by
    simp only [D.pys, PyData.canLayAll0, Bool.and_eq_true] at h
    simp at e; subst e; exact h.1
  | y :: xs, j + 1, x, h, e => by
    simp only [D.pys, PyData.canLayAll0, Bool.and_eq_true] at h
    exact canLay_mem (xs := xs) (j := j) h.2 (by simpa using e)
theorem depth_mem : ∀ {xs : List D} {j : Nat} {x : D}, xs[j]? = some x → x.py.depth ≤ PyData.depthAll (D.pys xs)
  | [], _, _, e => by simp at e
  | y :: xs, 0, x, e => by
    simp at e; subst e
    simp only [D.pys, PyData.depthAll]
    exact Nat.le_max_left _ _
  | y :: xs, j + 1, x, e => by
    have := depth_mem (xs := xs) (j := j) (x := x) (by simpa using e)
    simp only [D.pys, PyData.depthAll]
    exact Nat.le_trans this (Nat.le_max_right _ _)
theorem lex_shift (e r : Nat → Bool) (z : Bool) : ∀ n i, Ob.lexAt e r z (i + 1) n = Ob.lexAt (fun j => e (j + 1)) (fun j => r (j + 1)) z i n
  | 0, i => rfl
  | n + 1, i => by rw [Ob.lexAt_succ, Ob.lexAt_succ, lex_shift e r z n (i + 1)]
theorem lt_lex : ∀ {xs ys : List D} {b : Bool}, ltDs xs ys = some b → Ob.lexAt (fun j => deq (xs.getD j .non) (ys.getD j .non)) (fun j => ltB (xs.getD j .non) (ys.getD j .non)) (decide (xs.length < ys.length)) 0 (min xs.length ys.length) = b
  | [], [], b, h => by simp [ltDs] at h; subst h; rfl
  | [], y :: ys, b, h => by simp [ltDs] at h; subst h; rfl
  | x :: xs, [], b, h => by simp [ltDs] at h; subst h; rfl
  | x :: xs, y :: ys, b, h => by
    have hm : min (x :: xs).length (y :: ys).length = min xs.length ys.length + 1 := by simp only [List.length_cons]; omega
    rw [hm, Ob.lexAt_succ, lex_shift]
    simp only [ltDs] at h
    cases e : ltDs xs ys with
    | none => rw [e] at h; cases h
    | some r =>
      rw [e] at h
      have ih := lt_lex e
      simp only at h
      by_cases q : deq x y = true
      · rw [if_pos q] at h
        cases h
        rw [if_pos (by simpa using q)]
        simpa using ih
      · rw [if_neg q] at h
        rw [if_neg (by simpa using q)]
        simp only [List.getD_cons_zero]
        unfold ltB
        rw [h]
        rfl
theorem lt_some : ∀ {xs ys : List D} {b : Bool}, ltDs xs ys = some b → ∀ (j : Nat) (x y : D), xs[j]? = some x → ys[j]? = some y → deq x y = false → ltD x y = some (ltB x y)
  | [], _, _, _, _, _, _, e, _, _ => by simp at e
  | _ :: _, [], _, _, _, _, _, _, e, _ => by simp at e
  | x :: xs, y :: ys, b, h, j, x', y', e1, e2, hd => by
    simp only [ltDs] at h
    cases e : ltDs xs ys with
    | none => rw [e] at h; cases h
    | some r =>
      rw [e] at h
      cases j with
      | zero =>
        simp at e1 e2
        subst e1; subst e2
        simp only [hd, Bool.false_eq_true, if_false] at h
        unfold ltB
        rw [h]; rfl
      | succ j => exact lt_some e j x' y' (by simpa using e1) (by simpa using e2) hd

section
variable {X : Cx} {k : RC} {pins : List (Addr × Obj)} {σ : L2.St} {H : Hp} {s : Shared}
theorem rc_lt (hK : k.K = X.K) (I : Inv X pins σ H s) : ∀ (n : Nat) (d e : D) (x y : V) (u w : Value) (A : Around) (b : Bool), d.py.depth ≤ n → R k H x d → R k H y e → RelV x u → RelV y w → d.py.canLay0 = true → e.py.canLay0 = true →
    A.units + d.py.depth + 1 < cLine → ltD d e = some b → Ob.RcOp .Lt A s u w b := by
  intro n
  induction n with
  | zero =>
    intro d e x y u w A b hn r1 r2 v1 v2 c1 c2 hu h
    cases d <;> cases e <;> simp only [ltD, Option.some.injEq, reduceCtorEq] at h
    · subst h; cases r1; cases r2
      obtain ⟨t, rfl⟩ := v1
      obtain ⟨t', rfl⟩ := v2
      exact Ob.RcOp.lt_int _ _ _ _
    · subst h; cases r1; cases r2
      obtain ⟨t, rfl⟩ := v1
      obtain ⟨t', rfl⟩ := v2
      exact fun _ _ _ _ h => PyProof.Rows.lt_str h
    · simp only [D.py, PyData.depth] at hn
      omega
  | succ n ih =>
    intro d e x y u w A b hn r1 r2 v1 v2 c1 c2 hu h
    cases d <;> cases e <;> simp only [ltD, Option.some.injEq, reduceCtorEq] at h
    · subst h; cases r1; cases r2
      obtain ⟨t, rfl⟩ := v1
      obtain ⟨t', rfl⟩ := v2
      exact Ob.RcOp.lt_int _ _ _ _
    · subst h; cases r1; cases r2
      obtain ⟨t, rfl⟩ := v1
      obtain ⟨t', rfl⟩ := v2
      exact fun _ _ _ _ h => PyProof.Rows.lt_str h
    · rename_i xs ys
      cases r1 with
      | tup t1 q1 =>
      cases r2 with
      | tup t2 q2 =>
      cases v1
      cases v2
      have s1 := t1.sq
      have s2 := t2.sq
      rw [hK] at s1 s2
      obtain ⟨its, g1, p1, _⟩ := I.tuple s1
      obtain ⟨its2, g2, p2, _⟩ := I.tuple s2
      have l1 : its.length = xs.length := by rw [← g1.length, q1.length]
      have l2 : its2.length = ys.length := by rw [← g2.length, q2.length]
      simp only [D.py, PyData.canLay0] at c1 c2
      simp only [D.py, PyData.depth] at hn hu
      have at1 : ∀ j (h1 : j < its.toArray.size), ∃ d v, xs[j]? = some d ∧ R k H v d ∧ RelV v its.toArray[j] := fun j h1 => by
        have hj : j < xs.length := by simp at h1; omega
        obtain ⟨v, a1, a2⟩ := q1.get (i := j) (d := xs[j]) (by simp [hj])
        obtain ⟨u, a3, a4⟩ := g1.get a1
        refine ⟨_, v, by simp [hj], a2, ?_⟩
        have : its[j]? = some its.toArray[j] := by simp at h1; simp [h1]
        rw [a3] at this; cases this; exact a4
      have at2 : ∀ j (h1 : j < its2.toArray.size), ∃ d v, ys[j]? = some d ∧ R k H v d ∧ RelV v its2.toArray[j] := fun j h1 => by
        have hj : j < ys.length := by simp at h1; omega
        obtain ⟨v, a1, a2⟩ := q2.get (i := j) (d := ys[j]) (by simp [hj])
        obtain ⟨u, a3, a4⟩ := g2.get a1
        refine ⟨_, v, by simp [hj], a2, ?_⟩
        have : its2[j]? = some its2.toArray[j] := by simp at h1; simp [h1]
        rw [a3] at this; cases this; exact a4
      have gd : ∀ {l : List D} {j : Nat} {d : D}, l[j]? = some d → l.getD j .non = d := fun {l j d} e => by rw [List.getD_eq_getElem?_getD, e]; rfl
      have key := Ob.RcOp.tuples_lt (A := A) (s := s) (e := fun j => deq (xs.getD j .non) (ys.getD j .non)) (r := fun j => ltB (xs.getD j .non) (ys.getD j .non)) p1 p2 (by omega)
        (fun j h1 h2 => by
          obtain ⟨d, v, a1, a2, a3⟩ := at1 j h1
          obtain ⟨d', v', b1, b2, b3⟩ := at2 j h2
          simp only [gd a1, gd b1]
          have cl := canLay_mem c1 a1
          have cl' := canLay_mem c2 b1
          have dp := a2.dp cl
          have dp' := b2.dp cl'
          rw [hK] at dp dp'
          obtain ⟨as, ra⟩ := Dp.reads I _ _ _ dp a3
          obtain ⟨bs, rb⟩ := Dp.reads I _ _ _ dp' b3
          refine SeqAt.eqAt_reads _ _ A.in1 s _ _ _ _ ra rb cl cl' ?_
          have := depth_mem a1
          show A.units + 1 + min d.py.depth d'.py.depth < cLine
          have := Nat.min_le_left d.py.depth d'.py.depth
          omega)
        (fun j h1 h2 he => by
          obtain ⟨d, v, a1, a2, a3⟩ := at1 j h1
          obtain ⟨d', v', b1, b2, b3⟩ := at2 j h2
          simp only [gd a1, gd b1] at he ⊢
          have := depth_mem a1
          exact ih d d' v v' _ _ A.in1 _ (by omega) a2 b2 a3 b3 (canLay_mem c1 a1) (canLay_mem c2 b1) (by show A.units + 1 + d.py.depth + 1 < cLine; omega) (lt_some h j d d' a1 b1 he))
      have e1 : its.toArray.size = xs.length := by simp [l1]
      have e2 : its2.toArray.size = ys.length := by simp [l2]
      rw [e1, e2, lt_lex h] at key
      exact key
end

/-! ### comparisons -/
section
variable {X : Cx} {k : RC} {C : PC}
def r2B (k : RC) (P : D → D → (Bool → Prop) → Prop) : R2 := fun x y H Q => ∃ ρ σ F d e QQ, Rel k ρ σ F H ∧ BR k F H x d ∧ BR k F H y e ∧ P d e QQ ∧ ∀ b, QQ b → Q (.bl b) H
def cmOf : Cm → CmpOp
  | .eq => .Eq
  | .ne => .NotEq
  | .lt => .Lt
  | .le => .LtE
  | .gt => .Gt
  | .ge => .GtE
  | .isin => .In
  | .notin => .NotIn
  | .is => .Is
  | .isnot => .IsNot
theorem op_eqP (hX : XOk X k) : OpR X (compareOp .Eq) (r2B k eqP) := by
  intro pins s σ H x y v u Q I rx ry ⟨ρ, σ', F, d, e, QQ, rel, bx, by', wp, fin⟩
  have hK := hX.K
  have hu : X.A.units + 64 < cLine := hX.room.units
  have gen : (shp d = true ∧ shp e = true) ∧ QQ (deq d e) → wpAny (model X.prog X.w) X.A (compareOp .Eq v u) (EP X pins σ Q) X.xe s := fun ⟨⟨h1, h2⟩, q⟩ => by
    have d1 := bx.dp rel.sub h1
    have d2 := by'.dp rel.sub h2
    rw [hK] at d1 d2
    exact op_eqD hu pins s σ H x y v u Q I rx ry ⟨_, _, d1, d2, h1, h2, fin _ q⟩
  have sc : ∀ b, L2.scal x y = true → decide (x = y) = b → QQ b → wpAny (model X.prog X.w) X.A (compareOp .Eq v u) (EP X pins σ Q) X.xe s := fun b h1 h2 q =>
    op_eq pins s σ H x y v u Q I rx ry ⟨h1, by rw [h2]; exact fin b q⟩
  cases d <;> cases e <;> first
    | exact gen wp
    | (cases bx.int; cases by'.int; exact sc _ rfl (by simp) wp)
    | (cases bx.str; cases by'.str; exact sc _ rfl (by simp) wp)
    | (cases bx.bl; cases by'.bl; exact sc _ rfl (by simp) wp)
    | (cases bx.non; cases by'.non; exact sc _ rfl (by simp) wp)
    | (cases bx.non; cases by'.int; exact sc _ rfl (by simp) wp)
    | (cases bx.int; cases by'.non; exact sc _ rfl (by simp) wp)
theorem op_neP (hX : XOk X k) : OpR X (compareOp .NotEq) (r2B k fun a b Q => eqP a b fun r => Q (!r)) := by
  intro pins s σ H x y v u Q I rx ry ⟨ρ, σ', F, d, e, QQ, rel, bx, by', wp, fin⟩
  have hK := hX.K
  have hu : X.A.units + 64 < cLine := hX.room.units
  have gen : (shp d = true ∧ shp e = true) ∧ QQ (!deq d e) → wpAny (model X.prog X.w) X.A (compareOp .NotEq v u) (EP X pins σ Q) X.xe s := fun ⟨⟨h1, h2⟩, q⟩ => by
    have d1 := bx.dp rel.sub h1
    have d2 := by'.dp rel.sub h2
    rw [hK] at d1 d2
    exact op_neD hu pins s σ H x y v u Q I rx ry ⟨_, _, d1, d2, h1, h2, fin _ q⟩
  have sc : ∀ b, L2.scal x y = true → decide (x = y) = b → QQ (!b) → wpAny (model X.prog X.w) X.A (compareOp .NotEq v u) (EP X pins σ Q) X.xe s := fun b h1 h2 q =>
    op_ne pins s σ H x y v u Q I rx ry ⟨h1, by rw [h2]; exact fin _ q⟩
  cases d <;> cases e <;> first
    | exact gen wp
    | (cases bx.int; cases by'.int; exact sc _ rfl (by simp) wp)
    | (cases bx.str; cases by'.str; exact sc _ rfl (by simp) wp)
    | (cases bx.bl; cases by'.bl; exact sc _ rfl (by simp) wp)
    | (cases bx.non; cases by'.non; exact sc _ rfl (by simp) wp)
    | (cases bx.non; cases by'.int; exact sc _ rfl (by simp) wp)
    | (cases bx.int; cases by'.non; exact sc _ rfl (by simp) wp)
theorem op_inP (hX : XOk X k) : OpR X (compareOp .In) (r2B k inP) := by
  intro pins s σ H x y v u Q I rx ry ⟨ρ, σ', F, d, e, QQ, rel, bx, by', wp, fin⟩
  have hK := hX.K
  have hu : X.A.units + 65 < cLine := by have := hX.room.un; omega
  cases e with
  | lst xs =>
    obtain ⟨⟨h1, h2⟩, q⟩ := wp
    have d1 := bx.dp rel.sub h1
    have d2 := by'.dp rel.sub h2
    rw [hK] at d1 d2
    simp only [D.py] at d2
    exact op_inD hu pins s σ H x y v u Q I rx ry ⟨_, _, d1, d2, h1, by simpa only [shp, D.py] using h2, by rw [any_pys]; exact fin _ q⟩
  | tup xs =>
    obtain ⟨⟨h1, h2⟩, q⟩ := wp
    have d1 := bx.dp rel.sub h1
    have d2 := by'.dp rel.sub h2
    rw [hK] at d1 d2
    simp only [D.py] at d2
    have h2' : SeqAt.shaped (.tuple (D.pys xs)) = true := by simpa only [shp, D.py] using h2
    obtain ⟨as, r1⟩ := Dp.reads I _ _ _ d1 rx
    obtain ⟨bs, r2⟩ := Dp.reads I _ _ _ d2 ry
    exact SeqAt.in_tuple_reads r2 r1 (SeqAt.canLay_of_shaped h2') (SeqAt.canLay_of_shaped h1) (room_in_shaped h1 hu) ⟨.bl _, H, I, rfl, by rw [any_pys]; exact fin _ q⟩
  | dct kvs =>
    obtain ⟨ok, q⟩ := wp
    obtain ⟨a, es, rfl, h1, h2, h3, h4⟩ := by'.dct rel.sub
    have ky : R k F x d := by
      rcases bx with b | ⟨_, _, _, rfl, _⟩ | ⟨_, _, _, rfl, _⟩
      · exact b
      · obtain ⟨n, hn, _⟩ := keyOk_iff ok
        simp [nk] at hn
      · obtain ⟨n, hn, _⟩ := keyOk_iff ok
        simp [nk] at hn
    cases ry
    exact d_in hX I rel.sub h1 h2 h3 ky rx ok fun s' I' => ⟨.bl _, H, I', rfl, fin _ q⟩
  | str z =>
    cases d <;> first | exact (show False from wp).elim | skip
    cases bx.str; cases by'.str
    exact op_in_str pins s σ H _ _ v u Q I rx ry ⟨_, _, rfl, rfl, fin _ wp⟩
  | _ => exact (show False from wp).elim
theorem op_notinP (hX : XOk X k) : OpR X (compareOp .NotIn) (r2B k fun a b Q => inP a b fun r => Q (!r)) := by
  intro pins s σ H x y v u Q I rx ry ⟨ρ, σ', F, d, e, QQ, rel, bx, by', wp, fin⟩
  have hK := hX.K
  have hu : X.A.units + 65 < cLine := by have := hX.room.un; omega
  cases e with
  | lst xs =>
    obtain ⟨⟨h1, h2⟩, q⟩ := wp
    have d1 := bx.dp rel.sub h1
    have d2 := by'.dp rel.sub h2
    rw [hK] at d1 d2
    simp only [D.py] at d2
    exact op_notInD hu pins s σ H x y v u Q I rx ry ⟨_, _, d1, d2, h1, by simpa only [shp, D.py] using h2, by rw [any_pys]; exact fin _ q⟩
  | tup xs =>
    obtain ⟨⟨h1, h2⟩, q⟩ := wp
    have d1 := bx.dp rel.sub h1
    have d2 := by'.dp rel.sub h2
    rw [hK] at d1 d2
    simp only [D.py] at d2
    have h2' : SeqAt.shaped (.tuple (D.pys xs)) = true := by simpa only [shp, D.py] using h2
    obtain ⟨as, r1⟩ := Dp.reads I _ _ _ d1 rx
    obtain ⟨bs, r2⟩ := Dp.reads I _ _ _ d2 ry
    exact SeqAt.notIn_tuple_reads r2 r1 (SeqAt.canLay_of_shaped h2') (SeqAt.canLay_of_shaped h1) (room_in_shaped h1 hu) ⟨.bl _, H, I, rfl, by rw [any_pys]; exact fin _ q⟩
  | dct kvs =>
    obtain ⟨ok, q⟩ := wp
    obtain ⟨a, es, rfl, h1, h2, h3, h4⟩ := by'.dct rel.sub
    have ky : R k F x d := by
      rcases bx with b | ⟨_, _, _, rfl, _⟩ | ⟨_, _, _, rfl, _⟩
      · exact b
      · obtain ⟨n, hn, _⟩ := keyOk_iff ok
        simp [nk] at hn
      · obtain ⟨n, hn, _⟩ := keyOk_iff ok
        simp [nk] at hn
    cases ry
    exact d_notin hX I rel.sub h1 h2 h3 ky rx ok fun s' I' => ⟨.bl _, H, I', rfl, fin _ q⟩
  | str z =>
    cases d <;> first | exact (show False from wp).elim | skip
    cases bx.str; cases by'.str
    exact op_notin_str pins s σ H _ _ v u Q I rx ry ⟨_, _, rfl, rfl, fin _ wp⟩
  | _ => exact (show False from wp).elim
theorem op_ordP (hX : XOk X k) (c : Cm) : OpR X (compareOp (cmOf c)) (r2B k (ordP c)) := by
  intro pins s σ H x y v u Q I rx ry ⟨ρ, σ', F, d, e, QQ, rel, bx, by', wp, fin⟩
  have hK := hX.K
  have gen : c = .lt → ((shp d = true ∧ shp e = true) ∧ (ltD d e).isSome = true) ∧ QQ ((ltD d e).getD false) → wpAny (model X.prog X.w) X.A (compareOp (cmOf c) v u) (EP X pins σ Q) X.xe s := fun hc ⟨⟨⟨h1, h2⟩, h3⟩, q⟩ => by
    subst hc
    obtain ⟨b, hb⟩ := Option.isSome_iff_exists.mp h3
    rw [hb] at q
    have c1 := SeqAt.canLay_of_shaped h1
    have c2 := SeqAt.canLay_of_shaped h2
    have un := hX.room.un
    have dp : d.py.depth ≤ 64 := SeqAt.depth_of_shaped h1
    have seen : ∀ {z f}, BR k F H z f → f.py.canLay0 = true → (∃ b', ltD d f = some b' ∨ ltD f e = some b') → R k H z f := fun {z f} h _ hl => by
      rcases h with h | ⟨_, _, _, rfl, _⟩ | ⟨_, _, _, rfl, _⟩
      · exact h.mono rel.sub
      · obtain ⟨b', hl | hl⟩ := hl
        · cases d <;> simp [ltD] at hl
        · cases e <;> simp [ltD] at hl
      · obtain ⟨b', hl | hl⟩ := hl
        · cases d <;> simp [ltD] at hl
        · cases e <;> simp [ltD] at hl
    have rc := rc_lt hK I 64 d e x y v u X.A b dp (seen bx c1 ⟨b, .inr hb⟩) (seen by' c2 ⟨b, .inl hb⟩) rx ry c1 c2 (by omega) hb
    exact rc X.prog X.w _ _ ⟨.bl b, H, I, rfl, fin _ q⟩
  cases d <;> cases e <;> first
    | (cases c <;> first | exact (show False from wp).elim | exact gen rfl wp)
    | skip
  cases bx.int; cases by'.int
  cases c <;> first
    | exact (show False from wp).elim
    | exact op_lt pins s σ H _ _ v u Q I rx ry ⟨_, _, rfl, rfl, fin _ wp⟩
    | exact op_le pins s σ H _ _ v u Q I rx ry ⟨_, _, rfl, rfl, fin _ wp⟩
    | exact op_gt pins s σ H _ _ v u Q I rx ry ⟨_, _, rfl, rfl, fin _ wp⟩
    | exact op_ge pins s σ H _ _ v u Q I rx ry ⟨_, _, rfl, rfl, fin _ wp⟩
theorem br_none {F H : Hp} {x : V} {d : D} (h : BR k F H x d) : decide (x = .non) = isNon d := by
  rcases h with h | ⟨_, _, rfl, rfl, _⟩ | ⟨_, _, rfl, rfl, _⟩
  · cases h <;> simp [isNon]
  · simp [isNon]
  · simp [isNon]
theorem op_cmp (hX : XOk X k) (c : Cm) : OpR X (compareOp (cmOf c)) (r2B k (cmpP c)) := by
  cases c with
  | eq => exact op_eqP hX
  | ne => exact op_neP hX
  | isin => exact op_inP hX
  | notin => exact op_notinP hX
  | lt => exact op_ordP hX .lt
  | le => exact op_ordP hX .le
  | gt => exact op_ordP hX .gt
  | ge => exact op_ordP hX .ge
  | is =>
    intro pins s σ H x y v u Q I rx ry ⟨ρ, σ', F, d, e, QQ, rel, bx, by', wp, fin⟩
    cases e with
    | non =>
      cases by'.non
      refine op_isN pins s σ H _ _ v u Q I rx ry ⟨rfl, ?_⟩
      rw [br_none bx]
      exact fin _ wp
    | bl j =>
      cases d <;> first | exact (show False from wp).elim | skip
      cases bx.bl; cases by'.bl
      exact op_is_bl pins s σ H _ _ v u Q I rx ry ⟨_, _, rfl, rfl, fin _ wp⟩
    | _ => exact (show False from wp).elim
  | isnot =>
    intro pins s σ H x y v u Q I rx ry ⟨ρ, σ', F, d, e, QQ, rel, bx, by', wp, fin⟩
    cases e with
    | non =>
      cases by'.non
      refine op_notN pins s σ H _ _ v u Q I rx ry ⟨rfl, ?_⟩
      rw [br_none bx]
      exact fin _ wp
    | bl j =>
      cases d <;> first | exact (show False from wp).elim | skip
      cases bx.bl; cases by'.bl
      exact op_isnot_bl pins s σ H _ _ v u Q I rx ry ⟨_, _, rfl, rfl, fin _ wp⟩
    | _ => exact (show False from wp).elim
theorem twoB {a b : IE} {P : D → D → (Bool → Prop) → Prop} {σ : L2.St} {H : Hp} {Q : VK} {QQ : RK} {ρ : PEnv} {F : Hp} (rel : Rel k ρ σ F H) (wp : wpE C a ρ fun x ρ1 => wpE C b ρ1 fun y ρ2 => P x.toD y.toD fun r => QQ (.val (.bl r)) ρ2)
    (fin : ∀ r ρ' v F' H', EPost k ρ σ F H r v ρ' F' H' → QQ r ρ' → Q v H') : tOp (r2B k P) (tE C k a) (tE C k b) σ H Q := by
  refine ⟨ρ, F, _, rel, wp, fun r1 ρ1 v1 F1 H1 p1 q1 => ⟨ρ1, F1, _, p1.rel, q1, fun r2 ρ2 v2 F2 H2 p2 q2 => ?_⟩⟩
  exact ⟨ρ2, σ, F2, _, _, _, p2.rel, p1.lent.tr p2.tr p2.rel, p2.lent, q2, fun r q3 => fin _ ρ2 _ F2 H2 (p1.then (p2.then (.flat p2.rel .refl (.bl r)))) q3⟩
theorem qe_cmp (hX : XOk X k) {c : Cm} {a b : Expr} {ia ib : IE} {pos : Pos} (ha : PE X a (tE C k ia)) (hb : PE X b (tE C k ib)) (hm : behindInMarks (cmOf c) b = false) : PE X (.Compare a [cmOf c] [b] pos) (tE C k (.cmp c ia ib)) :=
  weak (pe_cmpR (op_cmp hX c) ha hb hm) fun σ H Q ⟨ρ, F, QQ, rel, wp, fin⟩ => twoB (P := cmpP c) rel wp fin
/-- as a test -/
theorem qt_cmp (hX : XOk X k) {c : Cm} {a b : Expr} {ia ib : IE} {pos : Pos} (ha : PE X a (tE C k ia)) (hb : PE X b (tE C k ib)) (hm : behindInMarks (cmOf c) b = false) : PT X (.Compare a [cmOf c] [b] pos) (tT C k (.cmp c ia ib)) := by
  refine weakT (pt_cmpR (op_cmp hX c) ha hb hm) fun σ H Q ⟨ρ, F, QQ, rel, wp, fin⟩ => ?_
  show tOp _ _ _ σ H _
  refine ⟨ρ, F, _, rel, wp, fun r1 ρ1 v1 F1 H1 p1 q1 => ⟨ρ1, F1, _, p1.rel, q1, fun r2 ρ2 v2 F2 H2 p2 q2 => ?_⟩⟩
  exact ⟨ρ2, σ, F2, _, _, _, p2.rel, p1.lent.tr p2.tr p2.rel, p2.lent, q2, fun r q3 => ⟨r, rfl, fin r ρ2 F2 H2 p2.rel (p1.tr.trans p2.tr) q3⟩⟩
end
end PL
/-! PL8: the other expressions: tests, displays, subscripts, built-ins. -/
namespace PL
open PySem PySem.Spec PyProof.Rows L2

section
variable {X : Cx} {k : RC} {C : PC}
/-! ### chains, truth, and, or, not, if -/
theorem chainB {a b d : IE} {P P' : D → D → (Bool → Prop) → Prop} {σ : L2.St} {H : Hp} {Q : VK} {QQ : RK} {ρ : PEnv} {F : Hp} (rel : Rel k ρ σ F H)
    (wp : wpE C a ρ fun x ρ1 => wpE C b ρ1 fun y ρ2 => P x.toD y.toD fun r => brn r (wpE C d ρ2 fun z ρ3 => P' y.toD z.toD fun r' => QQ (.val (.bl r')) ρ3) (QQ (.val (.bl false)) ρ2))
    (fin : ∀ r ρ' v F' H', EPost k ρ σ F H (.val (.bl r)) v ρ' F' H' → v = .bl r → QQ (.val (.bl r)) ρ' → Q v H') : tChain (r2B k P) (r2B k P') (tE C k a) (tE C k b) (tE C k d) σ H Q := by
  refine ⟨ρ, F, _, rel, wp, fun r1 ρ1 v1 F1 H1 p1 q1 => ⟨ρ1, F1, _, p1.rel, q1, fun r2 ρ2 v2 F2 H2 p2 q2 => ?_⟩⟩
  refine ⟨ρ2, σ, F2, _, _, _, p2.rel, p1.lent.tr p2.tr p2.rel, p2.lent, q2, fun r q3 => ⟨r, rfl, ?_⟩⟩
  cases r with
  | false =>
    rw [brn_ite, if_neg Bool.false_ne_true] at q3; rw [if_neg Bool.false_ne_true]
    exact fin _ ρ2 _ F2 H2 (p1.then (p2.then (.flat p2.rel .refl (.bl _)))) rfl q3
  | true =>
    rw [brn_ite, if_pos rfl] at q3; rw [if_pos rfl]
    refine ⟨ρ2, F2, _, p2.rel, q3, fun r3 ρ3 v3 F3 H3 p3 q4 => ?_⟩
    exact ⟨ρ3, σ, F3, _, _, _, p3.rel, p2.lent.tr p3.tr p3.rel, p3.lent, q4, fun r' q5 => fin _ ρ3 _ F3 H3 (p1.then (p2.then (p3.then (.flat p3.rel .refl (.bl _))))) rfl q5⟩
theorem qe_cmp2 (hX : XOk X k) {c c' : Cm} {a b d : Expr} {ia ib id : IE} {pos : Pos} (ha : PE X a (tE C k ia)) (hb : PE X b (tE C k ib)) (hd : PE X d (tE C k id)) (hm : lastMarks [cmOf c, cmOf c'] [b, d] = false) :
    PE X (.Compare a [cmOf c, cmOf c'] [b, d] pos) (tE C k (.cmp2 c c' ia ib id)) :=
  weak (pe_chain (op_cmp hX c) (op_cmp hX c') ha hb hd hm) fun σ H Q ⟨ρ, F, QQ, rel, wp, fin⟩ => chainB (P := cmpP c) (P' := cmpP c') rel wp fun r ρ' v F' H' p _ q => fin _ _ _ _ _ p q
theorem qt_cmp2 (hX : XOk X k) {c c' : Cm} {a b d : Expr} {ia ib id : IE} {pos : Pos} (ha : PE X a (tE C k ia)) (hb : PE X b (tE C k ib)) (hd : PE X d (tE C k id)) (hm : lastMarks [cmOf c, cmOf c'] [b, d] = false) :
    PT X (.Compare a [cmOf c, cmOf c'] [b, d] pos) (tT C k (.cmp2 c c' ia ib id)) :=
  weakT (pt_chain (op_cmp hX c) (op_cmp hX c') ha hb hd hm) fun σ H Q ⟨ρ, F, QQ, rel, wp, fin⟩ => by
    show tChain _ _ _ _ _ σ H _
    exact chainB (P := cmpP c) (P' := cmpP c') rel wp fun r ρ' v F' H' p e q => ⟨r, e, fin r ρ' F' H' p.rel p.tr q⟩
theorem tru_of {ρ : PEnv} {σ : L2.St} {F H : Hp} {v : V} {d : D} {b : Bool} (hK : k.K = X.K) (rel : Rel k ρ σ F H) (br : BR k F H v d) (h : truthD d = some b) : TruV X.K v H b := by
  cases d <;> simp only [truthD, Option.some.injEq, reduceCtorEq] at h <;> subst h
  · cases br.non; rfl
  · cases br.bl; rfl
  · cases br.int; rfl
  · obtain ⟨a, vs, rfl, t, r⟩ := br.tup
    have sq := (t.mono rel.sub).sq
    rw [hK] at sq
    refine .inr (.inl ⟨vs, sq, ?_⟩)
    cases r <;> rfl
  · obtain ⟨a, vs, rfl, t, r⟩ := br.lst rel.sub
    refine .inl ⟨vs, .of t, ?_⟩
    cases r <;> rfl
theorem qt_tst (hX : XOk X k) {a : Expr} {ia : IE} (ha : PE X a (tE C k ia)) (he : ∀ whole, isTrue a X.env whole = (do let v ← whole; standAt a.pos; holding [v] (truthy v))) : PT X a (tT C k (.tst ia)) :=
  weakT (pt_truth ha he) fun σ H Q ⟨ρ, F, QQ, rel, wp, fin⟩ => ⟨ρ, F, _, rel, wp, fun r ρ' v F' H' p ⟨b, hb, q⟩ => ⟨b, tru_of hX.K p.rel p.lent hb, fin b ρ' F' H' p.rel p.tr q⟩⟩
theorem bl_of {F' H H' : Hp} {v : V} {b : Bool} (h : RR k H F' H' v (.val (.bl b))) : v = .bl b := by
  have q : R k F' v (.bl b) := h
  cases q; rfl
/-- two tests in a row -/
theorem qt_and {a b : Expr} {ia ib : IE} {rest : List Expr} {pos : Pos} (ha : PT X a (tT C k ia)) (hb : PW X (.BoolOp .And (b :: rest) pos) (tT C k ib)) : PW X (.BoolOp .And (a :: b :: rest) pos) (tT C k (.and ia ib)) := by
  refine ⟨fun wh pins s σ H Q I h => (pw_and ha hb).run wh pins s σ H Q I ?_⟩
  obtain ⟨ρ, F, QQ, rel, wp, fin⟩ := h
  refine ⟨ρ, F, _, rel, wp, fun b1 ρ1 F1 H1 rel1 tr1 q1 => ?_⟩
  obtain ⟨c, ec, q1⟩ := q1
  cases ec
  cases b1 with
  | true =>
    rw [brn_ite, if_pos rfl] at q1; rw [if_pos rfl]
    exact ⟨ρ1, F1, _, rel1, q1, fun b2 ρ2 F2 H2 rel2 tr2 q2 => fin b2 ρ2 F2 H2 rel2 (tr1.trans tr2) q2⟩
  | false =>
    rw [brn_ite, if_neg Bool.false_ne_true] at q1; rw [if_neg Bool.false_ne_true]
    exact fin false ρ1 F1 H1 rel1 tr1 q1
theorem qt_or {a b : Expr} {ia ib : IE} {rest : List Expr} {pos : Pos} (ha : PT X a (tT C k ia)) (hb : PW X (.BoolOp .Or (b :: rest) pos) (tT C k ib)) : PW X (.BoolOp .Or (a :: b :: rest) pos) (tT C k (.or ia ib)) := by
  refine ⟨fun wh pins s σ H Q I h => (pw_or ha hb).run wh pins s σ H Q I ?_⟩
  obtain ⟨ρ, F, QQ, rel, wp, fin⟩ := h
  refine ⟨ρ, F, _, rel, wp, fun b1 ρ1 F1 H1 rel1 tr1 q1 => ?_⟩
  obtain ⟨c, ec, q1⟩ := q1
  cases ec
  cases b1 with
  | true =>
    rw [brn_ite, if_pos rfl] at q1; rw [if_pos rfl]
    exact fin true ρ1 F1 H1 rel1 tr1 q1
  | false =>
    rw [brn_ite, if_neg Bool.false_ne_true] at q1; rw [if_neg Bool.false_ne_true]
    exact ⟨ρ1, F1, _, rel1, q1, fun b2 ρ2 F2 H2 rel2 tr2 q2 => fin b2 ρ2 F2 H2 rel2 (tr1.trans tr2) q2⟩
theorem qt_not {a : Expr} {ia : IE} {pos : Pos} (ha : PT X a (tT C k ia)) : PT X (.UnaryOp .Not a pos) (tT C k (.not ia)) :=
  weakT (pt_not ha) fun σ H Q ⟨ρ, F, QQ, rel, wp, fin⟩ => ⟨ρ, F, _, rel, wp, fun b ρ' F' H' rel' tr' q => by
    obtain ⟨c, ec, q⟩ := q
    cases ec
    exact fin _ ρ' F' H' rel' tr' q⟩
theorem qe_and {a b : Expr} {ia ib : IE} {rest : List Expr} {pos : Pos} (ha : PE X a (tE C k ia)) (hb : PE X (.BoolOp .And (b :: rest) pos) (tE C k ib)) : PE X (.BoolOp .And (a :: b :: rest) pos) (tE C k (.and ia ib)) :=
  weak (pe_and ha hb) fun σ H Q ⟨ρ, F, QQ, rel, wp, fin⟩ => ⟨ρ, F, _, rel, wp, fun r1 ρ1 v1 F1 H1 p1 q1 => by
    obtain ⟨c, rfl, q1⟩ := q1
    refine ⟨c, bl_of p1.res, ?_⟩
    cases c with
    | true =>
      rw [brn_ite, if_pos rfl] at q1; rw [if_pos rfl]
      exact ⟨ρ1, F1, _, p1.rel, q1, fun r2 ρ2 v2 F2 H2 p2 q2 => fin _ _ _ _ _ (p1.then p2) q2⟩
    | false =>
      rw [brn_ite, if_neg Bool.false_ne_true] at q1; rw [if_neg Bool.false_ne_true]
      exact fin _ _ _ _ _ (p1.then (.flat p1.rel .refl (.bl _))) q1⟩
theorem qe_or {a b : Expr} {ia ib : IE} {rest : List Expr} {pos : Pos} (ha : PE X a (tE C k ia)) (hb : PE X (.BoolOp .Or (b :: rest) pos) (tE C k ib)) : PE X (.BoolOp .Or (a :: b :: rest) pos) (tE C k (.or ia ib)) :=
  weak (pe_or ha hb) fun σ H Q ⟨ρ, F, QQ, rel, wp, fin⟩ => ⟨ρ, F, _, rel, wp, fun r1 ρ1 v1 F1 H1 p1 q1 => by
    obtain ⟨c, rfl, q1⟩ := q1
    refine ⟨c, bl_of p1.res, ?_⟩
    cases c with
    | true =>
      rw [brn_ite, if_pos rfl] at q1; rw [if_pos rfl]
      exact fin _ _ _ _ _ (p1.then (.flat p1.rel .refl (.bl _))) q1
    | false =>
      rw [brn_ite, if_neg Bool.false_ne_true] at q1; rw [if_neg Bool.false_ne_true]
      exact ⟨ρ1, F1, _, p1.rel, q1, fun r2 ρ2 v2 F2 H2 p2 q2 => fin _ _ _ _ _ (p1.then p2) q2⟩⟩
theorem qe_not {a : Expr} {ia : IE} {pos : Pos} (ha : PE X a (tE C k ia)) : PE X (.UnaryOp .Not a pos) (tE C k (.not ia)) :=
  weak (pe_not ha) fun σ H Q ⟨ρ, F, QQ, rel, wp, fin⟩ => ⟨ρ, F, _, rel, wp, fun r1 ρ1 v1 F1 H1 p1 q1 => by
    obtain ⟨c, rfl, q1⟩ := q1
    exact ⟨c, bl_of p1.res, fin _ _ _ _ _ (p1.then (.flat p1.rel .refl (.bl _))) q1⟩⟩
theorem qe_ite {c a b : Expr} {ic ia ib : IE} {pos : Pos} (hc : PT X c (tT C k ic)) (ha : PE X a (tE C k ia)) (hb : PE X b (tE C k ib)) : PE X (.IfExp c a b pos) (tE C k (.ite ic ia ib)) :=
  weak (pe_ifExp hc ha hb) fun σ H Q ⟨ρ, F, QQ, rel, wp, fin⟩ => ⟨ρ, F, _, rel, wp, fun b1 ρ1 F1 H1 rel1 tr1 q1 => by
    obtain ⟨c, ec, q1⟩ := q1
    cases ec
    have p1 : EPost k ρ σ F H (.val (.bl b1)) (.bl b1) ρ1 F1 H1 := ⟨rel1, tr1, .bl _⟩
    cases b1 with
    | true =>
      rw [brn_ite, if_pos rfl] at q1; rw [if_pos rfl]
      exact ⟨ρ1, F1, _, rel1, q1, fun r2 ρ2 v2 F2 H2 p2 q2 => fin _ _ _ _ _ (p1.then p2) q2⟩
    | false =>
      rw [brn_ite, if_neg Bool.false_ne_true] at q1; rw [if_neg Bool.false_ne_true]
      exact ⟨ρ1, F1, _, rel1, q1, fun r2 ρ2 v2 F2 H2 p2 q2 => fin _ _ _ _ _ (p1.then p2) q2⟩⟩
theorem qe_neg {a : Expr} {ia : IE} {pos : Pos} (ha : PE X a (tE C k ia)) : PE X (.UnaryOp .USub a pos) (tE C k (.neg ia)) :=
  weak (pe_un un_neg ha) fun σ H Q ⟨ρ, F, QQ, rel, wp, fin⟩ => ⟨ρ, F, _, rel, wp, fun r1 ρ1 v1 F1 H1 p1 ⟨i, e, q⟩ => by
    have l := p1.lent
    rw [e] at l
    exact ⟨i, l.int, fin _ _ _ _ _ (p1.then (.flat p1.rel .refl (.int _))) q⟩⟩

/-! ### arguments, displays -/
theorem qa_nil {b : Bool} : PA X [] (tA C k b .anil) := weakA pa_nil fun σ H Q ⟨ρ, F, QQ, rel, wp, fin⟩ => fin [] ρ [] F H rel .refl (by unfold ARel; split; exact .nil; exact .nil) wp
theorem qa_cons {b : Bool} {e : Expr} {es : List Expr} {ie ies : IE} (he : PE X e (tE C k ie)) (hr : PA X es (tA C k b ies)) (hs : starEach (e :: es) X.env = (false, eval e X.env) :: starEach es X.env) : PA X (e :: es) (tA C k b (.acons ie ies)) := by
  refine weakA (pa_cons he hr hs) fun σ H Q ⟨ρ, F, QQ, rel, wp, fin⟩ => ?_
  refine ⟨ρ, F, _, rel, wp, fun r1 ρ1 v1 F1 H1 p1 q1 => ?_⟩
  cases b with
  | true =>
    refine ⟨ρ1, F1, _, p1.rel, q1, fun ds ρ2 vs F2 H2 rel2 tr2 a2 q2 => ?_⟩
    exact fin _ ρ2 _ F2 H2 rel2 (p1.tr.trans tr2) (BRs.cons (p1.lent.tr tr2 rel2) a2) q2
  | false =>
    obtain ⟨d, F1', q1, e1, rd, rel1, tr1⟩ := p1.keep rel q1
    refine ⟨ρ1, F1', _, rel1, q1, fun ds ρ2 vs F2 H2 rel2 tr2 a2 q2 => ?_⟩
    exact fin _ ρ2 _ F2 H2 rel2 (tr1.trans tr2) (Rs.cons (rd.mono tr2.sub) a2) q2
theorem qe_tup {es : List Expr} {ies : IE} {x1 : Nat} {pos : Pos} (h : PA X es (tA C k false ies)) : PE X (.Tuple es x1 pos) (tE C k (.tup ies)) :=
  weak (pe_tupF h) fun σ H Q ⟨ρ, F, QQ, rel, wp, fin⟩ => ⟨ρ, F, _, rel, wp, fun ds ρ1 vs F1 H1 rel1 tr1 a1 ⟨hz, q⟩ => by
    have a1 : Rs k F1 vs ds := a1
    refine ⟨by rw [a1.length]; exact hz, newT rel1 a1 fun v F' H' p => ?_⟩
    exact fin (.val (.tup ds)) _ _ _ _ ⟨p.rel, tr1.trans p.tr, (p.res : R k F' v (.tup ds))⟩ q⟩
theorem qe_lst {es : List Expr} {ies : IE} {pos : Pos} (h : PA X es (tA C k false ies)) : PE X (.List es pos) (tE C k (.lst ies)) :=
  weak (pe_lst h) fun σ H Q ⟨ρ, F, QQ, rel, wp, fin⟩ => ⟨ρ, F, _, rel, wp, fun ds ρ1 vs F1 H1 rel1 tr1 a1 ⟨hz, q⟩ => by
    have a1 : Rs k F1 vs ds := a1
    exact ⟨by rw [a1.length]; exact hz, fun p hn => fin _ _ _ _ _ (.newL rel1 tr1 hn a1) q⟩⟩
/-! ### subscripts -/
theorem atI_rs {F : Hp} {vs : List V} {ds : List D} {i : Int} {d : D} (r : Rs k F vs ds) (h : atI ds i = some d) : ∃ v, atI vs i = some v ∧ R k F v d := by
  unfold atI at h ⊢
  rw [r.length]
  cases e : ixN ds.length i with
  | none => rw [e] at h; cases h
  | some j => rw [e] at h; exact r.get h
theorem ix_P (hX : XOk X k) : IxR X (fun x y H Q => ∃ ρ σ F d e QQ, Rel k ρ σ F H ∧ BR k F H x d ∧ BR k F H y e ∧ idxP d e QQ ∧ ∀ v d, R k F v d → QQ d → Q v H) := by
  intro value slice pins s σ H x y v u Q I rx ry ⟨ρ, σ', F, d, e, QQ, rel, bx, by', wp, fin⟩ hs
  have hK := hX.K
  cases d with
  | lst xs =>
    cases e <;> first | exact (show False from wp).elim | skip
    obtain ⟨d, h1, h2⟩ := wp
    obtain ⟨a, vs, rfl, t, r⟩ := bx.lst rel.sub
    cases by'.int
    obtain ⟨w, e1, e2⟩ := atI_rs r h1
    exact ix_list value slice pins s σ H _ _ v u Q I rx ry ⟨a, vs, _, w, rfl, rfl, .of t, e1, fin _ _ e2 h2⟩ hs
  | tup xs =>
    cases e <;> first | exact (show False from wp).elim | skip
    obtain ⟨d, h1, h2⟩ := wp
    obtain ⟨a, vs, rfl, t, r⟩ := bx.tup
    cases by'.int
    obtain ⟨w, e1, e2⟩ := atI_rs r h1
    have sq := (t.mono rel.sub).sq
    rw [hK] at sq
    exact ix_tup value slice pins s σ H _ _ v u Q I rx ry ⟨a, vs, _, w, rfl, rfl, sq, e1, fin _ _ e2 h2⟩ hs
  | str z =>
    cases e <;> first | exact (show False from wp).elim | skip
    obtain ⟨hz, c, h1, h2⟩ := wp
    cases bx.str; cases by'.int
    exact ix_str value slice pins s σ H _ _ v u Q I rx ry ⟨z, _, c, rfl, rfl, hz, h1, fin _ _ (.str _) h2⟩ hs
  | dct kvs =>
    obtain ⟨ok, vd, h1, h2⟩ := wp
    obtain ⟨a, es, rfl, g1, g2, g3, g4⟩ := bx.dct rel.sub
    have ky : R k F y e := by
      rcases by' with b | ⟨_, _, _, rfl, _⟩ | ⟨_, _, _, rfl, _⟩
      · exact b
      · obtain ⟨n, hn, _⟩ := keyOk_iff ok
        simp [nk] at hn
      · obtain ⟨n, hn, _⟩ := keyOk_iff ok
        simp [nk] at hn
    cases rx
    obtain ⟨o, ep, q1, q2, q3, _⟩ := dct_at I g1
    exact tail_any ⟨o, q1, q2.1⟩ PySem.F.slot_dict_getitem.lookup (d_get hX I rel.sub g1 g2 g3 ky ry ok h1 fun s' vv w I' rw' rv => ⟨vv, H, I', rw', fin _ _ rv h2⟩) hs
  | _ => exact (show False from wp).elim
theorem qe_idx (hX : XOk X k) {a b : Expr} {ia ib : IE} {pos : Pos} (ha : PE X a (tE C k ia)) (hb : PE X b (tE C k ib)) (hs : PlainIx b) : PE X (.Subscript a b pos) (tE C k (.idx ia ib)) :=
  weak (pe_ix (ix_P hX) ha hb hs) fun σ H Q ⟨ρ, F, QQ, rel, wp, fin⟩ => ⟨ρ, F, _, rel, wp, fun r1 ρ1 v1 F1 H1 p1 q1 => ⟨ρ1, F1, _, p1.rel, q1, fun r2 ρ2 v2 F2 H2 p2 q2 =>
    ⟨ρ2, σ, F2, _, _, _, p2.rel, p1.lent.tr p2.tr p2.rel, p2.lent, q2, fun v d rv q => fin _ _ _ _ _ (p1.then (p2.then (.flat p2.rel .refl rv))) q⟩⟩⟩
/-- a part of a slice -/
def tO (C : PC) (k : RC) (e : IE) : TO := fun σ H Q => ∃ ρ F QQ, Rel k ρ σ F H ∧ optP (isMiss e) (wpE C e) ρ QQ ∧ ∀ o ρ' F' H', Rel k ρ' σ F' H' → ETr k ρ σ F H ρ' F' H' → QQ o ρ' → Q o H'
theorem po_no : PO X none (tO C k (.cst .non)) := ⟨fun pins s σ H Q I ⟨ρ, F, QQ, rel, wp, fin⟩ => po_none.run pins s σ H Q I (fin none ρ F H rel .refl wp)⟩
theorem po_yes {e : Expr} {ie : IE} (h : PE X e (tE C k ie)) (hm : isMiss ie = false) : PO X (some e) (tO C k ie) := ⟨fun pins s σ H Q I ⟨ρ, F, QQ, rel, wp, fin⟩ => by
  unfold optP at wp
  rw [hm, if_neg Bool.false_ne_true] at wp
  refine (po_some h).run pins s σ H Q I ⟨ρ, F, _, rel, wp, fun r ρ' v F' H' p ⟨i, e, q⟩ => ?_⟩
  have l := p.lent
  rw [e] at l
  exact ⟨i, l.int, fin _ _ _ _ p.rel p.tr q⟩⟩
theorem cut_rs {F : Hp} {vs : List V} {ds : List D} (r : Rs k F vs ds) (lo hi : Option Int) : Rs k F (cutV vs lo hi) (cutL ds lo hi) := by
  unfold cutV cutL
  rw [r.length]
  exact (r.drop _).take _
theorem sl_P (hX : XOk X k) : SlR X (fun x lo hi H Q => ∃ ρ σ F d QQ, Rel k ρ σ F H ∧ BR k F H x d ∧ slcP d lo hi QQ ∧ ∀ r v F' H', EPost k ρ σ F H r v ρ F' H' → QQ r → Q v H') := by
  intro pins s σ H x v vl vu lo hi sl Q I rx hs pl pu ⟨ρ, σ', F, d, QQ, rel, bx, wp, fin⟩
  have hK := hX.K
  cases d with
  | lst xs =>
    obtain ⟨a, vs, rfl, t, r⟩ := bx.lst rel.sub
    exact sl_list pins s σ H _ v vl vu lo hi sl Q I rx hs pl pu ⟨a, vs, rfl, .of t, fun p hn => fin _ _ _ _ (.newL rel .refl hn (cut_rs r lo hi)) wp⟩
  | tup xs =>
    obtain ⟨a, vs, rfl, t, r⟩ := bx.tup
    have sq := (t.mono rel.sub).sq
    rw [hK] at sq
    refine sl_tupF pins s σ H _ v vl vu lo hi sl Q I rx hs pl pu ⟨a, vs, rfl, sq, fun z => ?_, fun _ => newT rel (cut_rs r lo hi) fun v F' H' p => fin _ _ _ _ p wp⟩
    have e : cutL xs lo hi = xs := by
      unfold cutL
      rw [r.length] at z
      rw [z.1, z.2]
      simp
    have wp : QQ (.val (.tup (cutL xs lo hi))) := wp
    rw [e] at wp
    exact fin _ _ _ _ (.flat rel .refl (.tup t r)) wp
  | _ => exact (show False from wp).elim
theorem qe_slc (hX : XOk X k) {a : Expr} {lo hi : Option Expr} {ia il ih : IE} {p2 pos : Pos} (ha : PE X a (tE C k ia)) (hl : PO X lo (tO C k il)) (hh : PO X hi (tO C k ih)) : PE X (.Subscript a (.Slice lo hi none p2) pos) (tE C k (.slc ia il ih)) :=
  weak (pe_slice (sl_P hX) ha hl hh) fun σ H Q ⟨ρ, F, QQ, rel, wp, fin⟩ => ⟨ρ, F, _, rel, wp, fun r1 ρ1 v1 F1 H1 p1 q1 => ⟨ρ1, F1, _, p1.rel, q1, fun l ρ2 F2 H2 rel2 tr2 q2 => ⟨ρ2, F2, _, rel2, q2, fun h ρ3 F3 H3 rel3 tr3 q3 =>
    ⟨ρ3, σ, F3, _, _, rel3, (p1.lent.tr tr2 rel2).tr tr3 rel3, q3, fun r v F' H' p q => fin _ _ _ _ _ ((p1.then (⟨rel2, tr2, .non⟩ : EPost k ρ1 σ F1 H1 (.val .non) .non ρ2 F2 H2)).then ((⟨rel3, tr3, .non⟩ : EPost k ρ2 σ F2 H2 (.val .non) .non ρ3 F3 H3).then p)) q⟩⟩⟩⟩

/-! ### built-ins called by name -/
/-- a built-in on lent values -/
def rBlt (k : RC) (P : List D → (RV → Prop) → Prop) : List V → Hp → VK → Prop := fun xs H Q => ∃ ρ σ F ds QQ, Rel k ρ σ F H ∧ BRs k F H xs ds ∧ P ds QQ ∧ ∀ r v F' H', EPost k ρ σ F H r v ρ F' H' → QQ r → Q v H'
theorem brs1 {F H : Hp} {xs : List V} {d : D} (h : BRs k F H xs [d]) : ∃ x, xs = [x] ∧ BR k F H x d := by
  cases h with
  | cons a b => cases b; exact ⟨_, rfl, a⟩
theorem brs2 {F H : Hp} {xs : List V} {d e : D} (h : BRs k F H xs [d, e]) : ∃ x y, xs = [x, y] ∧ BR k F H x d ∧ BR k F H y e := by
  cases h with
  | cons a b =>
    obtain ⟨y, rfl, c⟩ := brs1 b
    exact ⟨_, y, rfl, a, c⟩
theorem qe_blt {f : BI} {e : Expr} {es : List Expr} {ies : IE} {t : TA → TE} (h : ∀ ta, PA X es ta → PE X e (tCB (rBlt k (bltP f)) ta)) (ha : PA X es (tA C k true ies)) : PE X e (tE C k (.blt f ies)) :=
  weak (h _ ha) fun σ H Q ⟨ρ, F, QQ, rel, wp, fin⟩ => ⟨ρ, F, _, rel, wp, fun ds ρ1 vs F1 H1 rel1 tr1 a1 q1 =>
    ⟨ρ1, σ, F1, ds, _, rel1, a1, q1, fun r v F' H' p q => fin _ _ _ _ _ ((⟨rel1, tr1, .non⟩ : EPost k ρ σ F H (.val .non) .non ρ1 F1 H1).then p) q⟩⟩
theorem cb_len_dct (hX : XOk X k) {pins : List (Addr × Obj)} {s : Shared} {σ : L2.St} {F H : Hp} {a : Addr} {es : List DictEntry} {kvs : List (D × D)} {Q : Value → Shared → Prop} {E : Value → Shared → Prop} (I : Inv X pins σ H s) (sub : Same F H) (da : DctAt H a es)
    (rk : RKs k F es kvs) (nd : (kvs.map fun p => nk p.1).Nodup) (un : ∀ p ∈ kvs, ∀ q ∈ kvs, scal p.1 = scal q.1)
    (h : ∀ s' t, Inv X pins σ H s' → Q (.int kvs.length t) s') : wpAny (model X.prog X.w) X.A (call (.builtin "len") [.ref a]) Q E s := by
  obtain ⟨_, _, _, _, _, hs, hz⟩ := dct_at I da
  have hl := rk.length
  have hline := sizeLine_eq
  have c : (∀ p ∈ kvs, scal p.1 = true) ∨ ∀ p ∈ kvs, scal p.1 = false := by
    cases kvs with
    | nil => exact .inl fun p hp => by simp at hp
    | cons p ps =>
      cases e : scal p.1 with
      | true => exact .inl fun q hq => (un p List.mem_cons_self q hq).symm.trans e
      | false => exact .inr fun q hq => (un p List.mem_cons_self q hq).symm.trans e
  rcases c with c | c
  · obtain ⟨ps, q1, q2⟩ := dv_s hX I da rk nd c
    exact call_len_dict hs q1 (by rw [q2.len]; omega) (by rw [q2.len]; exact h _ _ (I.tok _))
  · obtain ⟨ps, q1, q2⟩ := dv_h hX I sub da rk nd c
    exact call_len_dictH hs q1 (by rw [q2.len]; omega) (by rw [q2.len]; exact h _ _ (I.tok _))
theorem cb_len (hX : XOk X k) : CallR X (.builtin "len") (rBlt k (bltP .len)) := by
  intro pins s σ H xs us Q I r ⟨ρ, σ', F, ds, QQ, rel, br, wp, fin⟩
  have hK := hX.K
  match ds, br, wp with
  | [.str z], br, wp =>
    obtain ⟨x, rfl, b⟩ := brs1 br
    cases b.str
    exact call_len pins s σ H _ us Q I r ⟨_, z.length, rfl, ⟨wp.1, rfl⟩, fin _ _ _ _ (.flat rel .refl (.int _)) wp.2⟩
  | [.lst xs], br, wp =>
    obtain ⟨x, rfl, b⟩ := brs1 br
    obtain ⟨a, vs, rfl, t, q⟩ := b.lst rel.sub
    exact call_len pins s σ H _ us Q I r ⟨_, vs.length, rfl, .inl ⟨vs, .of t, rfl⟩, by rw [q.length]; exact fin _ _ _ _ (.flat rel .refl (.int _)) wp⟩
  | [.tup xs], br, wp =>
    obtain ⟨x, rfl, b⟩ := brs1 br
    obtain ⟨a, vs, rfl, t, q⟩ := b.tup
    have sq := (t.mono rel.sub).sq
    rw [hK] at sq
    exact call_len pins s σ H _ us Q I r ⟨_, vs.length, rfl, .inr ⟨vs, sq, rfl⟩, by rw [q.length]; exact fin _ _ _ _ (.flat rel .refl (.int _)) wp⟩
  | [.dct kvs], br, wp =>
    obtain ⟨x, rfl, b⟩ := brs1 br
    obtain ⟨a, es, rfl, g1, g2, g3, g4⟩ := b.dct rel.sub
    obtain ⟨u, rfl, rx⟩ := vals1 r
    cases rx
    exact cb_len_dct hX I rel.sub g1 g2 g3 g4 fun s' t I' => ⟨.int _, H, I', ⟨t, rfl⟩, fin _ _ _ _ (.flat rel .refl (.int _)) wp⟩
end
end PL
/-! PL9: built-ins, methods, isinstance. -/
namespace PL
open PySem PySem.Spec PyProof.Rows L2
section
variable {X : Cx} {k : RC} {C : PC}
theorem ints_vs {F : Hp} : ∀ {vs : List V} {ds : List D} {is : List Int}, Rs k F vs ds → ints? ds = some is → vs = is.map V.int
  | _, _, is, .nil, h => by simp only [ints?, Option.some.injEq] at h; subst h; rfl
  | _, .int i :: ds, is, .cons a r, h => by
    simp only [ints?, Option.map_eq_some_iff] at h
    obtain ⟨js, h1, rfl⟩ := h
    cases a
    rw [ints_vs r h1]; rfl
  | _, .non :: _, _, .cons _ _, h => by simp [ints?] at h
  | _, .bl _ :: _, _, .cons _ _, h => by simp [ints?] at h
  | _, .str _ :: _, _, .cons _ _, h => by simp [ints?] at h
  | _, .tup _ :: _, _, .cons _ _, h => by simp [ints?] at h
  | _, .lst _ :: _, _, .cons _ _, h => by simp [ints?] at h
  | _, .dct _ :: _, _, .cons _ _, h => by simp [ints?] at h
  | _, .rng _ _ :: _, _, .cons _ _, h => by simp [ints?] at h
  | _, .pool :: _, _, .cons _ _, h => by simp [ints?] at h
theorem bls_vs {F : Hp} : ∀ {vs : List V} {ds : List D} {is : List Bool}, Rs k F vs ds → bls? ds = some is → vs = is.map V.bl
  | _, _, is, .nil, h => by simp only [bls?, Option.some.injEq] at h; subst h; rfl
  | _, .bl i :: ds, is, .cons a r, h => by
    simp only [bls?, Option.map_eq_some_iff] at h
    obtain ⟨js, h1, rfl⟩ := h
    cases a
    rw [bls_vs r h1]; rfl
  | _, .non :: _, _, .cons _ _, h => by simp [bls?] at h
  | _, .int _ :: _, _, .cons _ _, h => by simp [bls?] at h
  | _, .str _ :: _, _, .cons _ _, h => by simp [bls?] at h
  | _, .tup _ :: _, _, .cons _ _, h => by simp [bls?] at h
  | _, .lst _ :: _, _, .cons _ _, h => by simp [bls?] at h
  | _, .dct _ :: _, _, .cons _ _, h => by simp [bls?] at h
  | _, .rng _ _ :: _, _, .cons _ _, h => by simp [bls?] at h
  | _, .pool :: _, _, .cons _ _, h => by simp [bls?] at h
theorem cb_sum (hX : XOk X k) : CallR X (.builtin "sum") (rBlt k (bltP .sum)) := by
  intro pins s σ H xs us Q I r ⟨ρ, σ', F, ds, QQ, rel, br, wp, fin⟩
  match ds, br, wp with
  | [.lst xs], br, wp =>
    obtain ⟨x, rfl, b⟩ := brs1 br
    obtain ⟨a, vs, rfl, t, q⟩ := b.lst rel.sub
    obtain ⟨is, h1, h2⟩ := wp
    cases ints_vs q h1
    exact cr_sum hX.calm pins s σ H _ us Q I r ⟨a, is, rfl, .of t, fin _ _ _ _ (.flat rel .refl (.int _)) h2⟩
theorem cb_any (hX : XOk X k) : CallR X (.builtin "any") (rBlt k (bltP .any)) := by
  intro pins s σ H xs us Q I r ⟨ρ, σ', F, ds, QQ, rel, br, wp, fin⟩
  match ds, br, wp with
  | [.lst xs], br, wp =>
    obtain ⟨x, rfl, b⟩ := brs1 br
    obtain ⟨a, vs, rfl, t, q⟩ := b.lst rel.sub
    obtain ⟨is, h1, h2⟩ := wp
    cases bls_vs q h1
    exact cr_any hX.calm pins s σ H _ us Q I r ⟨a, is, rfl, .of t, fin _ _ _ _ (.flat rel .refl (.bl _)) h2⟩
theorem cb_all (hX : XOk X k) : CallR X (.builtin "all") (rBlt k (bltP .all)) := by
  intro pins s σ H xs us Q I r ⟨ρ, σ', F, ds, QQ, rel, br, wp, fin⟩
  match ds, br, wp with
  | [.lst xs], br, wp =>
    obtain ⟨x, rfl, b⟩ := brs1 br
    obtain ⟨a, vs, rfl, t, q⟩ := b.lst rel.sub
    obtain ⟨is, h1, h2⟩ := wp
    cases bls_vs q h1
    exact cr_all hX.calm pins s σ H _ us Q I r ⟨a, is, rfl, .of t, fin _ _ _ _ (.flat rel .refl (.bl _)) h2⟩
theorem cb_abs (hX : XOk X k) : CallR X (.builtin "abs") (rBlt k (bltP .abs)) := by
  intro pins s σ H xs us Q I r ⟨ρ, σ', F, ds, QQ, rel, br, wp, fin⟩
  match ds, br, wp with
  | [.int i], br, wp =>
    obtain ⟨x, rfl, b⟩ := brs1 br
    cases b.int
    exact call_abs pins s σ H _ us Q I r ⟨i, rfl, fin _ _ _ _ (.flat rel .refl (.int _)) wp⟩
theorem cb_int (hX : XOk X k) : CallR X (.type "int") (rBlt k (bltP .int)) := by
  intro pins s σ H xs us Q I r ⟨ρ, σ', F, ds, QQ, rel, br, wp, fin⟩
  match ds, br, wp with
  | [.int i], br, wp =>
    obtain ⟨x, rfl, b⟩ := brs1 br
    cases b.int
    exact call_int1 pins s σ H _ us Q I r (.inl ⟨i, rfl, fin _ _ _ _ (.flat rel .refl (.int _)) wp⟩)
  | [.bl i], br, wp =>
    obtain ⟨x, rfl, b⟩ := brs1 br
    cases b.bl
    exact call_int1 pins s σ H _ us Q I r (.inr ⟨i, rfl, fin _ _ _ _ (.flat rel .refl (.int _)) wp⟩)
theorem cb_str (hX : XOk X k) : CallR X (.type "str") (rBlt k (bltP .str)) := by
  intro pins s σ H xs us Q I r ⟨ρ, σ', F, ds, QQ, rel, br, wp, fin⟩
  match ds, br, wp with
  | [.int i], br, wp =>
    obtain ⟨x, rfl, b⟩ := brs1 br
    cases b.int
    exact call_str_int pins s σ H _ us Q I r ⟨i, rfl, wp.1, fin _ _ _ _ (.flat rel .refl (.str _)) wp.2⟩
theorem ints_pys {ds : List D} : ∀ {is : List Int}, ints? ds = some is → D.pys ds = is.map .int := by
  induction ds with
  | nil => intro is h; simp only [ints?, Option.some.injEq] at h; subst h; rfl
  | cons d ds ih =>
    intro is h
    cases d <;> simp only [ints?, Option.map_eq_some_iff, reduceCtorEq] at h
    obtain ⟨js, h1, rfl⟩ := h
    simp only [D.pys, ih h1, List.map_cons, D.py]
theorem ints_lay : ∀ is : List Int, PyData.canLayAll0 (is.map PyData.int) = true ∧ PyData.depthAll (is.map PyData.int) = 0
  | [] => ⟨rfl, rfl⟩
  | i :: is => by
    obtain ⟨h1, h2⟩ := ints_lay is
    simp [PyData.canLayAll0, PyData.canLay0, PyData.depthAll, PyData.depth, h1, h2]
theorem ints_alike (is : List Int) : PySem.W.AlikeAll (is.map PyData.int) := by
  refine ⟨fun x hx y hy => ?_, fun x hx => ?_⟩
  · obtain ⟨i, _, rfl⟩ := List.mem_map.mp hx
    obtain ⟨j, _, rfl⟩ := List.mem_map.mp hy
    rfl
  · obtain ⟨i, _, rfl⟩ := List.mem_map.mp hx
    simp
/-- the data of a list or tuple of ints -/
theorem seq_ints {pins : List (Addr × Obj)} {s : Shared} {σ : L2.St} {F H : Hp} {x : V} {u : Value} {ds : List D} {is : List Int} {isT : Bool} (hK : k.K = X.K) (I : Inv X pins σ H s) (sub : Same F H) (br : BR k F H x (if isT then .tup ds else .lst ds)) (ru : RelV x u)
    (hi : ints? ds = some is) : ∃ a its as, u = .ref a ∧ (if isT then s.heap.IsTuple a its else s.heap.IsList a its) ∧ ReadsAll s.heap its.toList (is.map .int) as := by
  have ep := ints_pys hi
  have lay := (ints_lay is).1
  cases isT with
  | false =>
    obtain ⟨a, vs, rfl, t, q⟩ := br.lst sub
    cases ru
    obtain ⟨its, r', pl, hz⟩ := I.list (.of t)
    have dp := (q.mono sub).dp (by rw [ep]; exact lay)
    rw [ep, hK] at dp
    obtain ⟨as, ra⟩ := Dp.readsAll I _ _ its dp r'
    exact ⟨a, its.toArray, as, rfl, pl.isList, by simpa using ra⟩
  | true =>
    obtain ⟨a, vs, rfl, t, q⟩ := br.tup
    cases ru
    have sq := (t.mono sub).sq
    rw [hK] at sq
    obtain ⟨its, r', pl, hz⟩ := I.tuple sq
    have dp := (q.mono sub).dp (by rw [ep]; exact lay)
    rw [ep, hK] at dp
    obtain ⟨as, ra⟩ := Dp.readsAll I _ _ its dp r'
    exact ⟨a, its.toArray, as, rfl, pl, by simpa using ra⟩
theorem read_int {h : Heap} {v : Value} {i : Int} {bs : List Addr} (r : Reads h v (.int i) bs) : RelV (.int i) v := by
  cases r
  exact ⟨_, rfl⟩
theorem cb_min (hX : XOk X k) : CallR X (.builtin "min") (rBlt k (bltP .min)) := by
  intro pins s σ H xs us Q I r ⟨ρ, σ', F, ds, QQ, rel, br, wp, fin⟩
  have hh := I.ok.hd hX.calm
  have un := hX.room.un
  match ds, br, wp with
  | [.int i, .int j], br, wp =>
    obtain ⟨x, y, rfl, b, c⟩ := brs2 br
    cases b.int; cases c.int
    exact call_min2 hX.calm pins s σ H _ us Q I r ⟨i, j, rfl, fin _ _ _ _ (.flat rel .refl (.int _)) wp⟩
  | [.lst xs], br, wp =>
    obtain ⟨x, rfl, b⟩ := brs1 br
    obtain ⟨is, h1, h2, h3⟩ := wp
    obtain ⟨u, rfl, ru⟩ := vals1 r
    obtain ⟨a, its, as, rfl, hl, ra⟩ := seq_ints (isT := false) hX.K I rel.sub b ru h1
    match is, h2 with
    | i :: is, _ =>
      refine PySem.W.min_list_data (x := .int i) (xs := is.map .int) hh hl (by simpa using ra) (ints_alike (i :: is)) ?_ fun _ v h' tk bs _ rd hk => ?_
      · have := (ints_lay (i :: is)).2
        simp only [List.map_cons] at this
        rw [this]; omega
      · rw [PySem.W.minD_ints] at rd
        exact ⟨_, H, I.kept hk, read_int rd, fin _ _ _ _ (.flat rel .refl (.int _)) h3⟩
  | [.tup xs], br, wp =>
    obtain ⟨x, rfl, b⟩ := brs1 br
    obtain ⟨is, h1, h2, h3⟩ := wp
    obtain ⟨u, rfl, ru⟩ := vals1 r
    obtain ⟨a, its, as, rfl, hl, ra⟩ := seq_ints (isT := true) hX.K I rel.sub b ru h1
    match is, h2 with
    | i :: is, _ =>
      refine PySem.W.min_tuple_data (x := .int i) (xs := is.map .int) hh hl (by simpa using ra) (ints_alike (i :: is)) ?_ fun _ v h' tk bs _ rd hk => ?_
      · have := (ints_lay (i :: is)).2
        simp only [List.map_cons] at this
        rw [this]; omega
      · rw [PySem.W.minD_ints] at rd
        exact ⟨_, H, I.kept hk, read_int rd, fin _ _ _ _ (.flat rel .refl (.int _)) h3⟩
theorem cb_max (hX : XOk X k) : CallR X (.builtin "max") (rBlt k (bltP .max)) := by
  intro pins s σ H xs us Q I r ⟨ρ, σ', F, ds, QQ, rel, br, wp, fin⟩
  have hh := I.ok.hd hX.calm
  have un := hX.room.un
  match ds, br, wp with
  | [.int i, .int j], br, wp =>
    obtain ⟨x, y, rfl, b, c⟩ := brs2 br
    cases b.int; cases c.int
    exact call_max2 hX.calm pins s σ H _ us Q I r ⟨i, j, rfl, fin _ _ _ _ (.flat rel .refl (.int _)) wp⟩
  | [.lst xs], br, wp =>
    obtain ⟨x, rfl, b⟩ := brs1 br
    obtain ⟨is, h1, h2, h3⟩ := wp
    obtain ⟨u, rfl, ru⟩ := vals1 r
    obtain ⟨a, its, as, rfl, hl, ra⟩ := seq_ints (isT := false) hX.K I rel.sub b ru h1
    match is, h2 with
    | i :: is, _ =>
      refine PySem.W.max_list_data (x := .int i) (xs := is.map .int) hh hl (by simpa using ra) (ints_alike (i :: is)) ?_ fun _ v h' tk bs _ rd hk => ?_
      · have := (ints_lay (i :: is)).2
        simp only [List.map_cons] at this
        rw [this]; omega
      · rw [PySem.W.maxD_ints] at rd
        exact ⟨_, H, I.kept hk, read_int rd, fin _ _ _ _ (.flat rel .refl (.int _)) h3⟩
  | [.tup xs], br, wp =>
    obtain ⟨x, rfl, b⟩ := brs1 br
    obtain ⟨is, h1, h2, h3⟩ := wp
    obtain ⟨u, rfl, ru⟩ := vals1 r
    obtain ⟨a, its, as, rfl, hl, ra⟩ := seq_ints (isT := true) hX.K I rel.sub b ru h1
    match is, h2 with
    | i :: is, _ =>
      refine PySem.W.max_tuple_data (x := .int i) (xs := is.map .int) hh hl (by simpa using ra) (ints_alike (i :: is)) ?_ fun _ v h' tk bs _ rd hk => ?_
      · have := (ints_lay (i :: is)).2
        simp only [List.map_cons] at this
        rw [this]; omega
      · rw [PySem.W.maxD_ints] at rd
        exact ⟨_, H, I.kept hk, read_int rd, fin _ _ _ _ (.flat rel .refl (.int _)) h3⟩
/-! ### tuple(..), list(..), range(..) -/
theorem rs_rng {F : Hp} (lo hi : Int) : Rs k F (rgV lo hi) (rngL lo hi) := by
  unfold rgV rngL
  induction List.range (hi - lo).toNat with
  | nil => exact .nil
  | cons n l ih => exact .cons (.int _) ih
theorem rng_at {pins : List (Addr × Obj)} {s : Shared} {σ : L2.St} {H : Hp} {a : Addr} {lo hi : Int} (I : Inv X pins σ H s) (h : H a = some (.rng lo hi)) : ∃ t u v, IsRange s.heap a lo hi 1 t u v := by
  obtain ⟨t, u, v, e⟩ : ObjOk X.prog X.w H s.heap a (.rng lo hi) := I.hok a _ h
  exact ⟨t, u, v, e⟩
theorem cb_tuple (hX : XOk X k) : CallR X (.type "tuple") (rBlt k (bltP .tuple)) := by
  intro pins s σ H xs us Q I r ⟨ρ, σ', F, ds, QQ, rel, br, wp, fin⟩
  have hK := hX.K
  match ds, br, wp with
  | [.lst xs], br, wp =>
    obtain ⟨x, rfl, b⟩ := brs1 br
    obtain ⟨a, vs, rfl, t, q⟩ := b.lst rel.sub
    exact tuple_ofF pins s σ H _ us Q I r ⟨a, vs, rfl, .inl ⟨.of t, newT rel q fun v F' H' p => fin _ _ _ _ p wp⟩⟩
  | [.tup xs], br, wp =>
    obtain ⟨x, rfl, b⟩ := brs1 br
    obtain ⟨a, vs, rfl, t, q⟩ := b.tup
    have sq := (t.mono rel.sub).sq
    rw [hK] at sq
    exact tuple_ofF pins s σ H _ us Q I r ⟨a, vs, rfl, .inr ⟨sq, fin _ _ _ _ (.flat rel .refl (.tup t q)) wp⟩⟩
  | [.rng lo hi], br, wp =>
    obtain ⟨x, rfl, b⟩ := brs1 br
    obtain ⟨a, rfl, t, ⟨l1, l2⟩, h1, h2⟩ := b.rng
    obtain ⟨u, rfl, ru⟩ := vals1 r
    cases ru
    obtain ⟨hn, q⟩ := wp
    obtain ⟨t1, t2, t3, hr⟩ := rng_at I (rel.sub _ _ t)
    refine call_tuple_range (n := (hi - lo).toNat) (I.ok.hd hX.calm) hr (small_one l1 l2 h1 h2) (rangeSize_nat lo hi) hn fun h' tk acc hk hi' => ?_
    have I2 : Inv X pins σ H { s with heap := h', toks := tk } := I.kept hk
    have hz : (rgV lo hi).length ≤ sizeLine := by rw [rgV_length, sizeLine_eq]; omega
    have I3 := laidT (t' := tk) I2 (vals_rg hi') hz
    have e : (acc.toList.toArray : Array Value) = acc := by simp
    unfold tupObj at I3
    rw [e] at I3
    exact ⟨.ref h'.objs.size, _, I3, rfl, newT rel (rs_rng lo hi) (fun v F' H' p => fin _ _ _ _ p q) _ _ (I2.hok.fresh (Nat.le_refl _)) rfl⟩
theorem rk_keys {F : Hp} : ∀ {es : List DictEntry} {kvs : List (D × D)}, RKs k F es kvs → ∃ vs, Rs k F vs (kvs.map (·.1)) ∧ Vals vs (es.map (·.key))
  | _, _, .nil => ⟨[], .nil, .nil⟩
  | _, _, .cons r1 r2 _ _ _ _ _ r => by
    obtain ⟨vs, h1, h2⟩ := rk_keys r
    exact ⟨_ :: vs, .cons r2 h1, .cons r1 h2⟩
theorem cb_list (hX : XOk X k) : CallR X (.type "list") (rBlt k (bltP .list)) := by
  intro pins s σ H xs us Q I r ⟨ρ, σ', F, ds, QQ, rel, br, wp, fin⟩
  have hK := hX.K
  match ds, br, wp with
  | [.lst xs], br, wp =>
    obtain ⟨x, rfl, b⟩ := brs1 br
    obtain ⟨a, vs, rfl, t, q⟩ := b.lst rel.sub
    exact call_list_of pins s σ H _ us Q I r ⟨a, vs, rfl, .inl (.of t), fun l hn => fin _ _ _ _ (.newL rel .refl hn q) wp⟩
  | [.tup xs], br, wp =>
    obtain ⟨x, rfl, b⟩ := brs1 br
    obtain ⟨a, vs, rfl, t, q⟩ := b.tup
    have sq := (t.mono rel.sub).sq
    rw [hK] at sq
    exact call_list_of pins s σ H _ us Q I r ⟨a, vs, rfl, .inr sq, fun l hn => fin _ _ _ _ (.newL rel .refl hn q) wp⟩
  | [.rng lo hi], br, wp =>
    obtain ⟨x, rfl, b⟩ := brs1 br
    obtain ⟨a, rfl, t, ⟨l1, l2⟩, h1, h2⟩ := b.rng
    obtain ⟨u, rfl, ru⟩ := vals1 r
    cases ru
    obtain ⟨hn, q⟩ := wp
    obtain ⟨t1, t2, t3, hr⟩ := rng_at I (rel.sub _ _ t)
    refine call_list_range (n := (hi - lo).toNat) (I.ok.hd hX.calm) hr (small_one l1 l2 h1 h2) (rangeSize_nat lo hi) hn fun h' tk acc c' hk e' hi' => ?_
    refine ⟨.ref s.heap.objs.size, upd H s.heap.objs.size (.lst (rgV lo hi)), I.laid hk (Nat.le_refl _) (show ObjOk X.prog X.w _ _ _ (.lst (rgV lo hi)) from ⟨?_, acc.toList, c', vals_rg hi', ?_⟩), rfl, fin _ _ _ _ (.newL rel .refl (I.hok.fresh (Nat.le_refl _)) (rs_rng lo hi)) q⟩
    · rw [rgV_length, sizeLine_eq]; omega
    · rw [Array.toArray_toList]; exact e'
  | [.dct kvs], br, wp =>
    obtain ⟨x, rfl, b⟩ := brs1 br
    obtain ⟨a, es, rfl, g1, g2, g3, g4⟩ := b.dct rel.sub
    obtain ⟨u, rfl, ru⟩ := vals1 r
    cases ru
    obtain ⟨o, ep, h1, h2, h3, h4, h5⟩ := dct_at I g1
    refine PySem.W.kdl_call (kdl_raw h4 h2 h3) (I.ok.hd hX.calm) h1 (by simpa using h5) fun h' tk acc' c' kp e it => ?_
    obtain ⟨vs, q1, q2⟩ := rk_keys g2
    have ea : acc'.toList = es.map (·.key) := by
      have hl : acc'.toList.length = es.length := by rw [Array.length_toList, it.1]; simp
      apply List.ext_getElem?
      intro j
      rw [List.getElem?_map]
      cases hj : acc'.toList[j]? with
      | none =>
        have := List.getElem?_eq_none_iff.mp hj
        rw [List.getElem?_eq_none (by omega)]
        rfl
      | some v =>
        obtain ⟨en, hen, hv⟩ := it.2 j v (by rw [← Array.getElem?_toList]; exact hj)
        have hen : es[j]? = some en := by simpa using hen
        rw [hen, hv]; rfl
    refine ⟨.ref s.heap.objs.size, upd H s.heap.objs.size (.lst vs), I.laid (t' := tk) kp (Nat.le_refl _) (show ObjOk X.prog X.w _ _ _ (.lst vs) from ⟨?_, acc'.toList, c', by rw [ea]; exact q2, ?_⟩), rfl, fin _ _ _ _ (.newL rel .refl (I.hok.fresh (Nat.le_refl _)) q1) wp⟩
    · rw [q1.length, List.length_map, ← g2.length]; exact h5
    · rw [Array.toArray_toList]; exact e
/-! ### isinstance -/
def tyName : Ty → String
  | .bool => "bool"
  | .int => "int"
  | .str => "str"
  | .tuple => "tuple"
  | .list => "list"
  | .dict => "dict"
def tyOfD : D → String
  | .bl _ => "bool"
  | .int _ => "int"
  | .str _ => "str"
  | .tup _ => "tuple"
  | .lst _ => "list"
  | _ => "NoneType"
theorem tyx_of {ρ : PEnv} {σ : L2.St} {F H : Hp} {x : V} {d : D} (hK : k.K = X.K) (rel : Rel k ρ σ F H) (b : BR k F H x d) (h : hasTy d = true) : TyX X.K H x (.type (tyOfD d)) := by
  cases d <;> first | (simp [hasTy] at h; done) | skip
  · cases b.non; exact .base .non
  · cases b.bl; exact .base (.bl _)
  · cases b.int; exact .base (.int _)
  · cases b.str; exact .base (.str _)
  · obtain ⟨a, vs, rfl, t, q⟩ := b.tup
    rcases t.mono rel.sub with ⟨o, ho, _⟩ | ⟨o, its, n, h1, h2, _⟩
    · exact .fTuple ho
    · rw [hK] at h1; exact .kTuple h1 h2
  · obtain ⟨a, vs, rfl, t, q⟩ := b.lst rel.sub
    exact .base (.lst t)
theorem kit_all (K : PySem.W.Frag) (d : D) (h : hasTy d = true) (t : Ty) : PySem.W.kitOne K (.type (tyOfD d)) (.type (tyName t)) = some (isTy t d) := by
  cases d <;> first | (simp [hasTy] at h; done) | skip
  all_goals cases t <;> (simp only [tyOfD, tyName, isTy]; exact kit_ty (by decide +kernel))
theorem cb_isi (hX : XOk X k) (t : Ty) : CallR X (.builtin "isinstance") (fun xs H Q => ∃ ρ σ F d x, Rel k ρ σ F H ∧ BR k F H x d ∧ xs = [x, .ty (tyName t)] ∧ hasTy d = true ∧ Q (.bl (isTy t d)) H) := by
  intro pins s σ H xs us Q I r ⟨ρ, σ', F, d, x, rel, br, e, ht, q⟩
  exact call_isi pins s σ H xs us Q I r ⟨x, .ty (tyName t), _, _, _, e, .ty _, tyx_of hX.K rel br ht, kit_all X.K d ht t, q⟩
end
end PL
/-! PL10: calls; the statements' reading: stores, sequence, if, return. -/
namespace PL
open PySem PySem.Spec PyProof.Rows L2

/-- a call has ended -/
structure CPost (k : RC) (F0 H0 : Hp) (r : RV) (dr : Nat) (v : V) (F H : Hp) : Prop where
  ins : Same F H
  sub : Same F0 F
  heap : SameX k H0 H
  there : ∀ a, H0 a ≠ none → H a ≠ none
  vis : ∀ a, H0 a ≠ none → F a = F0 a
  pool : PoolOk k F H dr
  res : RR k H0 F H v r
/-- a promise over plain data as a promise of the hand layer -/
def lift (K : PySem.W.Frag) (w : World) (sp : Spec) : Sp := fun vs H Q _ => ∃ (P : Option (Addr × Addr × Addr)) (F : Hp) (ds : List D) (dr : Nat) (QQ : RV → Nat → Prop),
  Same F H ∧ PoolOk ⟨K, w, P⟩ F H dr ∧ Rs ⟨K, w, P⟩ F vs ds ∧ sp ds dr QQ (fun _ _ => False) ∧ ∀ r dr' v F' H', CPost ⟨K, w, P⟩ F H r dr' v F' H' → QQ r dr' → Q v H'
section
variable {X : Cx} {k : RC} {C : PC}
theorem qe_call (hX : XOk X k) {f i j : Nat} {x : Str} {e : Expr} {es : List Expr} {ies : IE} {p pos : Pos} (c : C8.Cal X.prog X.w X.K X.mg X.base i x (lift X.K X.w (C.sp f)) []) (hr : Room j X.A) (hij : i ≤ j) (hg : Gl X x) (hxe : C.xe = fun _ _ => False)
    (ha : PA X (e :: es) (tA C k false ies)) (hdb : (x == ("__debug__" : Str)) = false) (he : starEach (e :: es) X.env = (false, eval e X.env) :: starEach es X.env) (hpl : (backTo pos (starEach es X.env)).any (·.1) = false) :
    PE X (.Call (.Name x p) (e :: es) [] pos) (tE C k (.call f ies)) :=
  weak (C8.pe_c c hr hij hg ha hdb he hpl) fun σ H Q ⟨ρ, F, QQ, rel, wp, fin⟩ => ⟨ρ, F, _, rel, wp, fun ds ρ1 vs F1 H1 rel1 tr1 a1 q1 => by
    have hk : (⟨X.K, X.w, k.P⟩ : RC) = k := by rw [← hX.K, ← hX.w]
    have a1 : Rs k F1 vs ds := a1
    rw [hxe] at q1
    refine ⟨k.P, F1, ds, ρ1.dr, _, rel1.sub, ?_, ?_, q1, fun r dr' v F' H' cp q => ?_⟩
    · rw [hk]; exact rel1.pool
    · rw [hk, List.append_nil]; exact a1
    · rw [hk] at cp
      have rel2 : Rel k ⟨ρ1.sl, dr'⟩ σ F' H' := rel1.grow cp.sub cp.ins cp.heap cp.vis cp.pool
      have p2 : EPost k ρ1 σ F1 H1 r v ⟨ρ1.sl, dr'⟩ F' H' := ⟨rel2, .grow cp.sub cp.heap cp.there cp.vis, cp.res⟩
      exact fin _ _ _ _ _ ((⟨rel1, tr1, .non⟩ : EPost k ρ σ F H (.val .non) .non ρ1 F1 H1).then p2) q⟩
end

/-! ### slots written -/
section
variable {k : RC} {ρ ρ' ρ1 ρ2 : PEnv} {σ σ' : L2.St} {F F1 F' F0 H H1 H' H0 G : Hp} {v : V} {d : D} {r : RV} {a : Addr} {i : Nat} {s : SV}
theorem put_oob (hi : ¬ i < ρ.sl.length) : ρ.put i s = ρ := by
  cases ρ
  unfold PEnv.put
  rw [List.set_eq_of_length_le (by simpa using hi)]
theorem Rel.store (h : Rel k ρ σ F H) (hs : SlotR k F H (some (some v)) s) (hn : s.plain = false → ∀ a, v = .ref a → ∀ j, ¬ OwnAt ρ σ j a) :
    Rel k (ρ.put i s) (σ.set i (some v)) F H ∧ ∀ j a, OwnAt (ρ.put i s) (σ.set i (some v)) j a → OwnAt ρ σ j a ∨ (s.plain = false ∧ v = .ref a ∧ j = i) := by
  by_cases hi : i < ρ.sl.length
  · have hi' : i < σ.length := by rw [← h.len]; exact hi
    have gs : (σ.set i (some v))[i]? = some (some v) := List.getElem?_set_self hi'
    have gn : ∀ j, j ≠ i → (σ.set i (some v))[j]? = σ[j]? := fun j e => List.getElem?_set_ne (Ne.symm e)
    have ow : ∀ j a, OwnAt (ρ.put i s) (σ.set i (some v)) j a → OwnAt ρ σ j a ∨ (s.plain = false ∧ v = .ref a ∧ j = i) := fun j a ⟨z1, z2⟩ => by
      rw [get_put hi] at z1
      by_cases e : j = i
      · subst e
        rw [if_pos rfl] at z1
        rw [gs] at z2
        cases z2
        exact .inr ⟨z1, rfl, rfl⟩
      · rw [if_neg e] at z1
        rw [gn j e] at z2
        exact .inl ⟨z1, z2⟩
    refine ⟨⟨by rw [put_len, List.length_set]; exact h.len, h.sub, fun j => ?_, fun j l a x y => ?_, h.pool⟩, ow⟩
    · rw [get_put hi]
      by_cases e : j = i
      · subst e; rw [if_pos rfl, gs]; exact hs
      · rw [if_neg e, gn j e]; exact h.slot j
    · rcases ow j a x with x | ⟨x1, x2, x3⟩
      · rcases ow l a y with y | ⟨y1, y2, y3⟩
        · exact h.inj j l a x y
        · exact absurd x (hn y1 a y2 j)
      · rcases ow l a y with y | ⟨y1, y2, y3⟩
        · exact absurd y (hn x1 a x2 l)
        · rw [x3, y3]
  · have hi' : ¬ i < σ.length := by rw [← h.len]; exact hi
    rw [put_oob hi, List.set_eq_of_length_le (by omega)]
    exact ⟨h, fun _ _ z => .inl z⟩
/-- a plain value -/
theorem Rel.put (h : Rel k ρ σ F H) (q : R k F v d) : Rel k (ρ.put i (.val d)) (σ.set i (some v)) F H ∧ ∀ j a, OwnAt (ρ.put i (.val d)) (σ.set i (some v)) j a → OwnAt ρ σ j a := by
  obtain ⟨h1, h2⟩ := h.store (i := i) (s := .val d) (v := v) ⟨v, rfl, q⟩ (fun z => by cases z)
  exact ⟨h1, fun j a z => (h2 j a z).elim id fun z => by cases z.1⟩
/-- slot i's own thing written -/
theorem Rel.write {o : HO} (h : Rel k ρ σ F H) (q : OwnAt ρ σ i a) (fa : F a = none) (np : ¬ inP' k a) (hs : SlotR k F (upd H a o) (some (some (.ref a))) s) :
    Rel k (ρ.put i s) σ F (upd H a o) ∧ (∀ j b, OwnAt (ρ.put i s) σ j b → OwnAt ρ σ j b) := by
  have hi : i < ρ.sl.length := get_lt fun z => by have := q.1; rw [z] at this; cases this
  have ow : ∀ j b, OwnAt (ρ.put i s) σ j b → OwnAt ρ σ j b := fun j b ⟨z1, z2⟩ => by
    by_cases e : j = i
    · subst e
      have := q.2.symm.trans z2
      cases this
      exact q
    · rw [get_put hi, if_neg e] at z1
      exact ⟨z1, z2⟩
  refine ⟨⟨by rw [put_len]; exact h.len, fun b u e => ?_, fun j => ?_, fun j l b x y => h.inj j l b (ow j b x) (ow l b y), fun p r c e => ?_⟩, ow⟩
  · rw [upd_ne (ne_of_none e fa)]; exact h.sub b u e
  · rw [get_put hi]
    by_cases e : j = i
    · subst e
      rw [if_pos rfl, q.2]
      exact hs
    · rw [if_neg e]
      have z := h.slot j
      cases eg : ρ.get j with
      | no => trivial
      | val d => rw [eg] at z; exact z
      | own xs =>
        rw [eg] at z; obtain ⟨b, e1, vs, e2, e3⟩ := z
        have ne : b ≠ a := fun y => e (h.inj j i a ⟨by rw [eg]; rfl, y ▸ e1⟩ q)
        exact ⟨b, e1, vs, (upd_ne ne).trans e2, e3⟩
      | owd xs =>
        rw [eg] at z; obtain ⟨b, e1, es, ⟨ob, ep, e2, er⟩, e3⟩ := z
        have ne : b ≠ a := fun y => e (h.inj j i a ⟨by rw [eg]; rfl, y ▸ e1⟩ q)
        exact ⟨b, e1, es, ⟨ob, ep, (upd_ne ne).trans e2, er⟩, e3⟩
  · obtain ⟨f, n, h1, ⟨rows, hr, h2⟩, m, hm, hm', h3⟩ := h.pool p r c e
    have w : ∀ b, (b = p ∨ b = r ∨ b = c) → b ≠ a := fun b z y => np ⟨p, r, c, e, y ▸ z⟩
    exact ⟨f, n, (upd_ne (w p (.inl rfl))).trans h1, ⟨rows, hr, (upd_ne (w r (.inr (.inl rfl)))).trans h2⟩, m, hm, hm', (upd_ne (w c (.inr (.inr rfl)))).trans h3⟩

/-! ### since a def's entry -/
structure STr (k : RC) (F0 H0 G : Hp) (ρ : PEnv) (σ : L2.St) (F H : Hp) : Prop where
  sub : Same F0 F
  heap : SameX k H0 H
  there : ∀ a, H0 a ≠ none → H a ≠ none
  vis : ∀ a, H0 a ≠ none → F a = F0 a
  own : ∀ i a, OwnAt ρ σ i a → H0 a = none
  mid : Same G F
theorem STr.next (t : STr k F0 H0 G ρ σ F H) (e : ETr k ρ σ F H ρ' F' H') : STr k F0 H0 G ρ' σ F' H' where
  sub := fun b o h => e.sub b o (t.sub b o h)
  heap := t.heap.trans e.heap
  there := fun a h => e.there a (t.there a h)
  vis := fun a h => (e.vis a (t.there a h) fun i z => h (t.own i a z)).trans (t.vis a h)
  own := fun i a z => t.own i a (e.own i a z)
  mid := fun b o h => e.sub b o (t.mid b o h)
theorem STr.slots (t : STr k F0 H0 G ρ σ F H) (h : ∀ j a, OwnAt ρ' σ' j a → H0 a = none) : STr k F0 H0 G ρ' σ' F H := ⟨t.sub, t.heap, t.there, t.vis, h, t.mid⟩
theorem STr.write {o : HO} (t : STr k F0 H0 G ρ σ F H) (q : H0 a = none) (h : ∀ j b, OwnAt ρ' σ j b → OwnAt ρ σ j b) : STr k F0 H0 G ρ' σ F (upd H a o) := by
  refine ⟨t.sub, fun b u e n => ?_, fun b hb => ?_, t.vis, fun j b z => t.own j b (h j b z), t.mid⟩
  · rw [upd_ne (ne_of_none e q)]; exact t.heap b u e n
  · rw [upd_ne (fun z => hb (by rw [z]; exact q))]; exact t.there b hb
theorem STr.post {r : RV} {dr : Nat} (t : STr k F0 H0 G ρ σ F H) (ins : Same F H) (pool : PoolOk k F H dr) (res : RR k H0 F H v r) : CPost k F0 H0 r dr v F H := ⟨ins, t.sub, t.heap, t.there, t.vis, pool, res⟩
/-- an expression's value to a slot -/
theorem EPost.slot {Q : SV → Prop} (h0 : Rel k ρ σ F H) (p : EPost k ρ σ F H r v ρ1 F1 H1) (h : r.slot Q) : ∃ s, Q s ∧ SlotR k F1 H1 (some (some v)) s ∧ (s.plain = false → ∀ a, v = .ref a → H a = none) := by
  have q := p.res
  cases r with
  | val d => exact ⟨_, h, ⟨v, rfl, q⟩, fun z => by cases z⟩
  | brw d => exact h.elim
  | own xs => obtain ⟨a, rfl, hn, o⟩ := q; exact ⟨_, h, ⟨a, rfl, o⟩, fun _ b e => by cases e; exact hn⟩
  | owd xs => obtain ⟨a, rfl, hn, o⟩ := q; exact ⟨_, h, ⟨a, rfl, o⟩, fun _ b e => by cases e; exact hn⟩
theorem EPost.store {i : Nat} {s : SV} (h0 : Rel k ρ σ F H) (t : STr k F0 H0 G ρ σ F H) (p : EPost k ρ σ F H r v ρ1 F1 H1) (hs : SlotR k F1 H1 (some (some v)) s) (hn : s.plain = false → ∀ a, v = .ref a → H a = none) :
    Rel k (ρ1.put i s) (σ.set i (some v)) F1 H1 ∧ STr k F0 H0 G (ρ1.put i s) (σ.set i (some v)) F1 H1 := by
  obtain ⟨x1, x2⟩ := p.rel.store (i := i) hs fun z a e j w => h0.ownH (p.tr.own j a w) (hn z a e)
  refine ⟨x1, (t.next p.tr).slots fun j a z => ?_⟩
  rcases x2 j a z with z | ⟨z1, z2, _⟩
  · exact (t.next p.tr).own j a z
  · exact none_back t.there (hn z1 a z2)
end

/-! ### statements -/
structure SEnds (k : RC) (F0 H0 G : Hp) (E : PEnds) (D : Ends) : Prop where
  nx : ∀ ρ σ F H, Rel k ρ σ F H → STr k F0 H0 G ρ σ F H → E.nx ρ → D.nx σ H
  bk : ∀ ρ σ F H, Rel k ρ σ F H → STr k F0 H0 G ρ σ F H → E.bk ρ → D.bk σ H
  ct : ∀ ρ σ F H, Rel k ρ σ F H → STr k F0 H0 G ρ σ F H → E.ct ρ → D.ct σ H
  rt : ∀ r dr v F H, CPost k F0 H0 r dr v F H → E.rt r dr → D.rt v H
def tS (C : PC) (k : RC) (b : IS) : TS := fun D σ H => ∃ ρ F F0 H0 G E, Rel k ρ σ F H ∧ STr k F0 H0 G ρ σ F H ∧ wpS C b ρ E ∧ SEnds k F0 H0 G E D
theorem weakS {X : Cx} {e : Stmt} {t t' : TS} (h : PS X e t) (w : ∀ D σ H, t' D σ H → t D σ H) : PS X e t' := ⟨fun pins s σ H D I q => h.run pins s σ H D I (w D σ H q)⟩
theorem weakSs {X : Cx} {e : List Stmt} {t t' : TS} (h : PSs X e t) (w : ∀ D σ H, t' D σ H → t D σ H) : PSs X e t' := ⟨fun pins s σ H D I q => h.run pins s σ H D I (w D σ H q)⟩
section
variable {X : Cx} {k : RC} {C : PC} {pos : Pos}
theorem qss_nil : PSs X [] (tS C k .skip) := weakSs pss_nil fun D σ H ⟨ρ, F, F0, H0, G, E, rel, tr, wp, en⟩ => en.nx _ _ _ _ rel tr wp
theorem qss_one {st : Stmt} {a : IS} (h : PS X st (tS C k a)) : PSs X [st] (tS C k a) := pss_one h
theorem qss_cons {st : Stmt} {rest : List Stmt} {a b : IS} (h1 : PS X st (tS C k a)) (h2 : PSs X rest (tS C k b)) : PSs X (st :: rest) (tS C k (.seq a b)) :=
  weakSs (pss_cons h1 h2) fun D σ H ⟨ρ, F, F0, H0, G, E, rel, tr, wp, en⟩ => ⟨ρ, F, F0, H0, G, _, rel, tr, wp, ⟨fun ρ' σ' F' H' rel' tr' wp' => ⟨ρ', F', F0, H0, G, E, rel', tr', wp', en⟩, en.bk, en.ct, en.rt⟩⟩
theorem qs_pass : PS X (.Pass pos) (tS C k .skip) := weakS ps_pass fun D σ H ⟨ρ, F, F0, H0, G, E, rel, tr, wp, en⟩ => en.nx _ _ _ _ rel tr wp
theorem qs_brk : PS X (.Break pos) (tS C k .brk) := weakS ps_break fun D σ H ⟨ρ, F, F0, H0, G, E, rel, tr, wp, en⟩ => en.bk _ _ _ _ rel tr wp
theorem qs_cnt : PS X (.Continue pos) (tS C k .cnt) := weakS ps_continue fun D σ H ⟨ρ, F, F0, H0, G, E, rel, tr, wp, en⟩ => en.ct _ _ _ _ rel tr wp
theorem qs_doc {x j pos pos'} : PS X (.Expr (.Constant (.str x) j pos) pos') (tS C k .skip) := weakS ps_doc fun D σ H ⟨ρ, F, F0, H0, G, E, rel, tr, wp, en⟩ => en.nx _ _ _ _ rel tr wp
theorem qs_ex {e : Expr} {ie : IE} (he : PE X e (tE C k ie)) (hs : swapsWith e none pos.line X.env = pure false) : PS X (.Expr e pos) (tS C k (.ex ie)) :=
  weakS (ps_expr he hs) fun D σ H ⟨ρ, F, F0, H0, G, E, rel, tr, wp, en⟩ => ⟨ρ, F, _, rel, wp, fun r ρ' v F' H' p q => en.nx _ _ _ _ p.rel (tr.next p.tr) q⟩
theorem qs_ret {e : Expr} {ie : IE} (he : PE X e (tE C k ie)) : PS X (.Return (some e) pos) (tS C k (.ret ie)) :=
  weakS (ps_ret he) fun D σ H ⟨ρ, F, F0, H0, G, E, rel, tr, wp, en⟩ => ⟨ρ, F, _, rel, wp, fun r ρ' v F' H' p q => by
    refine en.rt r _ v F' H' ((tr.next p.tr).post p.rel.sub p.rel.pool ?_) q
    have z := p.res
    cases r with
    | val d => exact z
    | brw d => exact z
    | own xs => obtain ⟨a, e, n, o⟩ := z; exact ⟨a, e, none_back tr.there n, o⟩
    | owd xs => obtain ⟨a, e, n, o⟩ := z; exact ⟨a, e, none_back tr.there n, o⟩⟩
theorem qs_ret0 : PS X (.Return none pos) (tS C k .ret0) :=
  weakS ps_retN fun D σ H ⟨ρ, F, F0, H0, G, E, rel, tr, wp, en⟩ => en.rt (.val .non) _ _ _ _ (tr.post rel.sub rel.pool (show R k F .non .non from .non)) wp
theorem qs_reto {e : Expr} {i : Nat} (he : PE X e (tVar i)) : PS X (.Return (some e) pos) (tS C k (.reto i)) :=
  weakS (ps_ret he) fun D σ H ⟨ρ, F, F0, H0, G, E, rel, tr, wp, en⟩ => by
    have wp : (match ρ.get i with | .own xs => E.rt (.own xs) ρ.dr | .owd kvs => E.rt (.owd kvs) ρ.dr | _ => False) := wp
    cases e : ρ.get i with
    | no => rw [e] at wp; exact wp.elim
    | val d => rw [e] at wp; exact wp.elim
    | own xs =>
      rw [e] at wp
      obtain ⟨a, h1, h2⟩ := slot_own rel e
      exact ⟨_, h1, en.rt _ _ _ _ _ (tr.post rel.sub rel.pool (show RR k H0 F H _ (.own xs) from ⟨a, rfl, tr.own i a ⟨by rw [e]; rfl, h1⟩, h2⟩)) wp⟩
    | owd xs =>
      rw [e] at wp
      obtain ⟨a, h1, h2⟩ := slot_owd rel e
      exact ⟨_, h1, en.rt _ _ _ _ _ (tr.post rel.sub rel.pool (show RR k H0 F H _ (.owd xs) from ⟨a, rfl, tr.own i a ⟨by rw [e]; rfl, h1⟩, h2⟩)) wp⟩
theorem qs_if {c : Expr} {a b : List Stmt} {ic : IE} {ia ib : IS} (hc : PT X c (tT C k ic)) (ha : PSs X a (tS C k ia)) (hb : PSs X b (tS C k ib)) : PS X (.If c a b pos) (tS C k (.ifs ic ia ib)) :=
  weakS (ps_if hc ha hb) fun D σ H ⟨ρ, F, F0, H0, G, E, rel, tr, wp, en⟩ => ⟨ρ, F, _, rel, wp, fun c ρ' F' H' rel' tr' q => by
    obtain ⟨c', ec, q⟩ := q
    cases ec
    cases c with
    | true => rw [brn_ite, if_pos rfl] at q; rw [if_pos rfl]; exact ⟨ρ', F', F0, H0, G, E, rel', tr.next tr', q, en⟩
    | false => rw [brn_ite, if_neg Bool.false_ne_true] at q; rw [if_neg Bool.false_ne_true]; exact ⟨ρ', F', F0, H0, G, E, rel', tr.next tr', q, en⟩⟩
theorem qs_set {i : Nat} {x : Str} {e : Expr} {ie : IE} {pos' : Pos} (hN : X.N.Nodup) (hi : X.N[i]? = some x) (hx : Loc X.env.scope x) (he : PE X e (tE C k ie)) (hs : swapsWith e (some (.Name x pos')) pos.line X.env = pure false) (hf : X.fn x = true ∨ X.env.scope.names.lookup x = some .local) :
    PS X (.Assign [.Name x pos'] e pos) (tS C k (.asg (.nm i) ie)) :=
  weakS (ps_set hN hi hx he hs hf) fun D σ H ⟨ρ, F, F0, H0, G, E, rel, tr, wp, en⟩ => ⟨ρ, F, _, rel, wp, fun r ρ' v F' H' p q => by
    obtain ⟨s, q1, q2, q3⟩ := p.slot rel q
    obtain ⟨x1, x2⟩ := p.store (i := i) rel tr q2 q3
    exact en.nx _ _ _ _ x1 x2 q1⟩
end
end PL
/-! PL11: a slot's own list or dict written; targets. -/
namespace PL
open PySem PySem.Spec PyProof.Rows L2
section
variable {X : Cx} {k : RC} {C : PC} {pos : Pos}
/-- where a slot's own list stands, all along an expression -/
theorem own_before {ρ ρ1 : PEnv} {σ : L2.St} {F F1 H H1 : Hp} {i : Nat} (rel : Rel k ρ σ F H) (h : (ρ.get i).isO = true) : ∃ a xs vs, ρ.get i = .own xs ∧ σ[i]? = some (some (.ref a)) ∧ H a = some (.lst vs) := by
  cases e : ρ.get i with
  | own xs =>
    obtain ⟨a, h1, vs, h2, _⟩ := slot_own rel e
    exact ⟨a, xs, vs, rfl, h1, h2⟩
  | _ => rw [e] at h; cases h
theorem own_after {ρ1 : PEnv} {σ : L2.St} {F1 H1 : Hp} {i : Nat} {a : Addr} {xs : List D} (rel1 : Rel k ρ1 σ F1 H1) (hi : σ[i]? = some (some (.ref a))) (e : ρ1.get i = .own xs) : OwnAt ρ1 σ i a ∧ OwnL k F1 H1 a xs := by
  obtain ⟨b, h1, h2⟩ := slot_own rel1 e
  have := hi.symm.trans h1
  cases this
  exact ⟨⟨by rw [e]; rfl, hi⟩, h2⟩
theorem owd_after {ρ1 : PEnv} {σ : L2.St} {F1 H1 : Hp} {i : Nat} {a : Addr} {xs : List (D × D)} (rel1 : Rel k ρ1 σ F1 H1) (hi : σ[i]? = some (some (.ref a))) (e : ρ1.get i = .owd xs) : OwnAt ρ1 σ i a ∧ OwnDk k F1 H1 a xs := by
  obtain ⟨b, h1, h2⟩ := slot_owd rel1 e
  have := hi.symm.trans h1
  cases this
  exact ⟨⟨by rw [e]; rfl, hi⟩, h2⟩
/-- the slot's own list becomes ys -/
theorem write_own {ρ : PEnv} {σ : L2.St} {F H F0 H0 G : Hp} {i : Nat} {a : Addr} {xs ys : List D} {ws : List V} (rel : Rel k ρ σ F H) (tr : STr k F0 H0 G ρ σ F H) (q : OwnAt ρ σ i a) (o : OwnL k F H a xs) (r : Rs k F ws ys) :
    Rel k (ρ.put i (.own ys)) σ F (upd H a (.lst ws)) ∧ STr k F0 H0 G (ρ.put i (.own ys)) σ F (upd H a (.lst ws)) ∧ OwnAt (ρ.put i (.own ys)) σ i a := by
  obtain ⟨vs, h1, h2, h3, h4⟩ := o
  have hi : i < ρ.sl.length := get_lt fun z => by have := q.1; rw [z] at this; cases this
  obtain ⟨x1, x2⟩ := rel.write (s := .own ys) (o := .lst ws) q h2 h3 ⟨a, rfl, ws, upd_same, h2, h3, r⟩
  exact ⟨x1, tr.write (tr.own i a q) x2, by rw [get_put hi, if_pos rfl]; rfl, q.2⟩
theorem write_owd {ρ : PEnv} {σ : L2.St} {F H F0 H0 G : Hp} {i : Nat} {a : Addr} {xs ys : List (D × D)} {es : List DictEntry} {o' : Obj} (rel : Rel k ρ σ F H) (tr : STr k F0 H0 G ρ σ F H) (q : OwnAt ρ σ i a) (o : OwnDk k F H a xs) (da : DctAt (upd H a (exO a o')) a es)
    (r : RKs k F es ys) (n : (ys.map fun p => nk p.1).Nodup) (u : ∀ p ∈ ys, ∀ q ∈ ys, scal p.1 = scal q.1) :
    Rel k (ρ.put i (.owd ys)) σ F (upd H a (exO a o')) ∧ STr k F0 H0 G (ρ.put i (.owd ys)) σ F (upd H a (exO a o')) := by
  obtain ⟨vs, h1, h2, h3, h4⟩ := o
  obtain ⟨x1, x2⟩ := rel.write (s := .owd ys) (o := exO a o') q h2 h3 ⟨a, rfl, es, da, h2, h3, r, n, u⟩
  exact ⟨x1, tr.write (tr.own i a q) x2⟩
theorem qs_app {i : Nat} {eo e : Expr} {ie : IE} {apos cpos : Pos} (ho : PE X eo (tVar i)) (he : PE X e (tE C k ie)) (hsw : swapsWith (.Call (.Attribute eo "append" apos) [e] [] cpos) none pos.line X.env = pure false)
    (hbase : attributeBase eo "append" X.env (eval eo X.env) = eval eo X.env)
    (hfew : ((backTo cpos (starEach [e] X.env)).all (fun x => !x.1) && (backToKw cpos (keywordEach [] X.env)).all (fun x => x.1.isSome)
      && decide ([e].length + ([] : List Keyword).length + (if ([] : List Keyword).isEmpty then 0 else 1) < 30)) = true)
    (hline : (apos.endLine == cpos.line) = true) (hs : starEach [e] X.env = (false, eval e X.env) :: starEach [] X.env) :
    PS X (.Expr (.Call (.Attribute eo "append" apos) [e] [] cpos) pos) (tS C k (.app i ie)) :=
  weakS (ps_expr (pe_bm (id := "list.append") F.plainAttrs_list F.slot_list_append F.type_list_append mt_append ho (pa_cons he pa_nil hs) hbase hfew hline hs rfl) hsw) fun D σ H ⟨ρ, F, F0, H0, G, E, rel, tr, ⟨w0, wp⟩, en⟩ => by
    obtain ⟨a, xs0, vs0, e0, hi, hv0⟩ := own_before (ρ1 := ρ) (F1 := F) (H1 := H) rel w0
    refine ⟨_, hi, .inl ⟨rfl, vs0, .of hv0⟩, ρ, F, _, rel, wp, fun r ρ1 v F1 H1 p q => ?_⟩
    obtain ⟨d, F2, q, e2, rd, rel2, tr2⟩ := p.keep rel q
    obtain ⟨xs, q1, q2, q3⟩ := q
    obtain ⟨o1, o2⟩ := own_after rel2 hi q1
    obtain ⟨vs, v1, v2, v3, v4⟩ := id o2
    refine ⟨a, vs, v, rfl, rfl, v1, by rw [v4.length]; exact q2, ?_⟩
    obtain ⟨x1, x2, _⟩ := write_own rel2 (tr.next tr2) o1 o2 (v4.append (.cons rd .nil))
    exact en.nx _ _ _ _ x1 x2 q3
/-- o[i] = v -/
def rSet (X : Cx) (k : RC) : TSet := fun o i v H Q => rSetL o i v H Q ∨ ∃ a es F kvs kd vd, o = .ref a ∧ Same F H ∧ DctAt H a es ∧ RKs k F es kvs ∧ (kvs.map fun p => nk p.1).Nodup ∧ R k F i kd ∧ keyOk kvs kd = true ∧ kvs.length < sizeLine ∧ R k F v vd ∧
  ∀ es' o', DctAt (upd H a (exO a o')) a es' → RKs k F es' (putD kvs kd vd) → ((putD kvs kd vd).map fun p => nk p.1).Nodup → (∀ p ∈ putD kvs kd vd, ∀ q ∈ putD kvs kd vd, scal p.1 = scal q.1) → Q (upd H a (exO a o'))
theorem set_any (hX : XOk X k) : PSet X (rSet X k) := by
  intro pins s σ H o i v ov iv u Q I ro ri rv h
  rcases h with h | ⟨a, es, F, kvs, kd, vd, rfl, sub, da, rk, nd, rkd, ok, hz, rvd, fin⟩
  · exact set_list pins s σ H o i v ov iv u Q I ro ri rv h
  · cases ro
    exact d_set hX I sub da rk nd rkd ri ok hz rv rvd fun s' es' o' I' d1 d2 d3 d4 => ⟨_, I', fin es' o' d1 d2 d3 d4⟩
theorem qs_asgS (hX : XOk X k) {i : Nat} {eo ek e : Expr} {ik ie : IE} {tp : Pos} (ho : PE X eo (tVar i)) (hk : PE X ek (tE C k ik)) (he : PE X e (tE C k ie))
    (ha : ∀ v, assign (.Subscript eo ek tp) X.env v = (do
      let ov ← holding [v] (eval eo X.env)
      let iv ← holding [v, ov] (eval ek X.env)
      standAt tp
      holding [v, ov, iv] (setItem ov iv v)
      release [v, ov, iv] []))
    (hs : swapsWithSole [.Subscript eo ek tp] e pos.line X.env = pure false) (hw : swappedStores [.Subscript eo ek tp] e X.env = pure none) (h1 : (assignEach [.Subscript eo ek tp] X.env).map (·.2) = [assign (.Subscript eo ek tp) X.env]) :
    PS X (.Assign [.Subscript eo ek tp] e pos) (tS C k (.asgS i ik ie)) :=
  weakS (ps_asg he (pg_sub ho hk (set_any hX) ha) hs hw h1) fun D σ H ⟨ρ, F, F0, H0, G, E, rel, tr, wp, en⟩ => ⟨ρ, F, _, rel, wp, fun r ρ1 v F1 H1 p q => by
    obtain ⟨d, F2, q, e2, rd, rel2, tr2⟩ := p.keep rel q
    -- the slot holds its own thing all along
    have key : ∃ o, σ[i]? = some (some o) ∧ tE C k ik σ H1 (fun i' H2 => rSet X k o i' v H2 fun H3 => D.nx σ H3) := by
      have hh : ∀ o, σ[i]? = some (some o) → tE C k ik σ H1 (fun i' H2 => rSet X k o i' v H2 fun H3 => D.nx σ H3) := fun o ho => by
        refine ⟨ρ1, F2, _, rel2, q.2, fun kr ρ2 kv F3 H2 pk q => ?_⟩
        cases e : ρ2.get i with
        | no => rw [e] at q; exact q.elim
        | val d => rw [e] at q; exact q.elim
        | own xs =>
          rw [e] at q
          obtain ⟨n, j, q1, q2, q3⟩ := q
          obtain ⟨a, h1, _⟩ := slot_own pk.rel e
          have := ho.symm.trans h1
          cases this
          obtain ⟨o1, o2⟩ := own_after pk.rel h1 e
          obtain ⟨vs, v1, v2, v3, v4⟩ := id o2
          have l := pk.lent
          rw [q1] at l
          obtain ⟨x1, x2, _⟩ := write_own pk.rel ((tr.next tr2).next pk.tr) o1 o2 (v4.set j (rd.mono pk.tr.sub))
          exact .inl ⟨a, vs, n, j, rfl, l.int, v1, by rw [v4.length]; exact q2, en.nx _ _ _ _ x1 x2 q3⟩
        | owd kvs =>
          rw [e] at q
          obtain ⟨kd, F4, ⟨q1, q2, q3⟩, e5, rk, rel4, tr4⟩ := pk.keep rel2 q
          obtain ⟨a, h1, _⟩ := slot_owd rel4 e
          have := ho.symm.trans h1
          cases this
          obtain ⟨o1, o2⟩ := owd_after rel4 h1 e
          obtain ⟨es, d1, d2, d3, d4, d5, d6⟩ := id o2
          refine .inr ⟨a, es, F4, kvs, kd, d, rfl, rel4.sub, d1, d4, d5, rk, q1, q2, rd.mono tr4.sub, fun es' o' g1 g2 g3 g4 => ?_⟩
          obtain ⟨x1, x2⟩ := write_owd rel4 ((tr.next tr2).next tr4) o1 o2 g1 g2 g3 g4
          exact en.nx _ _ _ _ x1 x2 q3
      obtain ⟨m, hm⟩ : ∃ m, σ[i]? = some (some m) := by
        obtain ⟨b, h1, _⟩ := SlotR.here (x := none) (rel2.slot i) q.1
        exact ⟨_, h1⟩
      exact ⟨m, hm, hh m hm⟩
    exact key⟩
/-! ### line = line + (left.pop(..),) -/
theorem qs_popT {i j : Nat} {x : Str} {ek eo e : Expr} {ie : IE} {px bp tp apos cpos : Pos} {kk : Nat} (hX : XOk X k) (hN : X.N.Nodup) (hj : X.N[j]? = some x) (hx : Loc X.env.scope x) (hf : X.fn x = true ∨ X.env.scope.names.lookup x = some .local)
    (hk : PE X ek (tVar j)) (ho : PE X eo (tVar i)) (he : PE X e (tE C k ie))
    (hsw : swapsWith (.BinOp ek .Add (.Tuple [.Call (.Attribute eo "pop" apos) [e] [] cpos] kk tp) bp) (some (.Name x px)) pos.line X.env = pure false)
    (hbase : attributeBase eo "pop" X.env (eval eo X.env) = eval eo X.env)
    (hfew : ((backTo cpos (starEach [e] X.env)).all (fun x => !x.1) && (backToKw cpos (keywordEach [] X.env)).all (fun x => x.1.isSome)
      && decide ([e].length + ([] : List Keyword).length + (if ([] : List Keyword).isEmpty then 0 else 1) < 30)) = true)
    (hline : (apos.endLine == cpos.line) = true) (hs : starEach [e] X.env = (false, eval e X.env) :: starEach [] X.env)
    (hs2 : starEach [.Call (.Attribute eo "pop" apos) [e] [] cpos] X.env = (false, eval (.Call (.Attribute eo "pop" apos) [e] [] cpos) X.env) :: starEach [] X.env) :
    PS X (.Assign [.Name x px] (.BinOp ek .Add (.Tuple [.Call (.Attribute eo "pop" apos) [e] [] cpos] kk tp) bp) pos) (tS C k (.popT j i ie)) :=
  weakS (ps_set hN hj hx (pe_op (op_catF) hk (pe_tupF (pa_cons (pe_bm (id := "list.pop") F.plainAttrs_list F.slot_list_pop F.type_list_pop mt_popAt ho (pa_cons he pa_nil hs) hbase hfew hline hs rfl) pa_nil hs2))) hsw hf)
    fun D σ H ⟨ρ, F, F0, H0, G, E, rel, tr, ⟨ts, et, w0, wp⟩, en⟩ => by
    obtain ⟨tv, ht, rt⟩ := slot_val rel et
    obtain ⟨a, xs0, vs0, e0, hi, hv0⟩ := own_before (ρ1 := ρ) (F1 := F) (H1 := H) rel w0
    refine ⟨tv, ht, _, hi, .inl ⟨rfl, vs0, .of hv0⟩, ρ, F, _, rel, wp, fun r ρ1 v F1 H1 p q => ?_⟩
    obtain ⟨xs, n, m, d, q1, q2, q3, q4, q5, q6, q7⟩ := q
    obtain ⟨o1, o2⟩ := own_after p.rel hi q1
    obtain ⟨vs, v1, v2, v3, v4⟩ := id o2
    have l := p.lent
    rw [q2] at l
    have hseq := (ixN_seq q4).1
    rw [← v4.length] at hseq
    obtain ⟨y, y1, y2⟩ := v4.get q5
    obtain ⟨x1, x2, x3⟩ := write_own p.rel (tr.next p.tr) o1 o2 (v4.eraseIdx m)
    obtain ⟨b1, b2⟩ := q3
    refine ⟨a, vs, n, m, y, rfl, by rw [l.int], v1, by omega, by omega, hseq, y1, ?_⟩
    refine ⟨by show 1 ≤ sizeLine; decide, newT x1 (.cons y2 .nil) fun w F3 H3 p3 => ?_⟩
    have rt3 : R k F3 tv (.tup ts) := (rt.mono p.tr.sub).mono p3.tr.sub
    have rw3 : R k F3 w (.tup [d]) := p3.res
    have tr3 := x2.next p3.tr
    have hK := hX.K
    cases rt3 with
    | tup ta ra =>
      cases rw3 with
      | tup tb rb =>
        have sq1 := (ta.mono p3.rel.sub).sq
        have sq2 := (tb.mono p3.rel.sub).sq
        rw [hK] at sq1 sq2
        have fin : ∀ {v F' H'}, EPost k (ρ1.put i (.own (xs.eraseIdx m))) σ F3 H3 (.val (.tup (ts ++ [d]))) v (ρ1.put i (.own (xs.eraseIdx m))) F' H' → gName j v σ H' D.nx := fun {v F' H'} p4 => by
          obtain ⟨z1, z2⟩ := p4.rel.put (i := j) (p4.res : R k F' v (.tup (ts ++ [d])))
          exact en.nx _ _ _ _ z1 ((tr3.next p4.tr).slots fun j a z => (tr3.next p4.tr).own j a (z2 j a z)) q7
        refine ⟨_, _, _, _, rfl, rfl, sq1, sq2, by rw [ra.length, rb.length]; exact q6, fun z => ?_, fun _ z => ?_, fun _ _ => newT p3.rel (ra.append rb) fun v F' H' p => fin p⟩
        · subst z
          have := rs_nil' ra
          subst this
          exact fin (.flat p3.rel .refl (.tup tb rb))
        · subst z
          have := rs_nil' rb
          cases this
end
/-! ### targets -/
/-- a value to be laid into a target; where the target unpacks it, it may be a tuple that stands for the moment alone -/
def TgV (k : RC) (F H : Hp) (t : Tg) (v : V) (d : D) : Prop := R k F v d ∨ ∃ is T vs ds, t = .tp is ∧ v = .ref T ∧ d = .tup ds ∧ H T = some (.tup vs) ∧ Rs k F vs ds
structure TgTr (t : Tg) (ρ : PEnv) (σ : L2.St) (ρ' : PEnv) (σ' : L2.St) : Prop where
  own : ∀ i a, OwnAt ρ' σ' i a → OwnAt ρ σ i a
  wp : ∀ vs, (∀ i ∈ t.slots, i ∈ vs) → L2.wipe σ' vs = L2.wipe σ vs
  wr : ∀ vs, (∀ i ∈ t.slots, i ∈ vs) → ρ'.wipe vs = ρ.wipe vs
  dr : ρ'.dr = ρ.dr
def tG (k : RC) (t : Tg) : TG := fun v σ H Q => ∃ ρ F d QQ, Rel k ρ σ F H ∧ TgV k F H t v d ∧ tgP t d ρ QQ ∧ ∀ ρ' σ', Rel k ρ' σ' F H → TgTr t ρ σ ρ' σ' → QQ ρ' → Q σ' H
theorem weakG {X : Cx} {e : Expr} {t t' : TG} (h : PG X e t) (w : ∀ v σ H Q, t' v σ H Q → t v σ H Q) : PG X e t' := ⟨fun pins s σ H v u Q I r q => h.run pins s σ H v u Q I r (w v σ H Q q)⟩
theorem wipe_get {σ : L2.St} {j : Nat} : ∀ {vs : List Nat}, (L2.wipe σ vs)[j]? = if j ∈ vs then (if j < σ.length then some none else none) else σ[j]?
  | [] => by simp [L2.wipe]
  | v :: vs => by
    unfold L2.wipe
    have ih := @wipe_get σ j vs
    by_cases e : v = j
    · subst e
      rw [if_pos List.mem_cons_self]
      by_cases h : v < σ.length
      · rw [if_pos h, List.getElem?_set_self (by rw [wipe_length]; exact h)]
      · rw [if_neg h, List.getElem?_eq_none (by rw [List.length_set, wipe_length]; omega)]
    · rw [List.getElem?_set_ne e, ih]
      have : (j ∈ v :: vs) ↔ j ∈ vs := by simp [Ne.symm e]
      simp only [this]
theorem wipe_set {σ : L2.St} {i : Nat} {x : Option V} {vs : List Nat} (h : i ∈ vs) : L2.wipe (σ.set i x) vs = L2.wipe σ vs := by
  apply List.ext_getElem?
  intro j
  rw [wipe_get, wipe_get, List.length_set]
  by_cases e : j ∈ vs
  · rw [if_pos e, if_pos e]
  · rw [if_neg e, if_neg e, List.getElem?_set_ne (show i ≠ j from fun z => e (by rw [← z]; exact h))]
theorem pwipe_get {l : List SV} {j : Nat} : ∀ {vs : List Nat} {l : List SV}, (vs.foldl (fun l i => l.set i SV.no) l)[j]? = if j ∈ vs then (if j < l.length then some .no else none) else l[j]?
  | [], l => by simp
  | v :: vs, l => by
    rw [List.foldl_cons, @pwipe_get l j vs (l.set v .no), List.length_set]
    by_cases e : v = j
    · subst e
      by_cases m : v ∈ vs
      · rw [if_pos m, if_pos List.mem_cons_self]
      · rw [if_neg m, if_pos List.mem_cons_self]
        by_cases h : v < l.length
        · rw [if_pos h, List.getElem?_set_self h]
        · rw [if_neg h, List.getElem?_eq_none (by rw [List.length_set]; omega)]
    · have : (j ∈ v :: vs) ↔ j ∈ vs := by simp [Ne.symm e]
      simp only [this, List.getElem?_set_ne e]
theorem pwipe_put {ρ : PEnv} {i : Nat} {x : SV} {vs : List Nat} (h : i ∈ vs) : (ρ.put i x).wipe vs = ρ.wipe vs := by
  unfold PEnv.wipe PEnv.put
  congr 1
  apply List.ext_getElem?
  intro j
  rw [pwipe_get (l := []), pwipe_get (l := []), List.length_set]
  by_cases e : j ∈ vs
  · rw [if_pos e, if_pos e]
  · rw [if_neg e, if_neg e, List.getElem?_set_ne (show i ≠ j from fun z => e (by rw [← z]; exact h))]
section
variable {X : Cx} {k : RC} {pos : Pos}
theorem qg_nm {i : Nat} {x : Str} (hN : X.N.Nodup) (hi : X.N[i]? = some x) (hx : Loc X.env.scope x) (hf : X.fn x = true ∨ X.env.scope.names.lookup x = some .local) : PG X (.Name x pos) (tG k (.nm i)) :=
  weakG (pg_name hN hi hx hf) fun v σ H Q ⟨ρ, F, d, QQ, rel, tv, wp, fin⟩ => by
    rcases tv with r | ⟨_, _, _, _, e, _⟩
    · obtain ⟨x1, x2⟩ := rel.put (i := i) r
      exact fin _ _ x1 ⟨x2, fun vs h => wipe_set (h i (by simp [Tg.slots])), fun vs h => pwipe_put (h i (by simp [Tg.slots])), rfl⟩ wp
    · cases e
inductive NmAll (X : Cx) : List Expr → List Nat → Prop
  | nil : NmAll X [] []
  | cons {x : Str} {p : Pos} {i : Nat} {es : List Expr} {is : List Nat} : X.N[i]? = some x → Loc X.env.scope x → (X.fn x = true ∨ X.env.scope.names.lookup x = some .local) → NmAll X es is → NmAll X (.Name x p :: es) (i :: is)
def gAll : List Nat → TGs
  | [] => gNil
  | i :: is => gCons (gName i) (gAll is)
theorem pgs_all (hN : X.N.Nodup) : ∀ {es : List Expr} {is : List Nat}, NmAll X es is → PGs X es (gAll is)
  | _, _, .nil => pgs_nil
  | _, _, .cons h1 h2 h3 r => pgs_cons (pg_name hN h1 h2 h3) (pgs_all hN r)
theorem nm_len : ∀ {es : List Expr} {is : List Nat}, NmAll X es is → (assignEach es X.env).length = is.length ∧ (assignEach es X.env).findIdx? (·.1) = none
  | _, _, .nil => ⟨rfl, rfl⟩
  | _, _, .cons (x := x) (p := p) (es := es) h1 h2 h3 r => by
    obtain ⟨a, b⟩ := nm_len r
    have e : assignEach (.Name x p :: es) X.env = (false, assign (.Name x p) X.env) :: assignEach es X.env := rfl
    rw [e]
    refine ⟨by rw [List.length_cons, List.length_cons, a], ?_⟩
    rw [List.findIdx?_cons, if_neg (by simp), b]
    rfl
theorem gall_ok {F H : Hp} : ∀ {is : List Nat} {ρ : PEnv} {σ : L2.St} {vs : List V} {ds : List D} {ρ' : PEnv} {Q : L2.St → Hp → Prop}, Rel k ρ σ F H → Rs k F vs ds → putAll ρ is ds = some ρ' →
    (∀ σ', Rel k ρ' σ' F H → TgTr (.tp is) ρ σ ρ' σ' → Q σ' H) → gAll is vs σ H Q
  | [], ρ, σ, _, _, ρ', Q, rel, .nil, e, fin => by
    simp only [putAll, Option.some.injEq] at e
    subst e
    exact ⟨rfl, fin σ rel ⟨fun _ _ z => z, fun _ _ => rfl, fun _ _ => rfl, rfl⟩⟩
  | [], _, _, _, _, _, _, _, .cons _ _, e, _ => by simp [putAll] at e
  | _ :: _, _, _, _, _, _, _, _, .nil, e, _ => by simp [putAll] at e
  | i :: is, ρ, σ, _, _, ρ', Q, rel, .cons (v := v) (vs := vs) (d := d) (ds := ds) r rr, e, fin => by
    have e : putAll (ρ.put i (.val d)) is ds = some ρ' := e
    obtain ⟨x1, x2⟩ := rel.put (i := i) r
    refine ⟨v, vs, rfl, gall_ok x1 rr e fun σ' rel' tr' => fin σ' rel' ⟨fun j a z => x2 j a (tr'.own j a z), fun ws h => ?_, fun ws h => ?_, tr'.dr⟩⟩
    · rw [tr'.wp ws fun j hj => h j (by simp only [Tg.slots, List.mem_cons]; exact .inr hj), wipe_set (h i (by simp [Tg.slots]))]
    · rw [tr'.wr ws fun j hj => h j (by simp only [Tg.slots, List.mem_cons]; exact .inr hj), pwipe_put (h i (by simp [Tg.slots]))]
theorem put_len_eq : ∀ {is : List Nat} {ds : List D} {ρ ρ' : PEnv}, putAll ρ is ds = some ρ' → ds.length = is.length
  | [], [], _, _, _ => rfl
  | [], _ :: _, _, _, e => by simp [putAll] at e
  | _ :: _, [], _, _, e => by simp [putAll] at e
  | i :: is, d :: ds, ρ, ρ', e => by
    have e : putAll (ρ.put i (.val d)) is ds = some ρ' := e
    rw [List.length_cons, List.length_cons, put_len_eq e]
theorem qg_tp (hX : XOk X k) {es : List Expr} {is : List Nat} {kk : Nat} (hN : X.N.Nodup) (h : NmAll X es is) : PG X (.Tuple es kk pos) (tG k (.tp is)) :=
  weakG (pg_tup hX.calm (pgs_all hN h) (nm_len h).1 (nm_len h).2) fun v σ H Q ⟨ρ, F, d, QQ, rel, tv, wp, fin⟩ => by
    obtain ⟨xs, ρ', rfl, e, q⟩ := wp
    have hl := put_len_eq e
    have hK := hX.K
    rcases tv with r | ⟨is', T, vs, ds, e1, rfl, e2, hT, rs⟩
    · cases r with
      | tup ta ra =>
        have sq := (ta.mono rel.sub).sq
        rw [hK] at sq
        exact ⟨_, _, rfl, sq, by rw [ra.length]; exact hl, gall_ok rel ra e fun σ' rel' tr' => fin _ _ rel' tr' q⟩
    · cases e1; cases e2
      exact ⟨_, _, rfl, .of hT, by rw [rs.length]; exact hl, gall_ok rel rs e fun σ' rel' tr' => fin _ _ rel' tr' q⟩
end
end PL
/-! PL12: what is walked; for, while. -/
namespace PL
open PySem PySem.Spec PyProof.Rows L2

/-- an item that is yielded; tp: it may be a tuple that stands for the moment alone -/
def ItemOk (k : RC) (tp : Bool) (F H : Hp) (v : V) (d : D) : Prop := R k F v d ∨ (tp = true ∧ ∃ T vs ds, v = .ref T ∧ d = .tup ds ∧ H T = some (.tup vs) ∧ Rs k F vs ds)
/-- wherever S holds, the walk J has the items ds -/
def ItOk (k : RC) (S : Hp → Hp → Prop) (tp : Bool) (J : It) (ds : List D) : Prop := ∀ F H, S F H → ∀ i, (i = ds.length → J.stop i H) ∧ ∀ d, ds[i]? = some d → J.go i H ∧ ∀ x H', J.yld i H x H' → Same H H' ∧ ItemOk k tp F H' x d
/-- since the walk began; b: in an expression -/
def Stay (k : RC) (b : Bool) (F0 H0 : Hp) : Hp → Hp → Prop := fun F H => Same F0 F ∧ (b = true → SameX k H0 H) ∧ Same F H
def tI (C : PC) (k : RC) (b tp : Bool) (ie : IE) : TI := fun σ H Rr => ∃ ρ F QQ, Rel k ρ σ F H ∧ wpI C b ie ρ QQ ∧ ∀ ds ρ' F' H' J, Rel k ρ' σ F' H' → ETr k ρ σ F H ρ' F' H' → ItOk k (Stay k b F' H') tp J ds → QQ ds ρ' → Rr J H'
/-- the keys of the exact dict at d -/
def Itx (d : Addr) (o : Obj) (es : List DictEntry) : It :=
  ⟨fun i H => H d = some (exO d o) ∧ i < es.length, fun i H x H' => H' = H ∧ ∃ e : DictEntry, es[i]? = some e ∧ RelV x e.key, fun i H => H d = some (exO d o) ∧ es.length ≤ i⟩
theorem exO_get {X : Cx} {pins : List (Addr × Obj)} {σ : L2.St} {H : Hp} {s : Shared} {d : Addr} {o : Obj} (I : Inv X pins σ H s) (h : H d = some (exO d o)) : s.heap.get? d = some o := (I.hok d _ h).1
theorem turn_x {P : Program} {w : World} {K : PySem.W.Frag} {tg : Expr} {d : Addr} {o : Obj} {es : List DictEntry} {ep : Nat} (it : Addr) (hod : o.data = .dict es.toArray ep) (hv : ∀ e ∈ es, ∃ x, RelV x e.key) :
    Turn P w K tg (Itx d o es) [it] it (fun i h => h.IsKeyIter it d i es.toArray.size ep) where
  mem := by simp
  obj := fun i h st b hb => by
    have e : b = it := by simpa using hb
    subst e
    obtain ⟨oi, e, c, dd⟩ := st
    exact ⟨oi, e, fun v z => by rw [dd] at z; cases z⟩
  keep := fun i h h' st k => st.at fun oi e => k it (by simp) oi e
  item := by
    intro X hP hw hK hc i pins s σ H E I hf st hg
    subst hP hw hK
    obtain ⟨hd, hi⟩ := hg
    obtain ⟨f0, f1, f2, f3, f4, f5⟩ := hf it (by simp)
    have ho := exO_get I hd
    have hx : es.toArray[i]? = some es[i] := by rw [List.getElem?_toArray]; exact List.getElem?_eq_getElem hi
    refine next_key_item st ho hod rfl hx fun h' st' sb => ?_
    have I1 : Inv X pins σ H { s with heap := h' } := I.turned (t' := s.toks) (fun b ob hb e => (sb.2 b hb).trans e) f0 f1 f3 f4 f5
    obtain ⟨oi, e, c, dd⟩ := id st'
    obtain ⟨x, rx⟩ := hv es[i] (List.getElem_mem hi)
    exact ⟨_, rfl, go_of (s := { s with heap := h' }) e c dd (by decide) ⟨x, H, I1, rx, ⟨rfl, _, List.getElem?_eq_getElem hi, rx⟩, st', fun b hb => (hf b hb).1⟩⟩
  done := by
    intro X hP hw hK hc i pins s σ H E I hf st hg
    subst hP hw hK
    obtain ⟨hd, hi⟩ := hg
    obtain ⟨f0, f1, f2, f3, f4, f5⟩ := hf it (by simp)
    exact next_key_end (I.ok.hd hc) st (exO_get I hd) hod rfl (by simpa using hi) fun h' eb => ⟨rfl, I.turned (t' := s.toks) (fun b ob hb e => eb b ob hb e) f0 f1 f3 f4 f5⟩
  self := fun A i s Q E st h => wpAny_pyIter_keyiter st h
theorem rk_get {k : RC} {F : Hp} : ∀ {es : List DictEntry} {kvs : List (D × D)} {i : Nat} {e : DictEntry}, RKs k F es kvs → es[i]? = some e → ∃ p v, kvs[i]? = some p ∧ RelV v e.key ∧ R k F v p.1
  | _, _, _, _, .nil, h => by simp at h
  | _, _, 0, _, .cons h1 h2 _ _ _ _ _ _, h => by simp at h; subst h; exact ⟨_, _, rfl, h1, h2⟩
  | _, _, i + 1, e, .cons _ _ _ _ _ _ _ r, h => by
    obtain ⟨p, v, h1, h2⟩ := rk_get (i := i) (e := e) r (by simpa using h)
    exact ⟨p, v, by simpa using h1, h2⟩
section
variable {X : Cx} {k : RC} {C : PC} {pos : Pos} {tg : Expr}
/-- a list, a tuple is not too long -/
theorem seq_len (hX : XOk X k) {pins : List (Addr × Obj)} {σ : L2.St} {F H : Hp} {s : Shared} {x : V} {d : D} {xs : List D} (I : Inv X pins σ H s) (sub : Same F H) (br : BR k F H x d) (hd : seqD d = some xs) : xs.length ≤ sizeLine := by
  have hK := hX.K
  cases d with
  | lst ys =>
    cases hd
    obtain ⟨a, vs, rfl, t, r⟩ := br.lst sub
    obtain ⟨its, rv, p, hz⟩ := I.list (.of t)
    have e := r.length; have e2 := rv.length; have e3 := hz; omega
  | tup ys =>
    cases hd
    obtain ⟨a, vs, rfl, t, r⟩ := br.tup
    have sq := (t.mono sub).sq
    rw [hK] at sq
    obtain ⟨its, rv, p, hz⟩ := I.tuple sq
    have e := r.length; have e2 := rv.length; have e3 := hz; omega
  | _ => cases hd
/-- a thing that can be walked, walked -/
theorem it_any (hX : XOk X k) {pins : List (Addr × Obj)} {σ : L2.St} {F H : Hp} {s : Shared} {x : V} {u : Value} {d : D} {xs : List D} {b : Bool} {Rr : It → Hp → Prop} (I : Inv X pins σ H s) (rx : RelV x u) (sub : Same F H) {dr : Nat} (pool : PoolOk k F H dr) (br : BR k F H x d) (hb : b = false → R k F x d) (hd : itemsD d = some xs)
    (h : (isRng d = false → xs.length ≤ sizeLine) → ∀ J, ItOk k (Stay k b F H) false J xs → Rr J H) : wpAny (model X.prog X.w) X.A (pyIter u) (PIE X pins σ tg Rr) X.xe s := by
  have stay : ∀ F' H', Stay k b F H F' H' → BR k F' H' x d ∧ Same F' H' := fun F' H' ⟨a1, a2, a3⟩ => by
    refine ⟨?_, a3⟩
    cases b with
    | false => exact .inl ((hb rfl).mono a1)
    | true => exact br.grow a1 (a2 rfl) a3
  have hK := hX.K
  cases d with
  | lst ys =>
    cases hd
    obtain ⟨a, vs, rfl, t, r⟩ := br.lst sub
    cases rx
    obtain ⟨its, rv, p, hz⟩ := I.list (.of t)
    refine wpAny_pyIter_list p.isList (pi_one (tk := s.toks) I _ (turn_list a _) ⟨_, Heap.get?_push_size _ rfl, rfl, rfl⟩ (h (fun _ => by have e := r.length; have e2 := rv.length; have e3 := hz; omega) _ fun F' H' st i => ?_))
    obtain ⟨b', sub'⟩ := stay F' H' st
    obtain ⟨a', vs', e', t', r'⟩ := b'.lst sub'
    cases e'
    refine ⟨fun hi => ⟨vs', .of t', by rw [r'.length]; exact Nat.le_of_eq hi.symm⟩, fun d hd => ?_⟩
    obtain ⟨w, w1, w2⟩ := r'.get hd
    refine ⟨⟨vs', w, .of t', w1⟩, fun y H'' ⟨e1, e2⟩ => ?_⟩
    subst e1
    have := (e2 vs' (.of t')).symm.trans w1
    cases this
    exact ⟨fun _ _ z => z, .inl w2⟩
  | tup ys =>
    cases hd
    obtain ⟨a, vs, rfl, t, r⟩ := br.tup
    cases rx
    have sq := (t.mono sub).sq
    rw [hK] at sq
    obtain ⟨its, rv, p, hz⟩ := I.tuple sq
    refine wpAny_pyIter_tuple (show s.heap.IsTuple a its.toArray from p) (pi_one (tk := s.toks) I _ (turn_tuple a _) ⟨_, Heap.get?_push_size _ rfl, rfl, rfl⟩ (h (fun _ => by have e := r.length; have e2 := rv.length; have e3 := hz; omega) _ fun F' H' st i => ?_))
    obtain ⟨b', sub'⟩ := stay F' H' st
    obtain ⟨a', vs', e', t', r'⟩ := b'.tup
    cases e'
    have sq' := (t'.mono sub').sq
    rw [hK] at sq'
    refine ⟨fun hi => ⟨vs', sq', by rw [r'.length]; exact Nat.le_of_eq hi.symm⟩, fun d hd => ?_⟩
    obtain ⟨w, w1, w2⟩ := r'.get hd
    refine ⟨⟨vs', w, sq', w1⟩, fun y H'' ⟨e1, e2⟩ => ?_⟩
    subst e1
    have := (e2 vs' sq').symm.trans w1
    cases this
    exact ⟨fun _ _ z => z, .inl w2⟩
  | dct kvs =>
    cases hd
    obtain ⟨a, es, rfl, ⟨o, ep, g1, g2, g3, g4, g5⟩, r, nd, un⟩ := br.dct sub
    cases rx
    have ho := exO_get I g1
    refine iter_keys g4 ho g2 g3 (pi_one (tk := s.toks) I _ (turn_x (es := es) _ g3 fun e he => ?_) ⟨_, Heap.get?_push_size _ rfl, rfl, rfl⟩ (h (fun _ => by rw [List.length_map, ← r.length]; exact g5) _ fun F' H' st i => ?_))
    · obtain ⟨i, hi⟩ := List.mem_iff_getElem?.mp he
      obtain ⟨p, v, _, h2, _⟩ := rk_get r hi
      exact ⟨v, h2⟩
    · -- the same object all along
      obtain ⟨a1, a2, a3⟩ := st
      have same : H' a = some (exO a o) := by
        cases b with
        | true =>
          refine a2 rfl _ _ g1 fun ⟨p, q, z⟩ => ?_
          obtain ⟨_, _, _, _, m, _, _, c1⟩ := pool p q a z
          have := c1.symm.trans g1
          cases this
        | false =>
          have hbr := hb rfl
          cases hbr with
          | dct da _ _ _ =>
            obtain ⟨oF, epF, f1, _⟩ := da
            have e1 := exO_get I (sub _ _ f1)
            have e2 := ho.symm.trans e1
            cases e2
            exact a3 _ _ (a1 _ _ f1)
      refine ⟨fun hi => ⟨same, by rw [r.length]; rw [List.length_map] at hi; exact Nat.le_of_eq hi.symm⟩, fun d hd => ?_⟩
      rw [List.getElem?_map] at hd
      obtain ⟨q, hq, rfl⟩ := Option.map_eq_some_iff.mp hd
      have hlt : i < es.length := by
        rw [r.length]; exact (List.getElem?_eq_some_iff.mp hq).1
      refine ⟨⟨same, hlt⟩, fun y H'' ⟨e1, e, e2, e3⟩ => ?_⟩
      subst e1
      obtain ⟨p, v, p1, p2, p3⟩ := rk_get r e2
      have := p1.symm.trans hq
      cases this
      have := e3.inj p2
      subst this
      exact ⟨fun _ _ z => z, .inl (p3.mono a1)⟩
  | rng lo hi =>
    cases hd
    obtain ⟨a, rfl, t, ⟨l1, l2⟩, h1, h2⟩ := br.rng
    cases rx
    obtain ⟨t1, t2, t3, hr⟩ := rng_at I (sub _ _ t)
    refine wpAny_pyIter_range hr (small_one l1 l2 h1 h2) (pi_one (tk := s.toks) I _ (turn_range _ lo (hi - lo).toNat) ?_ (h (fun z => by cases z) _ fun F' H' st i => ?_))
    · have e1 : lo + ((0 : Nat) : Int) * 1 = lo := by simp
      have e2 : (((hi - lo).toNat : Nat) : Int) - ((0 : Nat) : Int) = Builtin.Range.rangeSize lo hi 1 := by rw [rangeSize_one]; split <;> omega
      show IsRangeIter _ _ (lo + ((0 : Nat) : Int) * 1) ((((hi - lo).toNat : Nat) : Int) - ((0 : Nat) : Int)) 1
      rw [e1, e2]
      exact Heap.get?_push_size _ rfl
    · have hl : (rngL lo hi).length = (hi - lo).toNat := by unfold rngL; simp
      refine ⟨fun hi' => by rw [hl] at hi'; exact Nat.le_of_eq hi'.symm, fun d hd => ?_⟩
      have hlt : i < (hi - lo).toNat := by
        have := (List.getElem?_eq_some_iff.mp hd).1
        rw [hl] at this; exact this
      refine ⟨hlt, fun y H'' ⟨e1, e2⟩ => ?_⟩
      subst e1 e2
      unfold rngL at hd
      rw [List.getElem?_map, List.getElem?_range hlt] at hd
      cases hd
      exact ⟨fun _ _ z => z, .inl (.int _)⟩
  | _ => cases hd
/-- what has come from an expression, kept where it must be -/
theorem come {b : Bool} {ρ ρ1 : PEnv} {σ : L2.St} {F F1 H H1 : Hp} {r : RV} {v : V} {K : D → Prop} (rel : Rel k ρ σ F H) (p : EPost k ρ σ F H r v ρ1 F1 H1) (q : (if b = true then (fun K : D → Prop => K r.toD) else r.kept) K) :
    ∃ d F2, K d ∧ BR k F2 H1 v d ∧ (b = false → R k F2 v d) ∧ Rel k ρ1 σ F2 H1 ∧ ETr k ρ σ F H ρ1 F2 H1 := by
  cases b with
  | true => exact ⟨r.toD, F1, q, p.lent, fun z => Bool.noConfusion z, p.rel, p.tr⟩
  | false =>
    obtain ⟨d, F2, q1, _, rd, rel2, tr2⟩ := p.keep rel q
    exact ⟨d, F2, q1, .inl rd, fun _ => rd, rel2, tr2⟩
theorem qi_seq (hX : XOk X k) {b : Bool} {e : Expr} {ie : IE} (he : PE X e (tE C k ie)) : PI X tg e (tI C k b false (.itSeq ie)) := by
  refine ⟨fun pins s σ H Rr I ⟨ρ, F, QQ, rel, wp, fin⟩ => ?_⟩
  refine thn (he.run pins s σ H (fun v H1 => ∃ ρ1 F1 r, EPost k ρ σ F H r v ρ1 F1 H1 ∧ (if b = true then (fun K : D → Prop => K r.toD) else r.kept) fun d => ∃ xs, itemsD d = some xs ∧ ((isRng d = false → xs.length ≤ sizeLine) → QQ xs ρ1)) I ⟨ρ, F, _, rel, wp, fun r ρ1 v F1 H1 p q => ⟨ρ1, F1, r, p, q⟩⟩) fun u s1 ⟨x, H1, I1, rx, ρ1, F1, r, p, q⟩ => ?_
  obtain ⟨d, F2, ⟨xs, q1, q2⟩, br, hb, rel2, tr2⟩ := come rel p q
  exact it_any hX I1 rx rel2.sub rel2.pool br hb q1 fun hl J hJ => fin xs ρ1 F2 H1 J rel2 tr2 hJ (q2 hl)
theorem itr_ok {S : Hp → Hp → Prop} {lo hi : Int} : ItOk k S false (Itr lo (hi - lo).toNat) (rngL lo hi) := fun F' H' st i => by
  have hl : (rngL lo hi).length = (hi - lo).toNat := by unfold rngL; simp
  refine ⟨fun hi' => by rw [hl] at hi'; exact Nat.le_of_eq hi'.symm, fun d hd => ?_⟩
  have hlt : i < (hi - lo).toNat := by
    have := (List.getElem?_eq_some_iff.mp hd).1
    rw [hl] at this; exact this
  refine ⟨hlt, fun y H'' ⟨e1, e2⟩ => ?_⟩
  subst e1 e2
  unfold rngL at hd
  rw [List.getElem?_map, List.getElem?_range hlt] at hd
  cases hd
  exact ⟨fun _ _ z => z, .inl (.int _)⟩
theorem qi_rng1 {b : Bool} {a : Expr} {ia : IE} {p : Pos} (hg : Gl X "range") (hm : X.mg "range" = none) (ha : PE X a (tE C k ia)) (hs1 : starEach [a] X.env = (false, eval a X.env) :: starEach [] X.env) (hs : starEach [a] X.env = [(false, eval a X.env)]) : PI X tg (.Call (.Name "range" p) [a] [] pos) (tI C k b false (.itR1 ia)) := by
  refine ⟨fun pins s σ H Rr I ⟨ρ, F, QQ, rel, wp, fin⟩ => ?_⟩
  refine (pi_range1 hg hm (pa_cons ha pa_nil hs1) hs).run pins s σ H Rr I ⟨ρ, F, _, rel, wp, fun r ρ1 v F1 H1 p ⟨j, e, ⟨h1, h2⟩, q⟩ => ?_⟩
  have l := p.lent
  rw [e] at l
  have := itr_ok (k := k) (S := Stay k b F1 H1) (lo := 0) (hi := j)
  rw [Int.sub_zero] at this
  exact ⟨j, by rw [l.int], h1, h2, fin _ _ _ _ _ p.rel p.tr this q⟩
theorem qi_rng2 {b : Bool} {a c : Expr} {ia ic : IE} {p : Pos} (hg : Gl X "range") (hm : X.mg "range" = none) (ha : PE X a (tE C k ia)) (hc : PE X c (tE C k ic)) (hs1 : starEach [a, c] X.env = (false, eval a X.env) :: starEach [c] X.env) (hs3 : starEach [c] X.env = (false, eval c X.env) :: starEach [] X.env) (hs : starEach [a, c] X.env = [(false, eval a X.env), (false, eval c X.env)]) (hs2 : starEach [c] X.env = [(false, eval c X.env)]) : PI X tg (.Call (.Name "range" p) [a, c] [] pos) (tI C k b false (.itR2 ia ic)) := by
  refine ⟨fun pins s σ H Rr I ⟨ρ, F, QQ, rel, wp, fin⟩ => ?_⟩
  refine (pi_range2 hg hm (pa_cons ha (pa_cons hc pa_nil hs3) hs1) hs hs2).run pins s σ H Rr I ⟨ρ, F, _, rel, wp, fun r ρ1 v F1 H1 p q => ⟨ρ1, F1, _, p.rel, q, fun r2 ρ2 v2 F2 H2 p2 ⟨i, j, e1, e2, ⟨⟨h1, h2⟩, h3, h4⟩, q⟩ => ?_⟩⟩
  have l := p.lent
  rw [e1] at l
  have l2 := p2.lent
  rw [e2] at l2
  exact ⟨i, j, by rw [l.int, l2.int], ⟨h1, h2, h3, h4⟩, fin _ _ _ _ _ p2.rel (p.tr.trans p2.tr) itr_ok q⟩

/-! ### for -/
theorem STr.keepH {ρ : PEnv} {σ : L2.St} {F0 H0 G F H H' : Hp} (t : STr k F0 H0 G ρ σ F H) (s : Same H H') : STr k F0 H0 G ρ σ F H' := t.next (ETr.keepH s)
theorem STr.since {ρ : PEnv} {σ : L2.St} {F0 H0 G G' F H : Hp} (t : STr k F0 H0 G ρ σ F H) (h : Same G' F) : STr k F0 H0 G' ρ σ F H := ⟨t.sub, t.heap, t.there, t.vis, t.own, h⟩
/-- the ends of a loop's body, the walk having begun at F1 -/
theorem SEnds.loop {F0 H0 G F1 : Hp} {E : PEnds} {D : Ends} {Nx : PEnv → Prop} {N : L2.St → Hp → Prop} (en : SEnds k F0 H0 G E D) (h1 : Same G F1) (h : ∀ ρ σ F H, Rel k ρ σ F H → STr k F0 H0 F1 ρ σ F H → Nx ρ → N σ H) :
    SEnds k F0 H0 F1 ⟨Nx, E.rt, E.nx, Nx⟩ { D with nx := N, ct := N, bk := D.nx } :=
  ⟨h, fun ρ σ F H rel tr q => en.nx ρ σ F H rel (tr.since fun b o e => tr.mid b o (h1 b o e)) q, h, en.rt⟩
theorem qs_for (hX : XOk X k) {tp : Bool} {tgt : Tg} {iter : Expr} {body : List Stmt} {ii : IE} {ib : IS} (hp : PassesOwn (model X.prog X.w) X.A X.env X.xe) (hi : PI X tg iter (tI C k false tp ii)) (hg : PG X tg (tG k tgt)) (htp : tp = true → ∃ is, tgt = .tp is)
    (hb : PSs X body (tS C k ib)) (hs : ∀ x, foldedSetIterable iter X.env x = pure x) : PS X (.For tg iter body [] pos) (tS C k (.fr tgt ii ib)) :=
  weakS (ps_for hp hX.calm hi hg hb hs) fun D σ H ⟨ρ, F, F0, H0, G, E, rel, tr, wp, en⟩ => ⟨ρ, F, _, rel, wp, fun ds ρ1 F1 H1 J rel1 tr1 it q => by
    have gF : Same G F1 := fun b o e => tr1.sub b o (tr.mid b o e)
    refine ⟨fun i m σ' H' => m = ds.length - i ∧ i ≤ ds.length ∧ ∃ ρ' F', Rel k ρ' σ' F' H' ∧ STr k F0 H0 F1 ρ' σ' F' H' ∧ forL tgt (wpS C ib) (ds.drop i) ρ' E,
      ⟨ds.length, by simp, by omega, ρ1, F1, rel1, (tr.next tr1).since fun _ _ h => h, q⟩, ?_⟩
    rintro i m σ' H' ⟨rfl, hi, ρ', F', rel', tr', q'⟩
    obtain ⟨i1, i2⟩ := it F' H' ⟨tr'.mid, fun z => Bool.noConfusion z, rel'.sub⟩ i
    by_cases hlt : i < ds.length
    · obtain ⟨go, yl⟩ := i2 ds[i] (List.getElem?_eq_getElem hlt)
      rw [List.drop_eq_getElem_cons hlt] at q'
      refine .inr ⟨go, fun σ2 H2 => ∃ ρ2 F2, Rel k ρ2 σ2 F2 H2 ∧ STr k F0 H0 F1 ρ2 σ2 F2 H2 ∧ forL tgt (wpS C ib) (ds.drop (i + 1)) ρ2 E, fun σ2 H2 ⟨ρ2, F2, r2, t2, q2⟩ => ⟨_, (by omega : ds.length - (i + 1) < ds.length - i), rfl, hlt, ρ2, F2, r2, t2, q2⟩, fun x H'' y => ?_⟩
      obtain ⟨sH, iok⟩ := yl x H'' y
      have rel2 := rel'.keepH sH
      have tr2 := tr'.keepH sH
      refine ⟨ρ', F', ds[i], _, rel2, ?_, q', fun ρ3 σ3 rel3 tt q3 => ?_⟩
      · rcases iok with r | ⟨h1, T, vs, es, h2, h3, h4, h5⟩
        · exact .inl r
        · obtain ⟨is, e⟩ := htp h1
          exact .inr ⟨is, T, vs, es, e, h2, h3, h4, h5⟩
      · have tr3 : STr k F0 H0 F1 ρ3 σ3 F' H'' := tr2.slots fun j a z => tr2.own j a (tt.own j a z)
        exact ⟨ρ3, F', F0, H0, F1, _, rel3, tr3, q3, en.loop gF fun ρ4 σ4 F4 H4 rel4 tr4 q4 => ⟨ρ4, F4, rel4, tr4, q4⟩⟩
    · have e : i = ds.length := by omega
      subst e
      rw [List.drop_length] at q'
      exact .inl ⟨i1 rfl, en.nx _ _ _ _ rel' (tr'.since fun b o e => tr'.mid b o (gF b o e)) q'⟩⟩
/-! ### while, += -/
theorem qs_whl {c : Expr} {body : List Stmt} {ic : IE} {ib : IS} (hp : PassesOwn (model X.prog X.w) X.A X.env X.xe) (hc : PT X c (tT C k ic)) (hb : PSs X body (tS C k ib)) : PS X (.While c body [] pos) (tS C k (.whl ic ib)) :=
  weakS (ps_while hp hc hb) fun D σ H ⟨ρ, F, F0, H0, G, E, rel, tr, ⟨n, q⟩, en⟩ => by
    refine ⟨fun m σ' H' => ∃ ρ' F', Rel k ρ' σ' F' H' ∧ STr k F0 H0 G ρ' σ' F' H' ∧ whlL (wpE C ic) (wpS C ib) m ρ' E, ⟨n, ρ, F, rel, tr, q⟩, ?_⟩
    rintro m σ' H' ⟨ρ', F', rel', tr', q'⟩
    cases m with
    | zero => exact q'.elim
    | succ m =>
      refine ⟨ρ', F', _, rel', q', fun b ρ1 F1 H1 rel1 tr1 ⟨b', e, q1⟩ => ?_⟩
      cases e
      cases b with
      | false =>
        rw [brn_ite, if_neg Bool.false_ne_true] at q1; rw [if_neg Bool.false_ne_true]
        exact en.nx _ _ _ _ rel1 (tr'.next tr1) q1
      | true =>
        rw [brn_ite, if_pos rfl] at q1; rw [if_pos rfl]
        refine ⟨fun σ2 H2 => ∃ ρ2 F2, Rel k ρ2 σ2 F2 H2 ∧ STr k F0 H0 G ρ2 σ2 F2 H2 ∧ whlL (wpE C ic) (wpS C ib) m ρ2 E, fun σ2 H2 h => ⟨m, Nat.lt_succ_self m, h⟩, ρ1, F1, F0, H0, G, _, rel1, tr'.next tr1, q1, ?_⟩
        exact ⟨fun ρ σ F H r t q => ⟨ρ, F, r, t, q⟩, en.nx, fun ρ σ F H r t q => ⟨ρ, F, r, t, q⟩, en.rt⟩
theorem qs_aug {i : Nat} {x : Str} {e : Expr} {ie : IE} {pos' : Pos} (hN : X.N.Nodup) (hi : X.N[i]? = some x) (hx : Loc X.env.scope x) (he : PE X e (tE C k ie)) (hf : X.fn x = true ∨ X.env.scope.names.lookup x = some .local) : PS X (.AugAssign (.Name x pos') .Add e pos) (tS C k (.aug i ie)) :=
  weakS (ps_aug hN hi hx he ip_add hf) fun D σ H ⟨ρ, F, F0, H0, G, E, rel, tr, ⟨n, e0, wp⟩, en⟩ => by
    obtain ⟨v, h1, h2⟩ := slot_val rel e0
    cases h2
    refine ⟨_, h1, ρ, F, _, rel, wp, fun r ρ1 v F1 H1 p ⟨m, e1, q⟩ => ?_⟩
    have l := p.lent
    rw [e1] at l
    obtain ⟨z1, z2⟩ := p.rel.put (i := i) (R.int (F := F1) (n + m))
    exact ⟨n, m, rfl, l.int, en.nx _ _ _ _ z1 ((tr.next p.tr).slots fun j a z => (tr.next p.tr).own j a (z2 j a z)) q⟩
theorem qs_tup (hX : XOk X k) {is : List Nat} {e : Expr} {es : List Expr} {kk : Nat} {tp : Pos} {ie : IE} (he : PE X e (tE C k ie)) (hg : PG X (.Tuple es kk tp) (tG k (.tp is))) (hs : swapsWithSole [.Tuple es kk tp] e pos.line X.env = pure false) (hw : swappedStores [.Tuple es kk tp] e X.env = pure none)
    (h1 : (assignEach [.Tuple es kk tp] X.env).map (·.2) = [assign (.Tuple es kk tp) X.env]) : PS X (.Assign [.Tuple es kk tp] e pos) (tS C k (.asg (.tp is) ie)) :=
  weakS (ps_asg he hg hs hw h1) fun D σ H ⟨ρ, F, F0, H0, G, E, rel, tr, wp, en⟩ => ⟨ρ, F, _, rel, wp, fun r ρ1 v F1 H1 p q => by
    obtain ⟨d, F2, q1, _, rd, rel2, tr2⟩ := p.keep rel q
    exact ⟨ρ1, F2, d, _, rel2, .inl rd, q1, fun ρ' σ' rel' tt q' => en.nx _ _ _ _ rel' ((tr.next tr2).slots fun j a z => (tr.next tr2).own j a (tt.own j a z)) q'⟩⟩
end
end PL
/-! PL13: list comprehensions. -/
namespace PL
open PySem PySem.Spec PyProof.Rows L2

/-- from an expression's start into the block of a comprehension -/
structure BTr (k : RC) (ρ : PEnv) (σ : L2.St) (F H : Hp) (ρ' : PEnv) (σ' : L2.St) (F' H' : Hp) : Prop where
  sub : Same F F'
  heap : SameX k H H'
  there : ∀ a, H a ≠ none → H' a ≠ none
  vis : ∀ a, H a ≠ none → (∀ i, ¬ OwnAt ρ σ i a) → F' a = F a
  own : ∀ i a, OwnAt ρ' σ' i a → OwnAt ρ σ i a
section
variable {k : RC} {ρ ρ' ρ1 ρ2 : PEnv} {σ σ' σ1 : L2.St} {F F' F1 F2 H H' H1 H2 : Hp} {vs : List Nat} {a : Addr} {o : HO}
theorem ETr.b (e : ETr k ρ σ F H ρ' F' H') : BTr k ρ σ F H ρ' σ F' H' := ⟨e.sub, e.heap, e.there, e.vis, e.own⟩
theorem BTr.e (e : BTr k ρ σ F H ρ' σ F' H') : ETr k ρ σ F H ρ' F' H' := ⟨e.sub, e.heap, e.there, e.vis, e.own⟩
theorem BTr.next (t : BTr k ρ σ F H ρ1 σ1 F1 H1) (e : ETr k ρ1 σ1 F1 H1 ρ2 F2 H2) : BTr k ρ σ F H ρ2 σ1 F2 H2 where
  sub := fun c o h => e.sub c o (t.sub c o h)
  heap := t.heap.trans e.heap
  there := fun c h => e.there c (t.there c h)
  vis := fun c h n => (e.vis c (t.there c h) fun i z => n i (t.own i c z)).trans (t.vis c h n)
  own := fun i c h => t.own i c (e.own i c h)
theorem BTr.slots (t : BTr k ρ σ F H ρ1 σ1 F1 H1) (h : ∀ i a, OwnAt ρ' σ' i a → OwnAt ρ1 σ1 i a) : BTr k ρ σ F H ρ' σ' F1 H1 := ⟨t.sub, t.heap, t.there, t.vis, fun i a z => t.own i a (h i a z)⟩
/-- a thing that no slot owns and that is not seen, written -/
theorem BTr.write (t : BTr k ρ σ F H ρ1 σ1 F1 H1) (hn : H a = none) : BTr k ρ σ F H ρ1 σ1 F1 (upd H1 a o) := by
  refine ⟨t.sub, fun b u e n => ?_, fun b hb => ?_, t.vis, t.own⟩
  · rw [upd_ne (ne_of_none e hn)]; exact t.heap b u e n
  · rw [upd_ne (fun z => hb (by rw [z]; exact hn))]; exact t.there b hb
theorem Rel.writeD (h : Rel k ρ σ F H) (n : ∀ i, ¬ OwnAt ρ σ i a) (fa : F a = none) (np : ¬ inP' k a) : Rel k ρ σ F (upd H a o) := by
  refine ⟨h.len, fun b u e => ?_, fun j => ?_, h.inj, fun p r c e => ?_⟩
  · rw [upd_ne (ne_of_none e fa)]; exact h.sub b u e
  · have z := h.slot j
    cases eg : ρ.get j with
    | no => trivial
    | val d => rw [eg] at z; exact z
    | own xs =>
      rw [eg] at z; obtain ⟨b, e1, vs, e2, e3⟩ := z
      have ne : b ≠ a := fun y => n j ⟨by rw [eg]; rfl, y ▸ e1⟩
      exact ⟨b, e1, vs, (upd_ne ne).trans e2, e3⟩
    | owd xs =>
      rw [eg] at z; obtain ⟨b, e1, es, ⟨ob, ep, e2, er⟩, e3⟩ := z
      have ne : b ≠ a := fun y => n j ⟨by rw [eg]; rfl, y ▸ e1⟩
      exact ⟨b, e1, es, ⟨ob, ep, (upd_ne ne).trans e2, er⟩, e3⟩
  · obtain ⟨f, n, h1, ⟨rows, hr, h2⟩, m, hm, hm', h3⟩ := h.pool p r c e
    have w : ∀ b, (b = p ∨ b = r ∨ b = c) → b ≠ a := fun b z y => np ⟨p, r, c, e, y ▸ z⟩
    exact ⟨f, n, (upd_ne (w p (.inl rfl))).trans h1, ⟨rows, hr, (upd_ne (w r (.inr (.inl rfl)))).trans h2⟩, m, hm, hm', (upd_ne (w c (.inr (.inr rfl)))).trans h3⟩
theorem get_wipe {j : Nat} : (ρ.wipe vs).get j = if j ∈ vs then .no else ρ.get j := by
  unfold PEnv.get PEnv.wipe
  simp only [List.getD_eq_getElem?_getD, pwipe_get (l := [])]
  by_cases e : j ∈ vs
  · rw [if_pos e, if_pos e]
    split <;> rfl
  · rw [if_neg e, if_neg e]
theorem wipe_len : (ρ.wipe vs).sl.length = ρ.sl.length := by
  unfold PEnv.wipe
  show (vs.foldl _ ρ.sl).length = _
  generalize ρ.sl = l
  induction vs generalizing l with
  | nil => rfl
  | cons v vs ih => rw [List.foldl_cons, ih, List.length_set]
theorem own_wipe {i : Nat} (h : OwnAt (ρ.wipe vs) (L2.wipe σ vs) i a) : OwnAt ρ σ i a ∧ i ∉ vs := by
  obtain ⟨h1, h2⟩ := h
  rw [get_wipe] at h1
  rw [wipe_get] at h2
  by_cases e : i ∈ vs
  · rw [if_pos e] at h1; cases h1
  · rw [if_neg e] at h1 h2; exact ⟨⟨h1, h2⟩, e⟩
theorem Rel.wipe (h : Rel k ρ σ F H) : Rel k (ρ.wipe vs) (L2.wipe σ vs) F H := by
  refine ⟨by rw [wipe_len, wipe_length]; exact h.len, h.sub, fun j => ?_, fun i j a x y => h.inj i j a (own_wipe x).1 (own_wipe y).1, h.pool⟩
  rw [get_wipe, wipe_get]
  by_cases e : j ∈ vs
  · rw [if_pos e, if_pos e]; trivial
  · rw [if_neg e, if_neg e]; exact h.slot j
theorem wipe_idem : L2.wipe (L2.wipe σ vs) vs = L2.wipe σ vs := by
  apply List.ext_getElem?
  intro j
  rw [wipe_get, wipe_get]
  by_cases e : j ∈ vs
  · rw [if_pos e, if_pos e, wipe_length]
  · rw [if_neg e, if_neg e]
theorem back_aux {g : Nat → SV} {j : Nat} : ∀ {vs : List Nat} {l : List SV}, (vs.foldl (fun l i => l.set i (g i)) l)[j]? = if j ∈ vs then (if j < l.length then some (g j) else none) else l[j]?
  | [], l => by simp
  | v :: vs, l => by
    rw [List.foldl_cons, @back_aux g j vs (l.set v (g v)), List.length_set]
    by_cases e : v = j
    · subst e
      by_cases m : v ∈ vs
      · rw [if_pos m, if_pos List.mem_cons_self]
      · rw [if_neg m, if_pos List.mem_cons_self]
        by_cases h : v < l.length
        · rw [if_pos h, List.getElem?_set_self h]
        · rw [if_neg h, List.getElem?_eq_none (by rw [List.length_set]; omega)]
    · have : (j ∈ v :: vs) ↔ j ∈ vs := by simp [Ne.symm e]
      simp only [this, List.getElem?_set_ne e]
theorem get_back {ρ0 : PEnv} {j : Nat} (hl : ρ0.sl.length = ρ.sl.length) : (PEnv.back ρ0 ρ vs).get j = if j ∈ vs then ρ0.get j else ρ.get j := by
  unfold PEnv.back
  show List.getD (vs.foldl _ ρ.sl) j .no = _
  rw [List.getD_eq_getElem?_getD, back_aux (g := ρ0.get)]
  by_cases e : j ∈ vs
  · rw [if_pos e, if_pos e]
    by_cases h : j < ρ.sl.length
    · rw [if_pos h]; rfl
    · rw [if_neg h]
      unfold PEnv.get
      rw [List.getD_eq_getElem?_getD, List.getElem?_eq_none (by omega)]
  · rw [if_neg e, if_neg e]
    unfold PEnv.get
    rw [List.getD_eq_getElem?_getD]
theorem back_len {ρ0 : PEnv} : (PEnv.back ρ0 ρ vs).sl.length = ρ.sl.length := by
  unfold PEnv.back
  show (vs.foldl _ ρ.sl).length = _
  generalize ρ.sl = l
  induction vs generalizing l with
  | nil => rfl
  | cons v vs ih => rw [List.foldl_cons, ih, List.length_set]
theorem plain_at (h : ρ.plainAt vs = true) {i : Nat} (hi : i ∈ vs) : (ρ.get i).plain = true := List.all_eq_true.mp h i hi
/-- behind the block: its slots as they were -/
theorem Rel.back {ρ0 : PEnv} {F0 H0 : Hp} (h0 : Rel k ρ0 σ F0 H0) (pl : ∀ i ∈ vs, (ρ0.get i).plain = true) (h : Rel k ρ (L2.wipe σ vs) F H) (s : Same F0 F) : Rel k (PEnv.back ρ0 ρ vs) σ F H ∧ ∀ i a, OwnAt (PEnv.back ρ0 ρ vs) σ i a → OwnAt ρ (L2.wipe σ vs) i a := by
  have hl : ρ0.sl.length = ρ.sl.length := by rw [h0.len, h.len, wipe_length]
  have ow : ∀ i a, OwnAt (PEnv.back ρ0 ρ vs) σ i a → OwnAt ρ (L2.wipe σ vs) i a := fun i a ⟨h1, h2⟩ => by
    rw [get_back hl] at h1
    by_cases e : i ∈ vs
    · rw [if_pos e, pl i e] at h1; cases h1
    · rw [if_neg e] at h1
      exact ⟨h1, by rw [wipe_get, if_neg e]; exact h2⟩
  refine ⟨⟨by rw [back_len, h.len, wipe_length], h.sub, fun j => ?_, fun i j a x y => h.inj i j a (ow i a x) (ow j a y), h.pool⟩, ow⟩
  rw [get_back hl]
  by_cases e : j ∈ vs
  · rw [if_pos e]
    have z := h0.slot j
    have q := pl j e
    cases eg : ρ0.get j with
    | no => trivial
    | val d => rw [eg] at z; obtain ⟨v, e1, e2⟩ := z; exact ⟨v, e1, e2.mono s⟩
    | own xs => rw [eg] at q; cases q
    | owd xs => rw [eg] at q; cases q
  · rw [if_neg e]
    have z := h.slot j
    rw [wipe_get, if_neg e] at z
    exact z
theorem wipe_wipe : (ρ.wipe vs).wipe vs = ρ.wipe vs := by
  unfold PEnv.wipe
  congr 1
  apply List.ext_getElem?
  intro j
  rw [pwipe_get (l := [])]
  by_cases e : j ∈ vs
  · rw [if_pos e, pwipe_get (l := []), if_pos e]
    have : (vs.foldl (fun l i => l.set i SV.no) ρ.sl).length = ρ.sl.length := wipe_len (ρ := ρ) (vs := vs)
    rw [this]
  · rw [if_neg e]

end
section
variable {X : Cx} {k : RC} {C : PC} {pos : Pos}
theorem SameX.trans' {H1 H2 : Hp} {a : Addr} {o : HO} (h : SameX k H1 H2) (hn : H1 a = none) : SameX k H1 (upd H2 a o) := fun b u e n => by
  rw [upd_ne (ne_of_none e hn)]; exact h b u e n
/-- the new list that a comprehension fills -/
structure NewD (k : RC) (ρ : PEnv) (σ : L2.St) (F H : Hp) (D : Addr) (acc : List PL.D) : Prop where
  at_ : ∃ vs, H D = some (.lst vs) ∧ Rs k F vs acc
  fn : F D = none
  np : ¬ inP' k D
  no : ∀ i, ¬ OwnAt ρ σ i D
theorem NewD.next {ρ ρ' : PEnv} {σ : L2.St} {F F' H H' : Hp} {D : Addr} {acc : List PL.D} (n : NewD k ρ σ F H D acc) (e : ETr k ρ σ F H ρ' F' H') : NewD k ρ' σ F' H' D acc := by
  obtain ⟨vs, h1, h2⟩ := n.at_
  exact ⟨⟨vs, e.heap _ _ h1 fun z => n.np z.inP, h2.mono e.sub⟩, (e.vis D (by rw [h1]; simp) n.no).trans n.fn, n.np, fun i z => n.no i (e.own i D z)⟩
theorem NewD.slots {ρ ρ' : PEnv} {σ σ' : L2.St} {F H : Hp} {D : Addr} {acc : List PL.D} (n : NewD k ρ σ F H D acc) (h : ∀ i a, OwnAt ρ' σ' i a → OwnAt ρ σ i a) : NewD k ρ' σ' F H D acc :=
  ⟨n.at_, n.fn, n.np, fun i z => n.no i (h i D z)⟩
theorem NewD.push {ρ : PEnv} {σ : L2.St} {F H : Hp} {D : Addr} {acc : List PL.D} {ws : List V} {v : V} {d : PL.D} (n : NewD k ρ σ F H D acc) (h : H D = some (.lst ws)) (r : R k F v d) : NewD k ρ σ F (upd H D (.lst (ws ++ [v]))) D (acc ++ [d]) := by
  obtain ⟨vs, h1, h2⟩ := n.at_
  have := h1.symm.trans h
  cases this
  exact ⟨⟨_, upd_same, h2.append (.cons r .nil)⟩, n.fn, n.np, n.no⟩
/-- the reading of a comprehension gives the hand layer's -/
theorem lc_sem {vs : List Nat} {tg : Tg} {tp : Bool} {it ic ie : IE} {σ : L2.St} {H : Hp} {Q : VK} (htp : tp = true → ∃ is, tg = .tp is) (htg : ∀ i ∈ tg.slots, i ∈ vs) (h : tE C k (.comp vs tg it ic ie) σ H Q) : tLc (tI C k true tp it) (tG k tg) (tT C k ic) (tE C k ie) vs σ H Q := by
  obtain ⟨ρ, F, QQ, rel, ⟨hpl, wp⟩, fin⟩ := h
  refine ⟨ρ, F, _, rel, wp, fun ds ρ1 F1 H1 J rel1 tr1 itok q => fun D hD => ?_⟩
  have hpl1 : ∀ i ∈ vs, (ρ1.get i).plain = true := fun i hi => by
    cases e : (ρ1.get i).plain with
    | true => rfl
    | false =>
      obtain ⟨a, e1, _⟩ := SlotR.here (x := none) (rel1.slot i) e
      have := (tr1.own i a ⟨e, e1⟩).1
      rw [plain_at hpl hi] at this
      cases this
  have hn : H D = none := none_back tr1.there hD
  have relw := (rel1.wipe (vs := vs)).newH (o := .lst []) hD
  have btr : BTr k ρ σ F H (ρ1.wipe vs) (L2.wipe σ vs) F1 (upd H1 D (.lst [])) := (tr1.b.slots fun i a z => (own_wipe z).1).write hn
  have nd : NewD k (ρ1.wipe vs) (L2.wipe σ vs) F1 (upd H1 D (.lst [])) D [] := ⟨⟨[], upd_same, .nil⟩, rel1.fnone hD, rel1.nopN hD, fun i z => by
    have := rel1.ownH (own_wipe z).1
    exact this hD⟩
  refine ⟨fun i m H' => m = ds.length - i ∧ i ≤ ds.length ∧ ∃ ρt F' acc, Rel k ρt (L2.wipe σ vs) F' H' ∧ BTr k ρ σ F H ρt (L2.wipe σ vs) F' H' ∧ Same F1 F' ∧ SameX k H1 H' ∧ NewD k ρt (L2.wipe σ vs) F' H' D acc ∧
      compL vs tg (wpE C ic) (wpE C ie) (ds.drop i) ρt acc (fun acc ρ2 => QQ (.own acc) (ρ1.back ρ2 vs)),
    ⟨ds.length, by simp, by omega, ρ1.wipe vs, F1, [], relw, btr, fun _ _ h => h, .of (Same.upd_new hD), nd, q⟩, ?_⟩
  rintro i m H' ⟨rfl, hi, ρt, F', acc, rel', tr', sub', heap', nd', q'⟩
  obtain ⟨i1, i2⟩ := itok F' H' ⟨sub', fun _ => heap', rel'.sub⟩ i
  by_cases hlt : i < ds.length
  · obtain ⟨go, yl⟩ := i2 ds[i] (List.getElem?_eq_getElem hlt)
    rw [List.drop_eq_getElem_cons hlt] at q'
    refine .inr ⟨go, fun H2 => ∃ ρt F' acc, Rel k ρt (L2.wipe σ vs) F' H2 ∧ BTr k ρ σ F H ρt (L2.wipe σ vs) F' H2 ∧ Same F1 F' ∧ SameX k H1 H2 ∧ NewD k ρt (L2.wipe σ vs) F' H2 D acc ∧
      compL vs tg (wpE C ic) (wpE C ie) (ds.drop (i + 1)) ρt acc (fun acc ρ2 => QQ (.own acc) (ρ1.back ρ2 vs)), fun H2 h => ⟨_, (by omega : ds.length - (i + 1) < ds.length - i), rfl, hlt, h⟩, fun x H'' y => ?_⟩
    obtain ⟨sH, iok⟩ := yl x H'' y
    have k0 : ETr k ρt (L2.wipe σ vs) F' H' ρt F' H'' := .keepH sH
    have rel2 := rel'.keepH sH
    refine ⟨ρt, F', ds[i], _, rel2, ?_, q', fun ρ3 σ3 rel3 tt q3 => ?_⟩
    · rcases iok with r | ⟨h1, T, ws, es, h2, h3, h4, h5⟩
      · exact .inl r
      · obtain ⟨is, e⟩ := htp h1
        exact .inr ⟨is, T, ws, es, e, h2, h3, h4, h5⟩
    · have w3 : L2.wipe σ3 vs = L2.wipe σ vs := (tt.wp vs htg).trans wipe_idem
      refine ⟨w3, ρ3, F', _, rel3, q3, fun b ρ4 F4 H4 rel4 tr4 ⟨b', eb, q4⟩ => ?_⟩
      cases eb
      have nd4 := ((nd'.next k0).slots tt.own).next tr4
      have tr4' := ((tr'.next k0).slots tt.own).next tr4
      have sub4 : Same F1 F4 := fun b o e => tr4.sub b o (sub' b o e)
      have heap4 : SameX k H1 H4 := (heap'.trans k0.heap).trans tr4.heap
      -- the turn's end
      have ends : ∀ {ρ6 F6 H6 acc6}, Rel k ρ6 σ3 F6 H6 → BTr k ρ σ F H ρ6 σ3 F6 H6 → NewD k ρ6 σ3 F6 H6 D acc6 → Rel k (ρ6.wipe vs) (L2.wipe σ vs) F6 H6 ∧ BTr k ρ σ F H (ρ6.wipe vs) (L2.wipe σ vs) F6 H6 ∧ NewD k (ρ6.wipe vs) (L2.wipe σ vs) F6 H6 D acc6 := fun {ρ6 F6 H6 acc6} r t n => by
        rw [← w3]
        exact ⟨r.wipe, t.slots fun i a z => (own_wipe z).1, n.slots fun i a z => (own_wipe z).1⟩
      cases b with
      | false =>
        rw [brn_ite, if_neg Bool.false_ne_true] at q4; rw [if_neg Bool.false_ne_true]
        obtain ⟨e1, e2, e3⟩ := ends rel4 tr4' nd4
        exact ⟨_, _, _, e1, e2, sub4, heap4, e3, q4⟩
      | true =>
        rw [brn_ite, if_pos rfl] at q4; rw [if_pos rfl]
        refine ⟨ρ4, F4, _, rel4, q4, fun r ρ5 v F5 H5 p q5 => ?_⟩
        obtain ⟨d, F6, ⟨q6, q7⟩, _, rd, rel6, tr6⟩ := p.keep rel4 q5
        have nd6 := nd4.next tr6
        obtain ⟨ws, v1, v2⟩ := nd6.at_
        refine ⟨ws, v1, by rw [v2.length]; exact q6, ?_⟩
        have nd7 := nd6.push v1 rd
        obtain ⟨e1, e2, e3⟩ := ends (rel6.writeD nd6.no nd6.fn nd6.np) ((tr4'.next tr6).write hn) nd7
        refine ⟨_, _, _, e1, e2, fun b o e => tr6.sub b o (sub4 b o e), ?_, e3, q7⟩
        exact (heap4.trans tr6.heap).trans' hD
  · have e : i = ds.length := by omega
    subst e
    rw [List.drop_length] at q'
    refine .inl ⟨i1 rfl, ?_⟩
    obtain ⟨r1, r2⟩ := rel1.back hpl1 rel' sub'
    have nd2 := nd'.slots r2
    obtain ⟨ws, v1, v2⟩ := nd2.at_
    exact fin (.own acc) _ _ _ _ ⟨r1, (tr'.slots r2).e, D, rfl, hn, ws, v1, nd2.fn, nd2.np, v2⟩ q'
end
end PL
/-! PL14: sorted. -/
namespace PL
open PySem PySem.Spec PyProof.Rows L2 PySem.W SeqAt

section
variable {prog : Program} {w : World} {A : Around} {s : Shared}
/-- a tuple before a tuple, asked of the tuples' own < -/
theorem oneLt_tups {xs ys : List PyData} {a b : Value} {as bs : List Addr} {Q : Bool → Shared → Prop} {E : Value → Shared → Prop} (ra : Reads s.heap a (.tuple xs) as) (rb : Reads s.heap b (.tuple ys) bs) (hal : alikeAll xs ys = true)
    (hu : A.units + min (PyData.tuple xs).depth (PyData.tuple ys).depth < cLine) (hq : Q (dataLt (.tuple xs) (.tuple ys)) s) : wpAny (model prog w) A (oneLt' true a b) Q E s := by
  cases ra with
  | @tuple l o vs n _ as₁ h1 h2 h3 h4 =>
    cases rb with
    | @tuple l' o' vs' n' _ bs₁ k1 k2 k3 k4 =>
      have n1 : vs.size = xs.length := by simpa using SeqAt.ReadsAll.length _ _ _ h4
      have n2 : vs'.size = ys.length := by simpa using SeqAt.ReadsAll.length _ _ _ k4
      rw [dataLt_tuple] at hq
      rw [oneLt'_eq]
      simp only [if_true]
      refine wpAny_bind (wpAny_cRoomFor (SeqAt.room_here hu) ?_)
      obtain ⟨cls, dd, data, sl⟩ := o
      obtain ⟨cls2, dd2, data2, sl2⟩ := o'
      simp only at h2 h3 k2 k3
      subst h2 h3 k2 k3
      refine wpAny_bind (wpAny_callSpecialIfBound?_slot (T := "tuple") ⟨_, h1, rfl⟩ F.slot_tuple_lt (call_meets F.slot_tuple_lt ⟨_, h1, rfl⟩ F.entry_tuple_lt (F.args_tuple_lt_2 _ _)
        (SeqAt.tuple_ltAt l l' vs vs' n n' dd dd2 sl sl2 (pairEq xs ys) (fun j => dataLt (xs.getD j .none) (ys.getD j .none))) ⟨h1, k1, fun j j1 j2 => ?_, fun j j1 j2 hj => ?_, ?_⟩))
      · have := eqAt_alikeAll xs ys A.in1 s vs.toList vs'.toList _ _ h4 k4 hal (SeqAt.room_in hu) j (by simpa using j1) (by simpa using j2)
        simpa using this
      · have := rcLt_alikeAll xs ys A.in1 s vs.toList vs'.toList _ _ h4 k4 hal (SeqAt.room_in hu) j (by simpa using j1) (by simpa using j2) hj
        simpa using this
      · rw [← firstLt_toks xs ys hal, ← n1, ← n2] at hq
        exact wpAny_truthy_bool hq
theorem firsts_map : ∀ {vs : List Value} {ds : List PyData}, EachIs (fun v d => ∃ as, Reads s.heap v d as) vs ds → (∀ d ∈ ds, ∃ xs, d = .tuple xs) →
    ∃ fs : List (Option Value), (∀ (E : Value → Shared → Prop) (Q : List (Option Value) → Shared → Prop), Q fs s → wpAny (model prog w) A (vs.mapM firstOfTuple') Q E s) ∧ ((∃ d ∈ ds, d = .tuple []) → none ∈ fs)
  | _, _, .nil, _ => ⟨[], fun E Q h => by rw [List.mapM_nil]; exact wpAny_pure h, fun ⟨d, hd, _⟩ => by simp at hd⟩
  | _, _, .cons (a := v) (b := d) (as := vs) (bs := ds) ⟨as, r⟩ t, ht => by
    obtain ⟨fs, h1, h2⟩ := firsts_map t fun d hd => ht d (List.mem_cons_of_mem _ hd)
    obtain ⟨xs, rfl⟩ := ht d (List.mem_cons_self ..)
    cases r with
    | @tuple l o its n _ as₁ g1 g2 g3 g4 =>
      refine ⟨its[0]? :: fs, fun E Q h => ?_, fun ⟨d', hd', e⟩ => ?_⟩
      · rw [List.mapM_cons]
        refine wpAny_bind ?_
        rw [kas_first_eq]
        refine wpAny_bind (Looks.here (show Looks (model prog w) s.heap (typeOf (.ref l)) o.cls from (Looks.ld g1).andThen .now) ?_)
        rw [g2, if_neg (by first | decide | simp)]
        refine wpAny_bind (listItems_at g1 g3 (wpAny_pure ?_))
        exact wpAny_bind (h1 E (fun bs s' => wpAny (model prog w) A (pure (its[0]? :: bs)) Q E s') (wpAny_pure h))
      · rcases List.mem_cons.mp hd' with q | q
        · rw [q] at e
          cases e
          have : its.size = 0 := by simpa using SeqAt.ReadsAll.length _ _ _ g4
          have z : its[0]? = none := by simp [this]
          rw [z]
          exact List.mem_cons_self ..
        · exact List.mem_cons_of_mem _ (h2 ⟨d', q, e⟩)
/-- alike tuples, empty ones among them -/
theorem sorts_tups {vs : List Value} {ds : List PyData} (e : EachIs (fun v d => ∃ as, Reads s.heap v d as) vs ds) (hal : AllAlike ds) (ht : ∀ d ∈ ds, ∃ xs, d = .tuple xs) (hm : ∃ d ∈ ds, d = .tuple []) (hu : ∀ d, d ∈ ds → A.units + d.depth < cLine) : SortsAt prog w A s (dataKind s.heap ds) vs := by
  have room : ∀ {d d' : PyData}, d ∈ ds → A.units + min d.depth d'.depth < cLine := fun {d d'} hd => Nat.lt_of_le_of_lt (Nat.add_le_add_left (Nat.min_le_left _ _) _) (hu d hd)
  refine ⟨fun v hv => ?_, ?_⟩
  · obtain ⟨d, hd, as, r⟩ := e.left v hv
    exact ⟨_, dataKind_some hal hd r⟩
  · have lt1 : H.LtAt prog w A s (dataKind s.heap ds) general' := fun E x y a b Q ha hb hq => by
      obtain ⟨d, as, hd, ra, rfl⟩ := dataKind_inv ha
      obtain ⟨d', as', hd', rb, rfl⟩ := dataKind_inv hb
      show wpAny (model prog w) A (oneLt' false x y) Q E s
      have hn : d ≠ .none := by obtain ⟨xs, e⟩ := ht d hd; rw [e]; simp
      exact oneLt_alike (fun z => by cases z) ra rb (hal d hd d' hd') hn (room hd) hq
    have lt2 : H.LtAt prog w A s (dataKind s.heap ds) oneType' := fun E x y a b Q ha hb hq => by
      obtain ⟨d, as, hd, ra, rfl⟩ := dataKind_inv ha
      obtain ⟨d', as', hd', rb, rfl⟩ := dataKind_inv hb
      rw [keyLt'_oneType]
      have h1 := hal d hd d' hd'
      have h2 := room (d' := d') hd
      obtain ⟨xs, rfl⟩ := ht d hd
      obtain ⟨ys, rfl⟩ := ht d' hd'
      exact oneLt_tups ra rb (by simpa [alike] using h1) h2 hq
    -- which of the two it is depends on the first item alone
    obtain ⟨fs, f1, f2⟩ := firsts_map (prog := prog) (w := w) (A := A) e ht
    have hn := f2 hm
    have hall : ¬ (fs.toArray.all fun x => x.isSome) = true := fun q => by
      simp only [List.all_toArray, List.all_eq_true] at q
      have := q none hn
      cases this
    cases hf : ((fs.toArray[0]?).bind id).isSome with
    | true =>
      refine ⟨general', lt1, fun _ E Q hq => ?_⟩
      rw [keyKind'_eq, List.mapM_toArray, map_eq_pure_bind]
      refine wpAny_bind (wpAny_bind (f1 E _ (wpAny_pure ?_)))
      rw [if_neg hall, if_pos hf]
      exact wpAny_pure hq
    | false =>
      refine ⟨oneType', lt2, fun h2 E Q hq => ?_⟩
      rw [keyKind'_eq, List.mapM_toArray, map_eq_pure_bind]
      refine wpAny_bind (wpAny_bind (f1 E _ (wpAny_pure ?_)))
      rw [if_neg hall, if_neg (by rw [hf]; exact Bool.false_ne_true)]
      rw [oneTypeOnly'_eq, List.mapM_toArray, map_eq_pure_bind]
      refine wpAny_bind (wpAny_bind (wpAny_bind (kas_mapM (r := Value.type "tuple") _ (fun v hv Q' hq => ?_) (wpAny_pure ?_))))
      · obtain ⟨d, hd, as, r⟩ := e.left v hv
        obtain ⟨xs, rfl⟩ := ht d hd
        exact (looks_reads r).here hq
      · have hall2 : ((List.map (fun _ => Value.type "tuple") vs).toArray.all fun x => x == Value.type "tuple") = true := by
          simp only [List.all_toArray, List.all_map, List.all_eq_true]
          intro _ _
          exact beq_self_eq_true _
        have h0 : (List.map (fun _ => Value.type "tuple") vs).toArray[0]? = some (Value.type "tuple") := by
          cases vs with
          | nil => simp at h2
          | cons v vs => simp
        rw [h0]
        simp only [hall2, if_true]
        exact wpAny_pure (wpAny_pure hq)
/-- alike data can be sorted -/
theorem sorts_all {vs : List Value} {ds : List PyData} (e : EachIs (fun v d => ∃ as, Reads s.heap v d as) vs ds) (hal : AllAlike ds) (hno : ∀ d ∈ ds, d ≠ .none) (hu : ∀ d, d ∈ ds → A.units + d.depth < cLine) : SortsAt prog w A s (dataKind s.heap ds) vs := by
  by_cases ht : ∀ d ∈ ds, ∃ xs, d = .tuple xs
  · by_cases hm : ∃ d ∈ ds, d = .tuple []
    · exact sorts_tups e hal ht hm hu
    · refine SortsAt.data e hal (.inl fun d hd => ?_) hu
      obtain ⟨xs, rfl⟩ := ht d hd
      cases xs with
      | nil => exact absurd ⟨_, hd, rfl⟩ hm
      | cons x r => exact ⟨x, r, rfl⟩
  · refine SortsAt.data e hal (.inr fun d hd => ⟨hno d hd, fun xs ex => ht fun d' hd' => ?_⟩) hu
    have q := hal d hd d' hd'
    rw [ex] at q
    cases d' <;> simp [alike] at q
    exact ⟨_, rfl⟩
/-- .. by what is known of an earlier heap -/
theorem sorts_conv {h0 : Heap} {vs : List Value} {ds : List PyData} (kp : ∀ b o, h0.get? b = some o → s.heap.get? b = some o) (hal : AllAlike ds) (e0 : EachIs (fun v d => ∃ as, Reads h0 v d as) vs ds) (S : SortsAt prog w A s (dataKind s.heap ds) vs) : SortsAt prog w A s (dataKind h0 ds) vs := by
  obtain ⟨kd, lt, kk⟩ := S.kind
  have conv : ∀ {x : Value} {a}, (dataKind h0 ds).keyOf x = some a → (dataKind s.heap ds).keyOf x = some a := fun {x a} ha => by
    obtain ⟨d, as, hd, ra, rfl⟩ := dataKind_inv ha
    exact dataKind_some hal hd (PyProof.Rows.Reads.keeps kp ra)
  refine ⟨fun v hv => ?_, kd, fun E x y a b Q ha hb hq => lt E x y a b (conv ha) (conv hb) hq, kk⟩
  obtain ⟨d, hd, as, r⟩ := e0.left v hv
  exact ⟨_, dataKind_some hal hd r⟩
/-- sorted(v), v a thing whose items can be collected -/
theorem sorted_src {E : Value → Shared → Prop} {v : Value} {vs : List Value} {κ : PyProof.Rows.KeyKind} {Q : Value → Shared → Prop} (hL : vs.length ≤ sizeLine)
    (hcol : ∀ (E : Value → Shared → Prop) (Q' : List Value → Shared → Prop), (∀ h' tk, (∀ b o, s.heap.get? b = some o → h'.get? b = some o) → Q' vs { s with heap := h', toks := tk }) → wpAny (model prog w) A.in1 (collect v) Q' E s)
    (hS : ∀ h' tk, (∀ b o, s.heap.get? b = some o → h'.get? b = some o) → SortsAt prog w A.in1.in1 { s with heap := h', toks := tk } κ vs)
    (h : ∀ (h1 h' : Heap) tk n, (∀ b o, s.heap.get? b = some o → h1.get? b = some o) → (∀ b o, h1.get? b = some o → h'.get? b = some o) → h'.get? h1.objs.size = some (seqObj "list" (sortVals κ false vs vs).toArray n) → Q (.ref h1.objs.size) { s with heap := h', toks := tk }) :
    wpAny (model prog w) A (call (.builtin "sorted") [v]) Q E s := by
  refine Calls.call_function_entry kind_sorted plain_sorted entry_sorted (args_sorted1 _) ?_
  unfold Builtin.«sorted»
  refine wpAny_bind (m := checkCount "sorted" 1 1 _) (wpAny_pure ?_)
  refine wpAny_bind (hcol _ _ fun h1 tk k1 => ?_)
  refine wpAny_bind (wpAny_newList ?_ hL)
  have hoL : (h1.push (seqObj "list" vs.toArray 0)).get? h1.objs.size = some (seqObj "list" vs.toArray 0) := Heap.get?_push_size _ rfl
  have hne : ∀ {b o}, h1.get? b = some o → b ≠ h1.objs.size := fun e => Nat.ne_of_lt (Heap.lt_size e)
  have keep : ∀ b o, h1.get? b = some o → (h1.push (seqObj "list" vs.toArray 0)).get? b = some o := fun b o e => Heap.get?_push_of_some _ e
  refine wpAny_bind (wpAny_holding (wpAny_call_entry slot_list_sort ⟨_, hoL, rfl⟩ entry_list_sort ?body (args_list_sort _)))
  case body =>
    refine list_sort_vals (s := { s with heap := h1.push (seqObj "list" vs.toArray 0), toks := tk }) hoL (hS _ _ fun b o e => sortingHeap_old (hne (k1 _ _ e)) (keep b o (k1 _ _ e))) hL ⟨_, rfl, wpAny_pure ⟨_, rfl, ?_⟩⟩
    obtain ⟨n, hn⟩ := sortedHeap_at (vs := vs) (out := (sortVals κ false vs vs).toArray) hoL
    exact h h1 _ _ n k1 (fun b o e => (sortedHeap_old (hne e) (Heap.lt_size (keep b o e))).trans (keep b o e)) hn
end
section
variable {X : Cx} {k : RC}
/-- the items of a thing, as values -/
theorem each_dp {pins : List (Addr × Obj)} {s : Shared} {σ : L2.St} {H : Hp} (hK : k.K = X.K) (I : Inv X pins σ H s) {F : Hp} (sub : Same F H) : ∀ {vs : List V} {ds : List D} {us : List Value}, Rs k F vs ds → Vals vs us → (∀ d ∈ ds, shp d = true) →
    EachIs (fun u d => ∃ as, Reads s.heap u (D.py d) as) us ds ∧ EachIs (fun u d => ∃ v, RelV v u ∧ R k F v d) us ds
  | _, _, _, .nil, .nil, _ => ⟨.nil, .nil⟩
  | _, _, _, .cons r rr, .cons v vv, h => by
    obtain ⟨h1, h2⟩ := each_dp hK I sub rr vv fun d hd => h d (List.mem_cons_of_mem _ hd)
    have dp := (r.mono sub).dp (SeqAt.canLay_of_shaped (h _ (List.mem_cons_self ..)))
    rw [hK] at dp
    exact ⟨.cons (Dp.reads I _ _ _ dp v) h1, .cons ⟨_, v, r⟩ h2⟩
theorem each_back {F : Hp} : ∀ {us : List Value} {ds : List D}, EachIs (fun u d => ∃ v, RelV v u ∧ R k F v d) us ds → ∃ vs, Vals vs us ∧ Rs k F vs ds
  | _, _, .nil => ⟨[], .nil, .nil⟩
  | _, _, .cons ⟨v, h1, h2⟩ t => by
    obtain ⟨vs, h3, h4⟩ := each_back t
    exact ⟨v :: vs, .cons h1 h3, .cons h2 h4⟩
theorem pys_map : ∀ ds : List D, D.pys ds = ds.map D.py
  | [] => rfl
  | d :: ds => by rw [D.pys, pys_map ds]; rfl
/-- sorted, once the items can be collected -/
theorem sort_go (hX : XOk X k) {pins : List (Addr × Obj)} {s : Shared} {σ : L2.St} {F H : Hp} {Q : VK} {u : Value} {us : List Value} {vs : List V} {ds : List D} (I : Inv X pins σ H s) (sub : Same F H) (rs : Rs k F vs ds) (rv : Vals vs us) (hz : vs.length ≤ sizeLine)
    (so : sortable ds)
    (hcol : ∀ (E : Value → Shared → Prop) (Q' : List Value → Shared → Prop), (∀ h' tk, (∀ b o, s.heap.get? b = some o → h'.get? b = some o) → Q' us { s with heap := h', toks := tk }) → wpAny (model X.prog X.w) X.A.in1 (collect u) Q' E s)
    (fin : ∀ p ws, H p = none → Rs k F ws (sortD ds) → Q (.ref p) (upd H p (.lst ws))) : wpAny (model X.prog X.w) X.A (call (.builtin "sorted") [u]) (EP X pins σ Q) X.xe s := by
  obtain ⟨so1, so2⟩ := so
  have un := hX.room.un
  have key : ∀ h' tk, (∀ b o, s.heap.get? b = some o → h'.get? b = some o) → EachIs (fun u d => ∃ as, Reads h' u (D.py d) as) us ds := fun h' tk kp =>
    (each_dp hX.K (I.kept (t' := tk) kp) sub rs rv fun d hd => (so1 d hd).1).1
  have e2 := (each_dp hX.K I sub rs rv fun d hd => (so1 d hd).1).2
  have hal : AllAlike (ds.map D.py) := fun d hd d' hd' => by
    obtain ⟨x, hx, rfl⟩ := List.mem_map.mp hd
    obtain ⟨y, hy, rfl⟩ := List.mem_map.mp hd'
    exact so2 x hx y hy
  -- the kind of keys is told at the heap of now
  refine sorted_src (κ := dataKind s.heap (ds.map D.py)) (by rw [← rv.length]; exact hz) hcol (fun h' tk kp => ?_) fun h1 h' tk n k1 k2 hn => ?_
  · refine sorts_conv (h0 := s.heap) kp hal (each_map (R := fun v d => ∃ as, Reads s.heap v d as) D.py (key s.heap s.toks fun _ _ e => e)) (sorts_all (s := { s with heap := h', toks := tk }) (each_map (R := fun v d => ∃ as, Reads h' v d as) D.py (key h' tk kp)) hal (fun d hd => ?_) fun d hd => ?_)
    · obtain ⟨x, hx, rfl⟩ := List.mem_map.mp hd
      exact (so1 x hx).2
    · obtain ⟨x, hx, rfl⟩ := List.mem_map.mp hd
      have := SeqAt.depth_of_shaped (so1 x hx).1
      show X.A.units + 1 + 1 + _ < _
      omega
  · have out := sortVals_data (h' := s.heap) (R := fun u d => ∃ v, RelV v u ∧ R k F v d) (enc := D.py) false e2 (key s.heap s.toks fun _ _ e => e) hal
    obtain ⟨ws, w1, w2⟩ := each_back out
    have I1 : Inv X pins σ H { s with heap := h1, toks := tk } := I.kept k1
    have hl : ws.length ≤ sizeLine := by
      rw [w2.length]
      show (ds.mergeSort leB).length ≤ _
      rw [List.length_mergeSort, ← rs.length]; exact hz
    refine ⟨.ref h1.objs.size, upd H h1.objs.size (.lst ws), I1.laid k2 (Nat.le_refl _) ⟨hl, _, n, w1, hn⟩, rfl, fin _ _ (I1.hok.fresh (Nat.le_refl _)) w2⟩
theorem cb_sorted (hX : XOk X k) : CallR X (.builtin "sorted") (rBlt k (bltP .sorted)) := by
  intro pins s σ H xs us Q I r ⟨ρ, σ', F, ds, QQ, rel, br, wp, fin⟩
  have hK := hX.K
  match ds, br, wp with
  | [.lst xs], br, wp =>
    obtain ⟨x, rfl, b⟩ := brs1 br
    obtain ⟨a, vs, rfl, t, q⟩ := b.lst rel.sub
    obtain ⟨u, rfl, rx⟩ := vals1 r
    cases rx
    obtain ⟨its, rv, pl, hz⟩ := I.list (.of t)
    have hlen := rv.length
    obtain ⟨o, ho, hc, n, hd⟩ := pl.isList
    exact sort_go hX I rel.sub q rv hz wp.1 (fun E Q' h => wpAny_collect_seq a (.inl rfl) ho hc hd (fun h' kp => by simpa using h h' s.toks kp) (by simp only [List.size_toArray] <;> omega)) fun p ws hn w2 => fin _ _ _ _ (.newL rel .refl hn w2) wp.2
  | [.tup xs], br, wp =>
    obtain ⟨x, rfl, b⟩ := brs1 br
    obtain ⟨a, vs, rfl, t, q⟩ := b.tup
    obtain ⟨u, rfl, rx⟩ := vals1 r
    cases rx
    have sq := (t.mono rel.sub).sq
    rw [hK] at sq
    obtain ⟨its, rv, pl, hz⟩ := I.tuple sq
    have hlen := rv.length
    obtain ⟨o, ho, hc, n, hd⟩ := pl
    exact sort_go hX I rel.sub q rv hz wp.1 (fun E Q' h => wpAny_collect_seq a (.inr rfl) ho hc hd (fun h' kp => by simpa using h h' s.toks kp) (by simp only [List.size_toArray] <;> omega)) fun p ws hn w2 => fin _ _ _ _ (.newL rel .refl hn w2) wp.2
  | [.dct kvs], br, wp =>
    obtain ⟨x, rfl, b⟩ := brs1 br
    obtain ⟨a, es, rfl, g1, g2, g3, g4⟩ := b.dct rel.sub
    obtain ⟨u, rfl, ru⟩ := vals1 r
    cases ru
    obtain ⟨o, ep, h1, h2, h3, h4, h5⟩ := dct_at I g1
    obtain ⟨vs, q1, q2⟩ := rk_keys g2
    have hl : vs.length = es.length := by rw [q1.length, List.length_map, g2.length]
    refine sort_go hX I rel.sub q1 q2 (by omega) wp.1 (fun E Q' h => ?_) fun p ws hn w2 => fin _ _ _ _ (.newL rel .refl hn w2) wp.2
    refine PySem.W.kdu_collect (kdl_raw h4 h2 h3) (show X.A.in1.handled = none from I.ok.hd hX.calm) h1 (by simpa using h5) fun h' tk acc' kp it => ?_
    have ea : acc'.toList = es.map (·.key) := by
      have hl : acc'.toList.length = es.length := by rw [Array.length_toList, it.1]; simp
      apply List.ext_getElem?
      intro j
      rw [List.getElem?_map]
      cases hj : acc'.toList[j]? with
      | none =>
        have := List.getElem?_eq_none_iff.mp hj
        rw [List.getElem?_eq_none (by omega)]
        rfl
      | some v =>
        obtain ⟨en, hen, hv⟩ := it.2 j v (by rw [← Array.getElem?_toList]; exact hj)
        have hen : es[j]? = some en := by simpa using hen
        rw [hen, hv]; rfl
    rw [ea]
    exact h h' tk kp
end
end PL
/-! PL15: isinstance, index, {}. -/
namespace PL
open PySem PySem.Spec PyProof.Rows L2
section
variable {X : Cx} {k : RC} {C : PC} {pos : Pos}
theorem qe_isi (hX : XOk X k) {t : Ty} {a : Expr} {ia : IE} {p p2 : Pos} {xt : Str} (hg : Gl X "isinstance") (hm : X.mg "isinstance" = none) (hgt : Gl X xt) (hmt : X.mg xt = none) (hvt : bootBuiltins xt = some (.type (tyName t))) (hnt : xt ≠ "__name__") (hdt : (xt == ("__debug__" : Str)) = false)
    (ha : PE X a (tE C k ia)) (he : starEach [a, .Name xt p2] X.env = (false, eval a X.env) :: starEach [.Name xt p2] X.env) :
    PE X (.Call (.Name "isinstance" p) [a, .Name xt p2] [] pos) (tE C k (.isi ia t)) :=
  weak (pe_callB (cb_isi hX t) hg hm boot_isinstance (pa_cons ha (pa_cons (pe_bltn (v := .ty (tyName t)) hgt hmt hvt rfl hnt hdt) pa_nil) he) (by decide) (by decide) he rfl) fun σ H Q ⟨ρ, F, QQ, rel, wp, fin⟩ =>
    ⟨ρ, F, _, rel, wp, fun r ρ1 v F1 H1 p ⟨h1, q⟩ => ⟨ρ1, σ, F1, r.toD, v, p.rel, p.lent, rfl, h1, fin _ _ _ _ _ (p.then (.flat p.rel .refl (.bl _))) q⟩⟩
/-! ### l.index(x) -/
theorem idx_find {xs : List D} {y : D} {j : Nat} (h : idxOfD xs y = some j) : ∃ z, xs[j]? = some z ∧ deq z y = true ∧ ∀ m z', m < j → xs[m]? = some z' → deq z' y = false := by
  unfold idxOfD at h
  obtain ⟨h1, h2, h3⟩ := List.findIdx?_eq_some_iff_getElem.mp h
  refine ⟨xs[j], List.getElem?_eq_getElem h1, h2, fun m z' hm hz => ?_⟩
  have q := h3 m hm
  have hl : m < xs.length := by omega
  rw [List.getElem?_eq_getElem hl] at hz
  cases hz
  simpa using q
/-- the index method, of lists and of tuples -/
theorem call_index (hX : XOk X k) {pins : List (Addr × Obj)} {s : Shared} {σ : L2.St} {F H : Hp} {x y : V} {u w : Value} {d e : D} {xs : List D} {j : Nat} {Q : VK} {T id : String} (I : Inv X pins σ H s) (sub : Same F H) (rx : RelV x u) (ry : RelV y w) (bx : BR k F H x d) (by' : BR k F H y e)
    (hT : (d = .lst xs ∧ id = "list.index") ∨ (d = .tup xs ∧ id = "tuple.index")) (h1 : shp e = true) (h2 : shp d = true) (hj : idxOfD xs e = some j) (q : Q (.int (j : Nat)) H) :
    wpAny (model X.prog X.w) X.A (call (.builtin id) [u, w]) (EP X pins σ Q) X.xe s := by
  have hK := hX.K
  have hu : X.A.units + 65 < cLine := by have := hX.room.un; omega
  obtain ⟨z, z1, z2, z3⟩ := idx_find hj
  have dy := by'.dp sub h1
  rw [hK] at dy
  have at_ : ∀ (m : Nat), (D.pys xs)[m]? = (xs[m]?).map D.py := pys_get xs
  rcases hT with ⟨rfl, rfl⟩ | ⟨rfl, rfl⟩
  · have dx := bx.dp sub h2
    rw [hK] at dx
    obtain ⟨a, vs, rfl, t, r⟩ := bx.lst sub
    refine mt_indexD hu pins s σ H (.ref a) [y] u [w] Q I rx (.cons ry .nil) ⟨a, y, e.py, D.pys xs, j, z.py, rfl, rfl, dx, dy, h2, h1, by rw [at_, z1]; rfl, z2, fun m z' hm hz => ?_, q⟩
    rw [at_] at hz
    obtain ⟨z'', e1, rfl⟩ := Option.map_eq_some_iff.mp hz
    exact z3 m z'' hm e1
  · obtain ⟨a, vs, rfl, t, r⟩ := bx.tup
    cases rx
    have c2 := SeqAt.canLay_of_shaped h2
    have sq := (t.mono sub).sq
    rw [hK] at sq
    obtain ⟨its, rv, ⟨⟨cls, dd, data, sls⟩, ho, hc, n, hd⟩, hz⟩ := I.tuple sq
    simp only at hc hd
    subst hc hd
    have dps := (r.mono sub).dp (by simpa only [D.py, PyData.canLay0] using c2)
    rw [hK] at dps
    obtain ⟨as, ra⟩ := Dp.readsAll I _ _ its dps rv
    obtain ⟨bs, rb⟩ := Dp.reads I _ _ _ dy ry
    have hxs : PyData.canLayAll0 (D.pys xs) = true := by simpa only [D.py, PyData.canLay0] using c2
    have hn : its.length = (D.pys xs).length := SeqAt.ReadsAll.length _ its as ra
    have hmap : its.map (SeqAt.readOf s.heap) = D.pys xs := SeqAt.readsAll_map _ its as hxs ra
    obtain ⟨hjl, _⟩ := List.getElem?_eq_some_iff.mp z1
    have hj' : j < its.toArray.size := by rw [List.size_toArray, hn, pys_len]; exact hjl
    have rd : ∀ (m : Nat) (hm : m < its.toArray.size) (z' : D), xs[m]? = some z' → SeqAt.readOf s.heap its.toArray[m] = z'.py := fun m hm z' hz' => by
      have hml : m < its.length := by simpa using hm
      have e0 : (D.pys xs)[m]? = some z'.py := by rw [at_, hz']; rfl
      rw [← hmap, List.getElem?_map, List.getElem?_eq_getElem hml] at e0
      have e1 : SeqAt.readOf s.heap its[m] = z'.py := Option.some.inj (show some (SeqAt.readOf s.heap its[m]) = some z'.py from e0)
      simpa using e1
    have dep := SeqAt.depth_of_shaped h1
    refine call_meets PySem.F.slot_tuple_index ⟨_, ho, rfl⟩ PySem.F.entry_tuple_index (PySem.F.args_tuple_index_2 _ _) (TI.tuple_indexAt a its.toArray n dd sls w (fun u => PyData.eqv (SeqAt.readOf s.heap u) e.py) j hj' ?_ ?_)
      ⟨ho, SeqAt.items_eqAt (vs := its.toArray) (show ReadsAll s.heap its.toArray.toList (D.pys xs) as from ra) rb hxs (SeqAt.canLay_of_shaped h1) ?_, ⟨.int (j : Nat), H, I.tok _, ⟨_, rfl⟩, q⟩⟩
    · show PyData.eqv (SeqAt.readOf s.heap its.toArray[j]) e.py = true
      rw [rd j hj' z z1]; exact z2
    · intro m hm hmj
      show PyData.eqv (SeqAt.readOf s.heap its.toArray[m]) e.py = false
      have hml : m < xs.length := by omega
      rw [rd m hm xs[m] (List.getElem?_eq_getElem hml)]
      exact z3 m _ hmj (List.getElem?_eq_getElem hml)
    · show X.A.units + 1 + min (PyData.depthAll (D.pys xs)) e.py.depth < cLine
      have := Nat.min_le_right (PyData.depthAll (D.pys xs)) e.py.depth
      omega
/-- o.index(y) -/
theorem qe_index (hX : XOk X k) {o e : Expr} {es : List Expr} {io ies : IE} {apos cpos : Pos} (ho : PE X o (tE C k io)) (ha : PA X (e :: es) (tA C k true ies))
    (hbase : attributeBase o "index" X.env (eval o X.env) = eval o X.env)
    (hfew : ((backTo cpos (starEach (e :: es) X.env)).all (fun x => !x.1) && (backToKw cpos (keywordEach [] X.env)).all (fun x => x.1.isSome)
      && decide ((e :: es).length + ([] : List Keyword).length + (if ([] : List Keyword).isEmpty then 0 else 1) < 30)) = true)
    (hline : (apos.endLine == cpos.line) = true) (hs : starEach (e :: es) X.env = (false, eval e X.env) :: starEach es X.env) (hplain : (backTo cpos (starEach es X.env)).any (·.1) = false) :
    PE X (.Call (.Attribute o "index" apos) (e :: es) [] cpos) (tE C k (.mth .index io ies)) := by
  refine ⟨fun pins s σ H Q I ⟨ρ, F, QQ, rel, wp, fin⟩ => ?_⟩
  refine wpAny_Call_method_late hbase hfew hline rfl (thn (ho.run pins s σ H (fun v H1 => ∃ ρ1 F1 r, EPost k ρ σ F H r v ρ1 F1 H1 ∧ recvOk .index r.toD = true ∧ wpA C true ies ρ1 fun ds ρ2 => mthP .index r.toD ds fun r => QQ r ρ2) I ⟨ρ, F, _, rel, wp, fun r ρ1 v F1 H1 p q => ⟨ρ1, F1, r, p, q⟩⟩) fun v s1 ⟨x, H1, I1, r1, ρ1, F1, r, p, rc, q1⟩ => ?_)
  have hK := hX.K
  have step : ∀ (T id : String) (xs : List D), ((r.toD = .lst xs ∧ id = "list.index") ∨ (r.toD = .tup xs ∧ id = "tuple.index")) → wpAny (model X.prog X.w) X.A (callWith cpos (.builtin id) [v] (backTo cpos (starEach (e :: es) X.env)) []) (EP X pins σ Q) X.xe s1 := fun T id xs hT => by
    have hA := ha.run cpos pins s1 σ H1 (fun vs H2 => ∃ ρ2 F2 ds, Rel k ρ2 σ F2 H2 ∧ ETr k ρ1 σ F1 H1 ρ2 F2 H2 ∧ BRs k F2 H2 vs ds ∧ mthP .index r.toD ds fun r => QQ r ρ2) I1 ⟨ρ1, F1, _, p.rel, q1, fun ds ρ2 vs F2 H2 r2 t2 a2 q => ⟨ρ2, F2, ds, r2, t2, a2, q⟩⟩
    rw [hs] at hA ⊢
    refine Calls.callWith_builtin (by show (false || (backTo cpos (starEach es X.env)).any (·.1)) = false; rw [hplain] <;> rfl) (Calls.evalArgs_plain ?_)
    refine thn hA fun us s2 ⟨vs, H2, I2, r2, ρ2, F2, ds, rel2, tr2, a2, q2⟩ => ?_
    have bx : BR k F2 H2 x r.toD := p.lent.tr tr2 rel2
    match ds, a2, q2 with
    | [y], a2, ⟨⟨s1, s2⟩, q2⟩ =>
      obtain ⟨yv, rfl, by'⟩ := brs1 a2
      obtain ⟨w, rfl, ry⟩ := vals1 r2
      have fl : ∀ j : Nat, QQ (.val (.int j)) ρ2 → Q (.int (j : Nat)) H2 := fun j q => fin _ _ _ _ _ (p.then ((⟨rel2, tr2, .non⟩ : EPost k ρ1 σ F1 H1 (.val .non) .non ρ2 F2 H2).then (.flat rel2 .refl (.int _)))) q
      rcases hT with ⟨e1, e2⟩ | ⟨e1, e2⟩
      · rw [e1] at q2
        obtain ⟨j, hj, q3⟩ := q2
        exact call_index hX (T := T) I2 rel2.sub r1 ry bx by' (.inl ⟨e1, e2⟩) s1 s2 hj (fl j q3)
      · rw [e1] at q2
        obtain ⟨j, hj, q3⟩ := q2
        exact call_index hX (T := T) I2 rel2.sub r1 ry bx by' (.inr ⟨e1, e2⟩) s1 s2 hj (fl j q3)
  have l := p.lent
  cases ed : r.toD with
  | lst xs =>
    rw [ed] at l
    obtain ⟨a, vs, rfl, t, rr⟩ := l.lst p.rel.sub
    cases r1
    obtain ⟨its, _, pl, _⟩ := I1.list (.of t)
    refine ⟨"list", "list.index", PySem.F.plainAttrs_list, PySem.F.slot_list_index, PySem.F.type_list_index, pl.isList.typeIs, fun a' e' => ?_, step "list" _ xs (.inl ⟨ed, rfl⟩)⟩
    cases e'
    obtain ⟨o, n, e, c, hd, _⟩ := pl
    exact ⟨o, e, hd⟩
  | tup xs =>
    rw [ed] at l
    obtain ⟨a, vs, rfl, t, rr⟩ := l.tup
    cases r1
    have tt := t.mono p.rel.sub
    have key : ∃ ob, s1.heap.get? a = some ob ∧ ob.cls = .type "tuple" ∧ ob.dict = none := by
      rcases tt with ⟨ob, h1, h2⟩ | ⟨ob, its, n, h1, h2, h3, _⟩
      · obtain ⟨g1, _, its, _, ob', g2, g3, _⟩ := I1.hok _ _ h1
        have := g1.symm.trans g2
        cases this
        exact ⟨ob, g1, g3, h2⟩
      · rw [hK] at h1
        exact ⟨ob, I1.kIn a ob h1, h2, h3⟩
    obtain ⟨ob, k1, k2, k3⟩ := key
    refine ⟨"tuple", "tuple.index", PySem.F.plainAttrs_tuple, PySem.F.slot_tuple_index, PySem.F.type_tuple_index, ⟨ob, k1, k2⟩, fun a' e' => ?_, step "tuple" _ xs (.inr ⟨ed, rfl⟩)⟩
    cases e'
    exact ⟨ob, k1, k3⟩
  | _ => rw [ed] at rc; cases rc
/-! ### {} -/
theorem dct_empty (a : Addr) (o : Obj) (F : Hp) (h : o.ExactDict) (hd : o.data = .dict #[] 0) (ha : (a == sysModules) = false) (e : F a = some (exO a o)) : DctAt F a [] := ⟨o, 0, e, h, by simpa using hd, ha, by decide⟩
theorem qe_dnew : PE X (.Dict [] [] pos) (tE C k .dnew) := ⟨fun pins s σ H Q I ⟨ρ, F, QQ, rel, wp, fin⟩ => wpAny_Dict_empty (by
    have hn := I.hok.fresh (Nat.le_refl s.heap.objs.size)
    have ha : (s.heap.objs.size == sysModules) = false := beq_eq_false_iff_ne.mpr (Ne.symm (Nat.ne_of_lt I.big))
    have hg : (s.heap.push { cls := .type "dict", data := .dict #[] }).get? s.heap.objs.size = some { cls := .type "dict", data := .dict #[] } := Heap.get?_push_size _ rfl
    refine ⟨.ref s.heap.objs.size, upd H s.heap.objs.size (exO s.heap.objs.size { cls := .type "dict", data := .dict #[] }), I.laid (t' := s.toks) (fun _ _ q => Heap.get?_push_of_some _ q) (Nat.le_refl _) ⟨hg, ⟨_, hg⟩, fun g1 g2 q1 q2 => q2 _ q1⟩, rfl, ?_⟩
    refine fin (.owd []) ρ _ F _ ⟨rel.newH hn, .keepH (Same.upd_new hn), s.heap.objs.size, rfl, hn, [], dct_empty _ _ _ ⟨rfl, rfl, rfl⟩ rfl ha upd_same, rel.fnone hn, rel.nopN hn, .nil, by simp, fun p hp => by simp at hp⟩ wp)⟩
end
end PL
/-! PL16: dict comprehensions. -/
namespace PL
open PySem PySem.Spec PyProof.Rows L2
section
variable {X : Cx} {k : RC} {pins : List (Addr × Obj)} {σ : L2.St} {F H : Hp} {s : Shared} {a : Addr} {es : List DictEntry} {kvs : List (D × D)} {y : V} {u : Value} {kd : D}
theorem dk_room0 (hX : XOk X k) : (nestedKind X.prog X.w).room X.A := by
  have := hX.room.un
  show X.A.units + 8 < cLine
  omega
/-- a dict comprehension's store -/
theorem d_dset (hX : XOk X k) (I : Inv X pins σ H s) (sub : Same F H) (da : DctAt H a es) (rk : RKs k F es kvs) (nd : (kvs.map fun p => nk p.1).Nodup) (r : R k F y kd) (ry : RelV y u) (ok : keyOk kvs kd = true) (hz : kvs.length < sizeLine)
    {vd : D} {vv : V} {w : Value} (rw' : RelV vv w) (rv : R k F vv vd)
    {Q : Unit → Shared → Prop} {E : Value → Shared → Prop} (h : ∀ s' es' o', Inv X pins σ (upd H a (exO a o')) s' → DctAt (upd H a (exO a o')) a es' → RKs k F es' (putD kvs kd vd) → ((putD kvs kd vd).map fun p => nk p.1).Nodup → (∀ p ∈ putD kvs kd vd, ∀ q ∈ putD kvs kd vd, scal p.1 = scal q.1) → Q () s') :
    wpAny (model X.prog X.w) X.A (dictSet a u w) Q E s := by
  obtain ⟨o0, ep0, hob, hex, hdt, hs, hl⟩ := dct_at I da
  obtain ⟨n, h1, h2, h3⟩ := keyOk_iff ok
  have mu : Mut (H a) := by
    obtain ⟨o, ep, e1, _⟩ := id da
    rw [e1]; trivial
  have fin : ∀ {h' : Heap} {t : Nat} {es' : List DictEntry} {o' : Obj} {ep' : Nat}, h'.get? a = some o' → o'.ExactDict → o'.data = .dict es'.toArray ep' → es'.length ≤ sizeLine → Heap.SameBut a s.heap h' → RKs k F es' (putD kvs kd vd) → ((putD kvs kd vd).map fun p => nk p.1).Nodup →
      (∀ p ∈ putD kvs kd vd, ∀ q ∈ putD kvs kd vd, scal p.1 = scal q.1) → Q () { s with heap := h', toks := t } := fun {h' t es' o' ep'} e1 e2 e3 e4 sb e5 e6 e7 => by
    have J : Inv X pins σ (upd H a (exO a o')) { s with heap := h', toks := t } := by
      refine I.write mu (.inl rfl) (fun b ob hb e => (sb.2 b hb).trans e) ⟨o', e1⟩ ?_
      refine ⟨e1, ⟨o', e1⟩, fun g1 g2 q1 q2 => q2 _ q1⟩
    exact h _ es' o' J ⟨o', ep', upd_same, e2, e3, hs, e4⟩ e5 e6 e7
  have hlen : ∀ {κ : Type} [DecidableEq κ] {n m : Nat}, n ≤ m + 1 → m < sizeLine → n ≤ sizeLine := fun a b => by omega
  cases e : scal kd with
  | true =>
    obtain ⟨c, hc⟩ := skey_of e
    have un : ∀ p ∈ kvs, scal p.1 = true := fun p hp => (h3 p hp).trans e
    obtain ⟨ps, q1, q2⟩ := dv_s hX I da rk nd un
    have hps : ps.length = kvs.length := q2.len
    refine wpAny_dictSet_pairs (hsz := by rw [hps]; omega) (key_is hc r ry _ _) q1 fun h' hd sb => ?_
    obtain ⟨o', esA, ep', g1, g2, g3, g4, g5, g6⟩ := hd
    have sx := q2.put hc rw' rv
    have hw := hX.w
    rw [← hw] at g4 g5
    obtain ⟨x1, x2⟩ := sx_rk (es := []) (P := X.prog) sx g5 (by simpa using g4)
    have l1 : esA.toList.length = (stored ps c w).length := g5.length
    have l2 := stored_length_le ps c w
    exact fin (es' := esA.toList) g1 g2 (by simpa using g3) (by omega) sb x1 ((sx_nodup sx).mp g6) fun p hp q hq => (x2 p hp).trans (x2 q hq).symm
  | false =>
    have un : ∀ p ∈ kvs, scal p.1 = false := fun p hp => (h3 p hp).trans e
    obtain ⟨ps, q1, q2⟩ := dv_h hX I sub da rk nd un
    obtain ⟨q, rfl⟩ := key_ref e h1 r
    cases ry
    have kin : k.K.In s.heap := by rw [hX.K]; exact I.kIn
    have hps : ps.length = kvs.length := q2.len
    refine wpAny_dictSet_heap (hsz := by rw [hps]; omega) (dk_room0 hX) ⟨nIs kin I.hok (r.mono sub) h1 rfl, h2⟩ q1 fun h' hd sb => ?_
    obtain ⟨o', esA, ep', g1, g2, g3, g4, g5, g6⟩ := hd
    have hx := q2.put h1 h2 r rw' rv
    have x1 := hx_rk (P := X.prog) hx
    have hw := hX.w
    rw [hw, ← g4] at x1
    have l1 : esA.toList.length = (storedH ps n q w).length := by rw [g4, List.length_map]
    have l2 : (storedH ps n q w).length ≤ ps.length + 1 := by
      unfold storedH
      split
      · rw [List.length_map]; omega
      · rw [List.length_append]; simp
    have x2 := hx_scal hx
    exact fin (es' := esA.toList) g1 g2 (by simpa using g3) (by omega) sb x1 ((hx_nodup hx).mp g6) fun p hp q hq => (x2 p hp).trans (x2 q hq).symm
end
section
variable {X : Cx} {k : RC} {C : PC}
/-- the empty dict object -/
abbrev emptyD : Obj := { cls := .type "dict", data := .dict #[] }
/-- a pair goes into the new dict at D -/
def rDs (k : RC) (D : Addr) (y z : V) (H : Hp) (Q : Hp → Prop) : Prop := ∃ F es kvs kd vd, Same F H ∧ DctAt H D es ∧ RKs k F es kvs ∧ (kvs.map fun p => nk p.1).Nodup ∧ R k F y kd ∧ keyOk kvs kd = true ∧ kvs.length < sizeLine ∧ R k F z vd ∧
  ∀ es' o', DctAt (upd H D (exO D o')) D es' → RKs k F es' (putD kvs kd vd) → ((putD kvs kd vd).map fun p => nk p.1).Nodup → (∀ p ∈ putD kvs kd vd, ∀ q ∈ putD kvs kd vd, scal p.1 = scal q.1) → Q (upd H D (exO D o'))
def tDx (k : RC) (wi : TI) (g : TG) (tt : TT) (tk tv : TE) (vs : List Nat) : TE := fun σ H Q => wi σ H fun J H1 => ∀ D, H1 D = none → (D == sysModules) = false → ∃ W : Nat → Nat → Hp → Prop, (∃ m, W 0 m (upd H1 D (exO D emptyD))) ∧ ∀ i m H, W i m H →
  (J.stop i H ∧ Q (.ref D) H) ∨ (J.go i H ∧ ∃ Nx : Hp → Prop, (∀ H', Nx H' → ∃ m', m' < m ∧ W (i + 1) m' H') ∧ ∀ x H', J.yld i H x H' → g x (L2.wipe σ vs) H' fun σ2 H2 => L2.wipe σ2 vs = L2.wipe σ vs ∧ tt σ2 H2 fun b H3 =>
    if b = true then tk σ2 H3 fun y H4 => tv σ2 H4 fun z H5 => rDs k D y z H5 Nx else Nx H3)
theorem ex_empty {P : Program} {w : World} {H : Hp} (h : Heap) : ObjOk P w H (h.push emptyD) h.objs.size (exO h.objs.size emptyD) :=
  have hg : (h.push emptyD).get? h.objs.size = some emptyD := Heap.get?_push_size _ rfl
  ⟨hg, ⟨_, hg⟩, fun g1 g2 q1 q2 => q2 _ q1⟩
theorem dx_core (hX : XOk X k) {pins : List (Addr × Obj)} {s : Shared} {σ : L2.St} {H : Hp} {Q : VK} {kx vx tg iter : Expr} {ifs : List Expr} {scope : Scope} {own : List (Str × Nat)} {pos pos' : Pos} {wi : TI} {g : TG} {tt : TT} {tk tv : TE} {use : Option (Value → Sem Unit)} {Qf : Value → Shared → Prop}
    (hN : X.N.Nodup) (I : Inv X pins σ H s) (hi : PI X tg iter wi) (ok : BlkOk X.N X.env.scope scope own)
    (hg : ∀ (s : Shared) (H : Hp) (C : Addr) (cl : List (Str × Addr)) (fp : List Addr), PG (X.blk s H scope (compEnvC scope cl C X.env) fp) tg g)
    (ht : ∀ (s : Shared) (H : Hp) (C : Addr) (cl : List (Str × Addr)) (fp : List Addr), PTs (X.blk s H scope (compEnvC scope cl C X.env) fp) ifs tt)
    (hk : ∀ (s : Shared) (H : Hp) (C : Addr) (cl : List (Str × Addr)) (fp : List Addr), PE (X.blk s H scope (compEnvC scope cl C X.env) fp) kx tk)
    (he : ∀ (s : Shared) (H : Hp) (C : Addr) (cl : List (Str × Addr)) (fp : List Addr), PE (X.blk s H scope (compEnvC scope cl C X.env) fp) vx tv) (hs : ∀ x, foldedSetIterable iter X.env x = pure x)
    (h : tDx k wi g tt tk tv (own.map (·.2)) σ H Q)
    (hRR : ∀ D C s' m H', Inv X pins σ H' s' → Q (.ref D) H' → s'.heap.Ns C m → FpOk X pins H' C → compPost (model X.prog X.w) X.A X.xe use Qf (.ref D) C (.ok .next) s') :
    wpAny (model X.prog X.w) X.A (comprehension (.DictComp kx vx [⟨tg, iter, ifs, 0⟩] scope pos) scope X.env pos' newDict false (eval iter X.env) use) Qf X.xe s := by
  have hc := hX.calm
  have hfree : ∀ y ∈ scope.names, y.2 = .free → ∃ c, X.env.cells.lookup y.1 = some c := fun y hy e => (ok.free y hy e).elim (fun z => I.ok.has _ (.inl z)) fun z => I.ok.has _ (.inr z)
  refine wpAny_comprehension_free (use := use) rfl hs (closure_ok hfree) ok.kind (fun y hy e => by rw [ok.uniq y hy, e])
    (thn (hi.run pins s σ H _ I h) fun xv s1 hx => thn hx fun itv s2 ⟨it, fp, tn, J, H2, e, I2, T, st2, f2, q⟩ => ?_)
  subst e
  refine wpAny_newObj_type (newEnv_comp ?_)
  -- the new dict stands at D
  obtain ⟨D, hD⟩ : ∃ D, s2.heap.objs.size = D := ⟨_, rfl⟩
  have hDn : H2 D = none := I2.hok.fresh (Nat.le_of_eq hD)
  have hDs : (D == sysModules) = false := beq_eq_false_iff_ne.mpr (by rw [← hD]; exact Ne.symm (Nat.ne_of_lt I2.big))
  obtain ⟨W, ⟨m0, w0⟩, turn⟩ := q D hDn hDs
  obtain ⟨s3, hs3⟩ : ∃ s3 : Shared, ({ s2 with heap := s2.heap.push emptyD } : Shared) = s3 := ⟨_, rfl⟩
  have h3 : s3.heap = s2.heap.push emptyD := by rw [← hs3]
  have I3 : Inv X pins σ (upd H2 D (exO D emptyD)) s3 := by
    rw [← hs3]
    refine I2.laid (t' := s2.toks) (fun b o e => Heap.get?_push_of_some _ e) (Nat.le_of_eq hD) ?_
    subst hD
    exact ex_empty s2.heap
  have below : ∀ b ∈ fp, b < s2.heap.objs.size := fun b hb => let ⟨_, e, _⟩ := T.obj _ _ st2 b hb; Heap.lt_size e
  obtain ⟨H3, hH3⟩ : ∃ H3, upd H2 D (exO D emptyD) = H3 := ⟨_, rfl⟩
  rw [hH3] at I3 w0
  have f3 : ∀ b ∈ fp, FpOk X pins H3 b ∧ b < s3.heap.objs.size := fun b hb => by
    have hlt := below b hb
    have ne : b ≠ D := by rw [← hD]; exact Nat.ne_of_lt hlt
    refine ⟨⟨?_, (f2 b hb).2⟩, ?_⟩
    · rw [← hH3, upd_ne ne]; exact (f2 b hb).1
    · rw [h3, Heap.size_push]; exact Nat.lt_succ_of_lt hlt
  have st3 : tn 0 s3.heap := T.keep _ _ _ st2 fun b _ o e => by rw [h3]; exact Heap.get?_push_of_some _ e
  have I4 := block_start I3 ok hN f3
  -- the block's parts
  obtain ⟨ce, hce⟩ : ∃ ce, compEnvC scope (cellsFrom (s3.heap.objs.size + 1) scope.names (cloFrom X.env.cells scope.names [])) s3.heap.objs.size X.env = ce := ⟨_, rfl⟩
  have pg := hg s3 H3 s3.heap.objs.size (cellsFrom (s3.heap.objs.size + 1) scope.names (cloFrom X.env.cells scope.names [])) fp
  have pt := ht s3 H3 s3.heap.objs.size (cellsFrom (s3.heap.objs.size + 1) scope.names (cloFrom X.env.cells scope.names [])) fp
  have pk := hk s3 H3 s3.heap.objs.size (cellsFrom (s3.heap.objs.size + 1) scope.names (cloFrom X.env.cells scope.names [])) fp
  have pv := he s3 H3 s3.heap.objs.size (cellsFrom (s3.heap.objs.size + 1) scope.names (cloFrom X.env.cells scope.names [])) fp
  show codeAny _ _ (.compStart (.DictComp kx vx [⟨tg, iter, ifs, 0⟩] scope pos) 0 (.ref it) (.ref s2.heap.objs.size) (compEnvC scope (cellsFrom (s2.heap.push emptyD).objs.size.succ scope.names (cloFrom X.env.cells scope.names [])) (s2.heap.push emptyD).objs.size X.env)) (compPost (model X.prog X.w) X.A X.xe use Qf (.ref s2.heap.objs.size) (s2.heap.push emptyD).objs.size) { s2 with heap := pushCells ((s2.heap.push emptyD).push { cls := .type "dict", data := .dict #[] }) scope.names }
  have es4 : ({ s2 with heap := pushCells ((s2.heap.push emptyD).push { cls := .type "dict", data := .dict #[] }) scope.names } : Shared) = { s3 with heap := pushCells (s3.heap.push { cls := .type "dict", data := .dict #[] }) scope.names } := by rw [← hs3]
  rw [es4, hD, ← h3]
  show codeAny _ _ (.compStart (.DictComp kx vx [⟨tg, iter, ifs, 0⟩] scope pos) 0 (.ref it) (.ref D) (compEnvC scope (cellsFrom (s3.heap.objs.size + 1) scope.names (cloFrom X.env.cells scope.names [])) s3.heap.objs.size X.env)) (compPost (model X.prog X.w) X.A X.xe use Qf (.ref D) s3.heap.objs.size) { s3 with heap := pushCells (s3.heap.push { cls := .type "dict", data := .dict #[] }) scope.names }
  rw [hce] at I4 pg pt pk pv ⊢
  have cL : ce.locals = s3.heap.objs.size := by rw [← hce]; rfl
  obtain ⟨s4, hs4⟩ : ∃ s4 : Shared, ({ s3 with heap := pushCells (s3.heap.push { cls := .type "dict", data := .dict #[] }) scope.names } : Shared) = s4 := ⟨_, rfl⟩
  rw [hs4] at I4 ⊢
  have st4 : tn 0 s4.heap := T.keep _ _ _ st3 fun b _ o e => by rw [← hs4]; exact pushCells_keeps _ _ _ _ (Heap.get?_push_of_some _ e)
  have stat : ∀ {σ' : L2.St} {H' : Hp} {s' : Shared}, Inv (X.blk s3 H3 scope ce fp) [] σ' H' s' → (∀ b ∈ fp, H' b = none) → ∀ b ∈ fp, FpOk (X.blk s3 H3 scope ce fp) [] H' b := fun I' hn b hb =>
    ⟨hn b hb, (I'.ok.exf b hb).1, I'.ok.exfs b hb, .inl hb, fun x c e => (I'.ok.exf b hb).2 x c e, fun p hp => absurd (show p ∈ ([] : List (Addr × Obj)) ++ [] from hp) (by simp)⟩
  have loop : codeAny (model X.prog X.w) X.A (.compLoop (.DictComp kx vx [⟨tg, iter, ifs, 0⟩] scope pos) 0 (.ref it) (.ref D) ce) (compPost (model X.prog X.w) X.A X.xe use Qf (.ref D) s3.heap.objs.size) s4 := by
    refine compLoop_anyD (fun n s' => ∃ i H', Inv (X.blk s3 H3 scope ce fp) [] (L2.wipe σ (own.map (·.2))) H' s' ∧ tn i s'.heap ∧ (∀ b ∈ fp, H' b = none) ∧ W i n H') ?_ m0 ⟨0, H3, I4, st4, fun b hb => (f3 b hb).1.1, w0⟩
    rintro n s5 ⟨i, H5, I5, st5, n5, w5⟩
    rcases turn i n H5 w5 with ⟨stop, qq⟩ | ⟨go, Nx, hNx, step⟩
    · refine thnF (T.done (X.blk s3 H3 scope ce fp) rfl rfl rfl hc i [] s5 _ H5 (fun _ _ => False) I5 (stat I5 n5) st5 stop) fun r s6 ⟨hr, I6⟩ => ?_
      subst hr
      have I7 : Inv X pins σ H5 s6 := I3.call' (ch := fp) I6.os I6.base I6.hok I6.bare fun b hb => ⟨(f3 b hb).1.2.2.2.1, (f3 b hb).1.2.1, (f3 b hb).1.2.2.2.2.1, (f3 b hb).1.2.2.2.2.2⟩
      have nC : H5 s3.heap.objs.size = none := by rw [← cL]; exact I6.free
      obtain ⟨m, hn, _⟩ := I6.loc
      have hn : s6.heap.Ns ce.locals m := hn
      rw [cL] at hn
      exact hRR D s3.heap.objs.size s6 m H5 I7 qq hn (I3.fpOk (Nat.le_refl _) nC)
    · refine thnF (T.item (X.blk s3 H3 scope ce fp) rfl rfl rfl hc i [] s5 _ H5 (fun _ _ => False) I5 (stat I5 n5) st5 go) fun r s6 ⟨u, hr, h6⟩ => ?_
      subst hr
      refine thnF h6 fun _ s7 ⟨x, H7, I7, r7, y7, st7, n7⟩ => ?_
      refine thnF (pg.run _ s7 _ H7 x u _ (I7.pinned (stat I7 n7) (T.obj _ _ st7)) r7 (step x H7 y7)) fun _ s8 ⟨σ8, H8, I8, hw8, q8⟩ => ?_
      refine thnF (pt.run _ s8 σ8 H8 _ I8 q8) fun b s9 ⟨H9, I9, q9⟩ => ?_
      have fin : ∀ {s' : Shared} {H' : Hp}, Inv (X.blk s3 H3 scope ce fp) ([] ++ pinsAt fp s7.heap) σ8 H' s' → Nx H' → ∃ m, m < n ∧ ∃ i H', Inv (X.blk s3 H3 scope ce fp) [] (L2.wipe σ (own.map (·.2))) H' s' ∧ tn i s'.heap ∧ (∀ b ∈ fp, H' b = none) ∧ W i m H' := fun {s' H'} I' nx => by
        obtain ⟨m', hm, w'⟩ := hNx H' nx
        have pin' : ∀ b ∈ fp, ∀ o, s7.heap.get? b = some o → s'.heap.get? b = some o ∧ H' b = none := fun b hb o e =>
          let z := I'.pin (b, o) (List.mem_append_right _ (List.mem_append_right _ (mem_pinsAt hb e)))
          ⟨z.1, z.2.1⟩
        have hl : (L2.wipe σ (own.map (·.2))).length = σ8.length := by rw [← hw8, wipe_length]
        refine ⟨m', hm, i + 1, H', (I'.unpinned (pins := [])).weak hl (fun j v e => ?_), T.keep _ _ _ st7 fun b hb o e => (pin' b hb o e).1, fun b hb => ?_, w'⟩
        · rw [← hw8] at e
          exact (wipe_some e).1
        · obtain ⟨o, e, _⟩ := T.obj _ _ st7 b hb
          exact (pin' b hb o e).2
      cases b with
      | false =>
        simp only [Bool.false_eq_true, if_false] at q9 ⊢
        exact fin I9 q9
      | true =>
        simp only [if_true] at q9 ⊢
        refine thnF (pk.run _ s9 σ8 H9 _ I9 q9) fun z s10 ⟨yk, H10, I10, r10, q10⟩ => ?_
        refine thnF (pv.run _ s10 σ8 H10 _ I10 q10) fun z2 s11 ⟨yv, H11, I11, r11, q11⟩ => ?_
        obtain ⟨F, es, kvs, kd, vd, g1, g2, g3, g4, g5, g6, g7, g8, g9⟩ := q11
        have hXb : XOk (X.blk s3 H3 scope ce fp) k := ⟨hX.K, hX.w, hX.calm, hX.room⟩
        exact d_dset hXb I11 g1 g2 g3 g4 g5 r10 g6 g7 r11 g8 fun s12 es' o' I12 d1 d2 d3 d4 => fin I12 (g9 es' o' d1 d2 d3 d4)
  exact codeAny_compStart_dict loop (T.self X.A 0 _ _ _ st4 loop)
/-- as a value -/
theorem pe_dx (hX : XOk X k) {kx vx tg iter : Expr} {ifs : List Expr} {scope : Scope} {own : List (Str × Nat)} {pos : Pos} {wi : TI} {g : TG} {tt : TT} {tk tv : TE} (hN : X.N.Nodup) (hi : PI X tg iter wi) (ok : BlkOk X.N X.env.scope scope own)
    (hg : ∀ (s : Shared) (H : Hp) (C : Addr) (cl : List (Str × Addr)) (fp : List Addr), PG (X.blk s H scope (compEnvC scope cl C X.env) fp) tg g)
    (ht : ∀ (s : Shared) (H : Hp) (C : Addr) (cl : List (Str × Addr)) (fp : List Addr), PTs (X.blk s H scope (compEnvC scope cl C X.env) fp) ifs tt)
    (hk : ∀ (s : Shared) (H : Hp) (C : Addr) (cl : List (Str × Addr)) (fp : List Addr), PE (X.blk s H scope (compEnvC scope cl C X.env) fp) kx tk)
    (he : ∀ (s : Shared) (H : Hp) (C : Addr) (cl : List (Str × Addr)) (fp : List Addr), PE (X.blk s H scope (compEnvC scope cl C X.env) fp) vx tv) (hs : ∀ x, foldedSetIterable iter X.env x = pure x) :
    PE X (.DictComp kx vx [⟨tg, iter, ifs, 0⟩] scope pos) (tDx k wi g tt tk tv (own.map (·.2))) := by
  refine ⟨fun pins s σ H Q I h => ?_⟩
  rw [arm_eval_DictComp]
  refine dx_core hX hN I hi ok hg ht hk he hs h fun D C s' m H' I' q hn f => ⟨m, hn, fun h'' sb => ?_⟩
  obtain ⟨f0, f1, f2, f3, f4, f5⟩ := f
  exact ⟨.ref D, H', I'.turned (t' := s'.toks) (fun b o hb e => (sb.2 b hb).trans e) f0 f1 f3 f4 f5, rfl, q⟩
/-- the new dict that a comprehension fills -/
structure NewX (k : RC) (ρ : PEnv) (σ : L2.St) (F H : Hp) (D : Addr) (acc : List (PL.D × PL.D)) : Prop where
  at_ : ∃ es, DctAt H D es ∧ RKs k F es acc ∧ (acc.map fun p => nk p.1).Nodup ∧ ∀ p ∈ acc, ∀ q ∈ acc, scal p.1 = scal q.1
  fn : F D = none
  np : ¬ inP' k D
  no : ∀ i, ¬ OwnAt ρ σ i D
theorem dct_there {H : Hp} {D : Addr} {es : List DictEntry} (h : DctAt H D es) : ∃ o, H D = some (exO D o) := let ⟨o, _, e, _⟩ := h; ⟨o, e⟩
theorem NewX.next {ρ ρ' : PEnv} {σ : L2.St} {F F' H H' : Hp} {D : Addr} {acc : List (PL.D × PL.D)} (n : NewX k ρ σ F H D acc) (e : ETr k ρ σ F H ρ' F' H') : NewX k ρ' σ F' H' D acc := by
  obtain ⟨es, ⟨o, ep, h1, hr⟩, h2, h3⟩ := n.at_
  exact ⟨⟨es, ⟨o, ep, e.heap _ _ h1 fun z => n.np z.inP, hr⟩, h2.mono e.sub, h3⟩, (e.vis D (by rw [h1]; simp) n.no).trans n.fn, n.np, fun i z => n.no i (e.own i D z)⟩
theorem NewX.slots {ρ ρ' : PEnv} {σ σ' : L2.St} {F H : Hp} {D : Addr} {acc : List (PL.D × PL.D)} (n : NewX k ρ σ F H D acc) (h : ∀ i a, OwnAt ρ' σ' i a → OwnAt ρ σ i a) : NewX k ρ' σ' F H D acc :=
  ⟨n.at_, n.fn, n.np, fun i z => n.no i (h i D z)⟩
/-- the reading of a dict comprehension gives the hand layer's -/
theorem dx_sem {vs : List Nat} {tg : Tg} {tp : Bool} {it ic ik iv : IE} {σ : L2.St} {H : Hp} {Q : VK} (htp : tp = true → ∃ is, tg = .tp is) (htg : ∀ i ∈ tg.slots, i ∈ vs) (h : tE C k (.dcomp vs tg it ic ik iv) σ H Q) : tDx k (tI C k true tp it) (tG k tg) (tT C k ic) (tE C k ik) (tE C k iv) vs σ H Q := by
  obtain ⟨ρ, F, QQ, rel, ⟨hpl, wp⟩, fin⟩ := h
  refine ⟨ρ, F, _, rel, wp, fun ds ρ1 F1 H1 J rel1 tr1 itok q => fun D hD hDs => ?_⟩
  have hpl1 : ∀ i ∈ vs, (ρ1.get i).plain = true := fun i hi => by
    cases e : (ρ1.get i).plain with
    | true => rfl
    | false =>
      obtain ⟨a, e1, _⟩ := SlotR.here (x := none) (rel1.slot i) e
      have := (tr1.own i a ⟨e, e1⟩).1
      rw [plain_at hpl hi] at this
      cases this
  have hn : H D = none := none_back tr1.there hD
  have relw := (rel1.wipe (vs := vs)).newH (o := exO D emptyD) hD
  have btr : BTr k ρ σ F H (ρ1.wipe vs) (L2.wipe σ vs) F1 (upd H1 D (exO D emptyD)) := (tr1.b.slots fun i a z => (own_wipe z).1).write hn
  have nd : NewX k (ρ1.wipe vs) (L2.wipe σ vs) F1 (upd H1 D (exO D emptyD)) D [] := ⟨⟨[], dct_empty D emptyD _ ⟨rfl, rfl, rfl⟩ rfl hDs upd_same, .nil, by simp, fun p hp => by simp at hp⟩, rel1.fnone hD, rel1.nopN hD, fun i z => rel1.ownH (own_wipe z).1 hD⟩
  refine ⟨fun i m H' => m = ds.length - i ∧ i ≤ ds.length ∧ ∃ ρt F' acc, Rel k ρt (L2.wipe σ vs) F' H' ∧ BTr k ρ σ F H ρt (L2.wipe σ vs) F' H' ∧ Same F1 F' ∧ SameX k H1 H' ∧ NewX k ρt (L2.wipe σ vs) F' H' D acc ∧
      dcompL vs tg (wpE C ic) (wpE C ik) (wpE C iv) (ds.drop i) ρt acc (fun acc ρ2 => QQ (.owd acc) (ρ1.back ρ2 vs)),
    ⟨ds.length, by simp, by omega, ρ1.wipe vs, F1, [], relw, btr, fun _ _ h => h, .of (Same.upd_new hD), nd, q⟩, ?_⟩
  rintro i m H' ⟨rfl, hi, ρt, F', acc, rel', tr', sub', heap', nd', q'⟩
  obtain ⟨i1, i2⟩ := itok F' H' ⟨sub', fun _ => heap', rel'.sub⟩ i
  by_cases hlt : i < ds.length
  · obtain ⟨go, yl⟩ := i2 ds[i] (List.getElem?_eq_getElem hlt)
    rw [List.drop_eq_getElem_cons hlt] at q'
    refine .inr ⟨go, fun H2 => ∃ ρt F' acc, Rel k ρt (L2.wipe σ vs) F' H2 ∧ BTr k ρ σ F H ρt (L2.wipe σ vs) F' H2 ∧ Same F1 F' ∧ SameX k H1 H2 ∧ NewX k ρt (L2.wipe σ vs) F' H2 D acc ∧
      dcompL vs tg (wpE C ic) (wpE C ik) (wpE C iv) (ds.drop (i + 1)) ρt acc (fun acc ρ2 => QQ (.owd acc) (ρ1.back ρ2 vs)), fun H2 h => ⟨_, (by omega : ds.length - (i + 1) < ds.length - i), rfl, hlt, h⟩, fun x H'' y => ?_⟩
    obtain ⟨sH, iok⟩ := yl x H'' y
    have k0 : ETr k ρt (L2.wipe σ vs) F' H' ρt F' H'' := .keepH sH
    have rel2 := rel'.keepH sH
    refine ⟨ρt, F', ds[i], _, rel2, ?_, q', fun ρ3 σ3 rel3 tt q3 => ?_⟩
    · rcases iok with r | ⟨h1, T, ws, es, h2, h3, h4, h5⟩
      · exact .inl r
      · obtain ⟨is, e⟩ := htp h1
        exact .inr ⟨is, T, ws, es, e, h2, h3, h4, h5⟩
    · have w3 : L2.wipe σ3 vs = L2.wipe σ vs := (tt.wp vs htg).trans wipe_idem
      refine ⟨w3, ρ3, F', _, rel3, q3, fun b ρ4 F4 H4 rel4 tr4 ⟨b', eb, q4⟩ => ?_⟩
      cases eb
      have nd4 := ((nd'.next k0).slots tt.own).next tr4
      have tr4' := ((tr'.next k0).slots tt.own).next tr4
      have sub4 : Same F1 F4 := fun b o e => tr4.sub b o (sub' b o e)
      have heap4 : SameX k H1 H4 := (heap'.trans k0.heap).trans tr4.heap
      have ends : ∀ {ρ6 F6 H6 acc6}, Rel k ρ6 σ3 F6 H6 → BTr k ρ σ F H ρ6 σ3 F6 H6 → NewX k ρ6 σ3 F6 H6 D acc6 → Rel k (ρ6.wipe vs) (L2.wipe σ vs) F6 H6 ∧ BTr k ρ σ F H (ρ6.wipe vs) (L2.wipe σ vs) F6 H6 ∧ NewX k (ρ6.wipe vs) (L2.wipe σ vs) F6 H6 D acc6 := fun {ρ6 F6 H6 acc6} r t n => by
        rw [← w3]
        exact ⟨r.wipe, t.slots fun i a z => (own_wipe z).1, n.slots fun i a z => (own_wipe z).1⟩
      cases b with
      | false =>
        rw [brn_ite, if_neg Bool.false_ne_true] at q4; rw [if_neg Bool.false_ne_true]
        obtain ⟨e1, e2, e3⟩ := ends rel4 tr4' nd4
        exact ⟨_, _, _, e1, e2, sub4, heap4, e3, q4⟩
      | true =>
        rw [brn_ite, if_pos rfl] at q4; rw [if_pos rfl]
        refine ⟨ρ4, F4, _, rel4, q4, fun r ρ5 v F5 H5 p q5 => ?_⟩
        obtain ⟨kd, F6, q6, _, rk, rel6, tr6⟩ := p.keep rel4 q5
        refine ⟨ρ5, F6, _, rel6, q6, fun r2 ρ7 v2 F7 H7 p7 q7 => ?_⟩
        obtain ⟨vd, F8, ⟨g1, g2, g3⟩, _, rv, rel8, tr8⟩ := p7.keep rel6 q7
        have nd8 := (nd4.next tr6).next tr8
        obtain ⟨es, d1, d2, d3, d4⟩ := nd8.at_
        refine ⟨F8, es, acc, kd, vd, rel8.sub, d1, d2, d3, rk.mono tr8.sub, g1, g2, rv, fun es' o' f1 f2 f3 f4 => ?_⟩
        have nd9 : NewX k ρ7 σ3 F8 (upd H7 D (exO D o')) D (putD acc kd vd) := ⟨⟨es', f1, f2, f3, f4⟩, nd8.fn, nd8.np, nd8.no⟩
        obtain ⟨e1, e2, e3⟩ := ends (rel8.writeD nd8.no nd8.fn nd8.np) (((tr4'.next tr6).next tr8).write hn) nd9
        refine ⟨_, _, _, e1, e2, fun b o e => tr8.sub b o (tr6.sub b o (sub4 b o e)), ?_, e3, g3⟩
        exact ((heap4.trans tr6.heap).trans tr8.heap).trans' hD
  · have e : i = ds.length := by omega
    subst e
    rw [List.drop_length] at q'
    refine .inl ⟨i1 rfl, ?_⟩
    obtain ⟨r1, r2⟩ := rel1.back hpl1 rel' sub'
    have nd2 := nd'.slots r2
    obtain ⟨es, d1, d2, d3, d4⟩ := nd2.at_
    exact fin (.owd acc) _ _ _ _ ⟨r1, (tr'.slots r2).e, D, rfl, hn, es, d1, nd2.fn, nd2.np, d2, d3, d4⟩ q'
end
end PL
/-! PM1: zip of lists and tuples in any mix. -/
namespace PL
open PySem PySem.Spec PyProof.Rows L2
inductive KD where
  | L | T
def KD.sq (K : PySem.W.Frag) (H : Hp) : KD → Addr → List V → Prop
  | .L, a, xs => SqL K H a xs
  | .T, a, xs => SqT K H a xs
def KD.it (h : Heap) : KD → Addr → Addr → Nat → Prop
  | .L, i, a, n => h.IsListIter i a n
  | .T, i, a, n => h.IsTupleIter i a n
def KD.is (h : Heap) : KD → Addr → Array Value → Prop
  | .L, a, xs => h.IsList a xs
  | .T, a, xs => h.IsTuple a xs
def KD.o : KD → Addr → Obj
  | .L, a => { cls := .type "list_iterator", data := .fields #[.ref a, .int 0 0] }
  | .T, a => { cls := .type "tuple_iterator", data := .fields #[.ref a, .int 0 0] }
theorem KD.draws {prog : Program} {w : World} {A : Around} (hh : A.handled = none) (kd : KD) (it a : Addr) (hne : a ≠ it) (items : Array Value) :
    Draws prog w A it [it, a] items.size (fun i v => items[i]? = some v) (fun i h => kd.it h it a i ∧ kd.is h a items) := by
  cases kd with
  | L => exact Draws.list hh it a hne items
  | T => exact Draws.tuple hh it a hne items
theorem KD.begins (kd : KD) (a : Addr) (items : Array Value) : Begins (.ref a) (kd.o a) fun h => kd.is h a items := by
  cases kd with
  | L => exact begins_list a items
  | T => exact begins_tuple a items
theorem KD.start {kd : KD} {h : Heap} {n a : Addr} (e : h.get? n = some (kd.o a)) : kd.it h n a 0 := by
  cases kd with
  | L => exact ⟨_, e, rfl, rfl⟩
  | T => exact ⟨_, e, rfl, rfl⟩
theorem KD.at {kd : KD} {h h' : Heap} {i a : Addr} {n : Nat} (t : kd.it h i a n) (k : ∀ o, h.get? i = some o → h'.get? i = some o) : kd.it h' i a n := by
  cases kd with
  | L => exact Heap.IsListIter.at t k
  | T => exact Heap.IsTupleIter.at t k
theorem KD.obj {kd : KD} {h : Heap} {i a : Addr} {n : Nat} (t : kd.it h i a n) : ∃ o, h.get? i = some o ∧ ∀ v, o.data ≠ .cell v := by
  cases kd with
  | L => obtain ⟨o, e, _, d⟩ := t; exact ⟨o, e, fun v q => by rw [d] at q; cases q⟩
  | T => obtain ⟨o, e, _, d⟩ := t; exact ⟨o, e, fun v q => by rw [d] at q; cases q⟩
theorem KD.ne {k1 k2 : KD} {h : Heap} {i a b : Addr} {n : Nat} {items : Array Value} (t : k1.it h i b n) (p : k2.is h a items) : a ≠ i := by
  rintro rfl
  have ht : ∃ o vs, h.get? a = some o ∧ o.data = .fields vs := by
    cases k1 with
    | L => obtain ⟨o, e, _, d⟩ := t; exact ⟨o, _, e, d⟩
    | T => obtain ⟨o, e, _, d⟩ := t; exact ⟨o, _, e, d⟩
  obtain ⟨o, vs, e1, e2⟩ := ht
  cases k2 with
  | L => obtain ⟨o', e, _, n, d⟩ := p; rw [e1] at e; cases e; rw [e2] at d; cases d
  | T => obtain ⟨o', e, _, n, d⟩ := p; rw [e1] at e; cases e; rw [e2] at d; cases d
section
variable {X : Cx} {pins : List (Addr × Obj)} {σ : L2.St} {H : Hp} {s : Shared}
theorem KD.inv {kd : KD} {a : Addr} {xs : List V} (I : Inv X pins σ H s) (h : kd.sq X.K H a xs) : ∃ its, Vals xs its ∧ kd.is s.heap a its.toArray ∧ a < s.heap.objs.size := by
  cases kd with
  | L => obtain ⟨its, rv, p, _⟩ := I.list h; exact ⟨its, rv, p.isList, p.lt⟩
  | T =>
    obtain ⟨its, rv, p, _⟩ := I.tuple h
    obtain ⟨o1, ho1, _⟩ := id p
    exact ⟨its, rv, p, Heap.lt_size ho1⟩
theorem KD.inj {kd : KD} {a : Addr} {xs ys : List V} (I : Inv X pins σ H s) (h : kd.sq X.K H a xs) (h2 : kd.sq X.K H a ys) : xs = ys := by
  cases kd with
  | L => exact I.list_inj h h2
  | T => exact I.tuple_inj h h2
end
/-- the items of two, in new pairs -/
def Itz2 (K : PySem.W.Frag) (k1 k2 : KD) (a b : Addr) : It :=
  ⟨fun i H => ∃ (xs ys : List V) (x y : V), k1.sq K H a xs ∧ k2.sq K H b ys ∧ xs[i]? = some x ∧ ys[i]? = some y,
    fun i H v H' => ∃ T x y, v = .ref T ∧ H T = none ∧ H' = upd H T (.tup [x, y]) ∧ (∀ xs, k1.sq K H a xs → xs[i]? = some x) ∧ ∀ ys, k2.sq K H b ys → ys[i]? = some y,
    fun i H => ∃ xs ys : List V, k1.sq K H a xs ∧ k2.sq K H b ys ∧ i ≤ xs.length ∧ i ≤ ys.length ∧ (i = xs.length ∨ i = ys.length)⟩
theorem turn_zip2 {P : Program} {w : World} {K : PySem.W.Frag} {elts : List Expr} {kk : Nat} {tpos : Pos} {k1 k2 : KD} {a b z TI TO i1 i2 : Addr} (D : ZipSep2 z TI TO i1 i2 [i1, a] [i2, b]) :
    Turn P w K (.Tuple elts kk tpos) (Itz2 K k1 k2 a b) [z, TI, TO, i1, i2] z (fun i h => IsZip h z TI TO .none ∧ IsTupOf2 h TI (.ref i1) (.ref i2) ∧ (∃ x y, IsTupOf2 h TO x y) ∧ k1.it h i1 a i ∧ k2.it h i2 b i) where
  mem := by simp
  obj := fun i h st c hc => by
    obtain ⟨hz, hTI, ⟨x, y, hTO⟩, h1, h2⟩ := st
    have e' : c = z ∨ c = TI ∨ c = TO ∨ c = i1 ∨ c = i2 := by simpa using hc
    rcases e' with q | q | q | q | q
    · rw [q]; exact ⟨_, hz, fun v q => nomatch q⟩
    · rw [q]; exact ⟨_, hTI, fun v q => nomatch q⟩
    · rw [q]; exact ⟨_, hTO, fun v q => nomatch q⟩
    · rw [q]; exact KD.obj h1
    · rw [q]; exact KD.obj h2
  keep := fun i h h' st k => by
    obtain ⟨hz, hTI, ⟨x, y, hTO⟩, h1, h2⟩ := st
    exact ⟨k z (by simp) _ hz, k TI (by simp) _ hTI, ⟨x, y, k TO (by simp) _ hTO⟩, KD.at h1 fun o q => k i1 (by simp) o q, KD.at h2 fun o q => k i2 (by simp) o q⟩
  item := by
    intro X hP hw hK hc i pins s σ H E I hf st hg
    subst hP hw hK
    obtain ⟨hz, hTI, ⟨x0, y0, hTO⟩, h1, h2⟩ := st
    obtain ⟨xs, ys, x, y, hqx, hqy, hx, hy⟩ := hg
    obtain ⟨its, rv, p, _⟩ := KD.inv I hqx
    obtain ⟨its2, rv2, p2, _⟩ := KD.inv I hqy
    obtain ⟨u, hu, ru⟩ := rv.get hx
    obtain ⟨u2, hu2, ru2⟩ := rv2.get hy
    have hu' : its.toArray[i]? = some u := by simpa using hu
    have hu2' : its2.toArray[i]? = some u2 := by simpa using hu2
    have hzl : z < s.heap.objs.size := Heap.lt_size hz
    have hh : (X.A.in1).handled = none := I.ok.hd hc
    refine wpAny_pyNext_zipD2_item D (k1.draws hh i1 a (KD.ne h1 p) its.toArray) (k2.draws hh i2 b (KD.ne h2 p2) its2.toArray) hz hTI hTO ⟨h1, p⟩ ⟨h2, p2⟩ (Array.getElem?_eq_some_iff.mp hu').1 (Array.getElem?_eq_some_iff.mp hu2').1 fun v1 v2 h' tk e1 e2 z' TO' h1' h2' hT hsz hk => ?_
    rw [hu'] at e1
    rw [hu2'] at e2
    cases e1
    cases e2
    refine ⟨_, rfl, wpAny_letOwnedTupleGo_zip (s := { s with heap := h', toks := tk }) z' fun h'' z'' sb => ?_⟩
    have hT2 : h''.get? s.heap.objs.size = some { cls := .type "tuple", data := .seq #[u, u2] } := (sb.2 _ (Nat.ne_of_gt hzl)).trans hT
    have new : ObjOk X.prog X.w (upd H s.heap.objs.size (.tup [x, y])) h'' s.heap.objs.size (.tup [x, y]) :=
      ⟨by show 2 ≤ sizeLine; decide, [u, u2], .cons ru (.cons ru2 .nil), ⟨_, hT2, rfl, _, rfl⟩⟩
    have I1 : Inv X pins σ (upd H s.heap.objs.size (.tup [x, y])) { s with heap := h'', toks := tk } :=
      I.turnedNew (t' := tk) (ch := [z, TI, TO, i1, i2]) (fun c o hb q => (sb.2 c (fun q' => hb (by simp [q']))).trans (hk c o (fun q' => hb (by simp [q'])) (fun q' => hb (by simp [q'])) (fun q' => hb (by simp [q'])) (fun q' => hb (by simp [q'])) q)) hf (Nat.le_refl _) new
    refine ⟨.ref s.heap.objs.size, _, I1, rfl, ⟨_, x, y, rfl, I.hok.fresh (Nat.le_refl _), rfl, fun l hl => by rw [KD.inj I hl hqx]; exact hx, fun l hl => by rw [KD.inj I hl hqy]; exact hy⟩, ⟨z'', ?_, ⟨u, u2, ?_⟩, ?_, ?_⟩, fun c hcm => ?_⟩
    · exact (sb.2 _ D.TIz).trans (hk _ _ D.TIz D.TITO D.TIi1 D.TIi2 hTI)
    · exact (sb.2 _ D.TOz).trans TO'
    · exact KD.at h1'.1 fun o q => (sb.2 _ D.zi1.symm).trans q
    · exact KD.at h2'.1 fun o q => (sb.2 _ D.zi2.symm).trans q
    · have hlt : c < s.heap.objs.size := by
        have e' : c = z ∨ c = TI ∨ c = TO ∨ c = i1 ∨ c = i2 := by simpa using hcm
        rcases e' with q | q | q | q | q
        · rw [q]; exact hzl
        · rw [q]; exact Heap.lt_size hTI
        · rw [q]; exact Heap.lt_size hTO
        · rw [q]; obtain ⟨_, e1, _⟩ := KD.obj h1; exact Heap.lt_size e1
        · rw [q]; obtain ⟨_, e2, _⟩ := KD.obj h2; exact Heap.lt_size e2
      rw [upd_ne (Nat.ne_of_lt hlt)]
      exact (hf c hcm).1
  done := by
    intro X hP hw hK hc i pins s σ H E I hf st hg
    subst hP hw hK
    obtain ⟨hz, hTI, ⟨x0, y0, hTO⟩, h1, h2⟩ := st
    obtain ⟨xs, ys, hqx, hqy, hx, hy, hend⟩ := hg
    obtain ⟨its, rv, p, _⟩ := KD.inv I hqx
    obtain ⟨its2, rv2, p2, _⟩ := KD.inv I hqy
    have l1 := rv.length
    have l2 := rv2.length
    have hh : (X.A.in1).handled = none := I.ok.hd hc
    exact wpAny_pyNext_zipD2_end D (k1.draws hh i1 a (KD.ne h1 p) its.toArray) (k2.draws hh i2 b (KD.ne h2 p2) its2.toArray) hz hTI hTO ⟨h1, p⟩ ⟨h2, p2⟩ (by simp; omega) (by simp; omega) (by simp; omega) fun h' tk hk => ⟨rfl, I.turnedL (t' := tk) (ch := [z, TI, TO, i1, i2]) (fun c o hb q =>
      hk c o (fun q' => hb (by simp [q'])) (fun q' => hb (by simp [q'])) (fun q' => hb (by simp [q'])) (fun q' => hb (by simp [q'])) q) hf⟩
  self := fun A i s Q E st h => wpAny_pyIter_zip st.1 h
end PL
/-! PM2: zip of two, walked. -/
namespace PL
open PySem PySem.Spec PyProof.Rows L2
section
variable {X : Cx} {k : RC} {C : PC} {pos : Pos}
/-- a lent list, a tuple: it lies in the heap -/
theorem src_ref {F H : Hp} {v : V} {d : D} {xs : List D} (sub : Same F H) (h : BR k F H v d) (e : seqD d = some xs) : ∃ a, v = .ref a := by
  cases d with
  | lst ys => obtain ⟨a, vs, rfl, t, r⟩ := h.lst sub; exact ⟨a, rfl⟩
  | tup ys => obtain ⟨a, vs, rfl, t, r⟩ := h.tup; exact ⟨a, rfl⟩
  | _ => cases e
/-- .. wherever the walk is -/
theorem src_at {F H : Hp} {a : Addr} {d : D} {xs : List D} {kd : KD} (sub : Same F H) (h : BR k F H (.ref a) d) (e : seqD d = some xs) (hk : (∃ ys, d = .lst ys) ↔ kd = .L) : ∃ vs, KD.sq k.K H kd a vs ∧ Rs k F vs xs := by
  cases d with
  | lst ys =>
    cases e
    obtain ⟨b, vs, z, t, r⟩ := h.lst sub
    cases z
    cases hk.mp ⟨_, rfl⟩
    exact ⟨vs, .of t, r⟩
  | tup ys =>
    cases e
    obtain ⟨b, vs, z, t, r⟩ := h.tup
    cases z
    cases kd with
    | L => obtain ⟨_, q⟩ := hk.mpr rfl; cases q
    | T => exact ⟨vs, (t.mono sub).sq, r⟩
  | _ => cases e
def kdOf : D → KD
  | .lst _ => .L
  | _ => .T
theorem kd_iff (d : D) (xs : List D) (e : seqD d = some xs) : (∃ ys, d = .lst ys) ↔ kdOf d = .L := by
  cases d <;> simp [kdOf] <;> cases e
/-- what stays of an argument since the walk began -/
theorem stay_br {b : Bool} {F H F' H' : Hp} {v : V} {d : D} (h : ARel k b F H [v] [d]) (st : Stay k b F H F' H') : BR k F' H' v d := by
  obtain ⟨a1, a2, a3⟩ := st
  cases b with
  | false =>
    cases (show Rs k F [v] [d] from h) with
    | cons r _ => exact .inl (r.mono a1)
  | true =>
    cases (show BRs k F H [v] [d] from h) with
    | cons r _ => exact r.grow a1 (a2 rfl) a3
theorem ARel.fst {b : Bool} {F H : Hp} {v : V} {d : D} {vs : List V} {ds : List D} (h : ARel k b F H (v :: vs) (d :: ds)) : ARel k b F H [v] [d] := by
  cases b with
  | false => cases (show Rs k F (v :: vs) (d :: ds) from h) with | cons r _ => exact Rs.cons r .nil
  | true => cases (show BRs k F H (v :: vs) (d :: ds) from h) with | cons r _ => exact BRs.cons r .nil
theorem ARel.rest {b : Bool} {F H : Hp} {v : V} {d : D} {vs : List V} {ds : List D} (h : ARel k b F H (v :: vs) (d :: ds)) : ARel k b F H vs ds := by
  cases b with
  | false => cases (show Rs k F (v :: vs) (d :: ds) from h) with | cons _ r => exact r
  | true => cases (show BRs k F H (v :: vs) (d :: ds) from h) with | cons _ r => exact r
theorem ARel.split {b : Bool} {F H : Hp} {d : D} {vs : List V} {ds : List D} (h : ARel k b F H vs (d :: ds)) : ∃ v vs', vs = v :: vs' := by
  cases b with
  | false => cases (show Rs k F vs (d :: ds) from h) with | cons _ _ => exact ⟨_, _, rfl⟩
  | true => cases (show BRs k F H vs (d :: ds) from h) with | cons _ _ => exact ⟨_, _, rfl⟩
theorem ARel.done {b : Bool} {F H : Hp} {vs : List V} (h : ARel k b F H vs []) : vs = [] := by
  cases b with
  | false => cases (show Rs k F vs [] from h); rfl
  | true => cases (show BRs k F H vs [] from h); rfl
theorem ARel.br {b : Bool} {F H : Hp} {v : V} {d : D} (h : ARel k b F H [v] [d]) : BR k F H v d := by
  cases b with
  | false => cases (show Rs k F [v] [d] from h) with | cons r _ => exact .inl r
  | true => cases (show BRs k F H [v] [d] from h) with | cons r _ => exact r
theorem fresh5 {pins : List (Addr × Obj)} {σ : L2.St} {H : Hp} {s : Shared} (I : Inv X pins σ H s) : ∀ c, s.heap.objs.size ≤ c → FpOk X pins H c := fun c h => I.fpOk h (I.hok.fresh h)
theorem qi_zip2 (hX : XOk X k) {b : Bool} {e1 e2 : Expr} {ia ic : IE} {p tpos : Pos} {elts : List Expr} {kk : Nat} (hg : Gl X "zip") (hm : X.mg "zip" = none) (ha : PA X [e1, e2] (tA C k b (.acons ia (.acons ic .anil))))
    (hs : starEach [e1, e2] X.env = (false, eval e1 X.env) :: starEach [e2] X.env) (hpl : (backTo pos (starEach [e2] X.env)).any (·.1) = false) :
    PI X (.Tuple elts kk tpos) (.Call (.Name "zip" p) [e1, e2] [] pos) (tI C k b true (.itZip ia ic)) := by
  refine ⟨fun pins s σ H Rr I ⟨ρ, F, QQ, rel, wp, fin⟩ => ?_⟩
  have hK := hX.K
  refine Call_ (ld_blt I hg hm PyProof.Rows.boot_zip (PyProof.Rows.callWith_type1 (thn (ha.run pos pins s σ H (fun vs H1 => ∃ ds ρ1 F1, Rel k ρ1 σ F1 H1 ∧ ETr k ρ σ F H ρ1 F1 H1 ∧ ARel k b F1 H1 vs ds ∧ (match ds with | [x, y] => ∃ xs ys, seqD x = some xs ∧ seqD y = some ys ∧ (xs.length ≤ sizeLine → QQ ((xs.zip ys).map fun p => .tup [p.1, p.2]) ρ1) | _ => False)) I
    ⟨ρ, F, fun ds ρ1 => (match ds with | [x, y] => ∃ xs ys, seqD x = some xs ∧ seqD y = some ys ∧ (xs.length ≤ sizeLine → QQ ((xs.zip ys).map fun p => .tup [p.1, p.2]) ρ1) | _ => False), rel, wp, fun ds ρ1 vs F1 H1 r t a q => ⟨ds, ρ1, F1, r, t, a, q⟩⟩) fun us s1 ⟨vs, H1, I1, r1, ds, ρ1, F1, rel1, tr1, ar, q⟩ => ?_) hs hpl))
  match ds, ar, q with
  | [x, y], ar, ⟨xs, ys, ex, ey, q⟩ =>
  obtain ⟨v1, vs1, rfl⟩ := ar.split
  obtain ⟨v2, vs2, rfl⟩ := ar.rest.split
  cases ar.rest.rest.done
  have A1 := ar.fst
  have A2 := ar.rest
  obtain ⟨a1, rfl⟩ := src_ref rel1.sub A1.br ex
  obtain ⟨a2, rfl⟩ := src_ref rel1.sub A2.br ey
  obtain ⟨w1, q1, rs1⟩ := src_at rel1.sub A1.br ex (kd_iff x xs ex)
  obtain ⟨w2, q2, rs2⟩ := src_at rel1.sub A2.br ey (kd_iff y ys ey)
  cases r1 with
  | cons r rr =>
  cases rr with
  | cons r' rr =>
  cases rr
  cases r
  cases r'
  obtain ⟨its1, rv1, p1, l1⟩ := KD.inv I1 (hK ▸ q1)
  obtain ⟨its2, rv2, p2, l2⟩ := KD.inv I1 (hK ▸ q2)
  refine zip_begins2 (KD.begins (kdOf x) a1 its1.toArray) (KD.begins (kdOf y) a2 its2.toArray) p1 p2 fun h' hz hTI hTO g1 g2 hsz hk => wpAny_pyIter_zip hz ?_
  have I2 : Inv X pins σ H1 { s1 with heap := h' } := I1.kept (t' := s1.toks) hk
  refine ⟨s1.heap.objs.size + 4, [s1.heap.objs.size + 4, s1.heap.objs.size + 2, s1.heap.objs.size + 3, s1.heap.objs.size, s1.heap.objs.size + 1], _, Itz2 X.K (kdOf x) (kdOf y) a1 a2, H1, rfl, I2, turn_zip2 (zip_sep2 (fp1 := [a1]) (fp2 := [a2]) (by simpa using l1) (by simpa using l2)), ⟨hz, hTI, ⟨_, _, hTO⟩, KD.start g1, KD.start g2⟩, fun c hcm => ?_, fin _ ρ1 F1 H1 _ rel1 tr1 (fun F' H' st i => ?_) (q (seq_len hX I1 rel1.sub A1.br ex))⟩
  · have e' : c = s1.heap.objs.size + 4 ∨ c = s1.heap.objs.size + 2 ∨ c = s1.heap.objs.size + 3 ∨ c = s1.heap.objs.size ∨ c = s1.heap.objs.size + 1 := by simpa using hcm
    refine fresh5 I1 c ?_
    rcases e' with z | z | z | z | z
    · rw [z]; exact Nat.le_add_right _ _
    · rw [z]; exact Nat.le_add_right _ _
    · rw [z]; exact Nat.le_add_right _ _
    · rw [z]; exact Nat.le_refl _
    · rw [z]; exact Nat.le_add_right _ _
  · obtain ⟨u1, t1, n1⟩ := src_at st.2.2 (stay_br A1 st) ex (kd_iff x xs ex)
    obtain ⟨u2, t2, n2⟩ := src_at st.2.2 (stay_br A2 st) ey (kd_iff y ys ey)
    rw [hK] at t1 t2
    have m1 := n1.length
    have m2 := n2.length
    refine ⟨fun hi => ⟨u1, u2, t1, t2, ?_, ?_, ?_⟩, fun d hd => ?_⟩
    · rw [List.length_map, List.length_zip] at hi; omega
    · rw [List.length_map, List.length_zip] at hi; omega
    · rw [List.length_map, List.length_zip] at hi; omega
    · rw [List.getElem?_map] at hd
      obtain ⟨pq, hp, rfl⟩ := Option.map_eq_some_iff.mp hd
      obtain ⟨h1, h2⟩ := List.getElem?_zip_eq_some.mp hp
      obtain ⟨b1, c1, d1⟩ := n1.get h1
      obtain ⟨b2, c2, d2⟩ := n2.get h2
      refine ⟨⟨u1, u2, b1, b2, t1, t2, c1, c2⟩, ?_⟩
      rintro z H'' ⟨T, y1, y2, rfl, hT, rfl, f1, f2⟩
      have z1 := (f1 _ t1).symm.trans c1
      have z2 := (f2 _ t2).symm.trans c2
      cases z1
      cases z2
      exact ⟨Same.upd_new hT, .inr ⟨rfl, T, _, _, rfl, rfl, upd_same, .cons d1 (.cons d2 .nil)⟩⟩
end
end PL
/-! PM3: zip of three. -/
namespace PL
open PySem PySem.Spec PyProof.Rows L2
def Itz3 (K : PySem.W.Frag) (k1 k2 k3 : KD) (a b c : Addr) : It :=
  ⟨fun i H => ∃ (xs ys zs : List V) (x y z : V), k1.sq K H a xs ∧ k2.sq K H b ys ∧ k3.sq K H c zs ∧ xs[i]? = some x ∧ ys[i]? = some y ∧ zs[i]? = some z,
    fun i H v H' => ∃ T x y z, v = .ref T ∧ H T = none ∧ H' = upd H T (.tup [x, y, z]) ∧ (∀ xs, k1.sq K H a xs → xs[i]? = some x) ∧ (∀ ys, k2.sq K H b ys → ys[i]? = some y) ∧ ∀ zs, k3.sq K H c zs → zs[i]? = some z,
    fun i H => ∃ xs ys zs : List V, k1.sq K H a xs ∧ k2.sq K H b ys ∧ k3.sq K H c zs ∧ i ≤ xs.length ∧ i ≤ ys.length ∧ i ≤ zs.length ∧ (i = xs.length ∨ i = ys.length ∨ i = zs.length)⟩
theorem turn_zip3 {P : Program} {w : World} {K : PySem.W.Frag} {elts : List Expr} {kk : Nat} {tpos : Pos} {k1 k2 k3 : KD} {a b a3 z TI TO i1 i2 i3 : Addr} (D : ZipSep3 z TI TO i1 i2 i3 [i1, a] [i2, b] [i3, a3]) :
    Turn P w K (.Tuple elts kk tpos) (Itz3 K k1 k2 k3 a b a3) [z, TI, TO, i1, i2, i3] z (fun i h => IsZip h z TI TO .none ∧ IsTupOf3 h TI (.ref i1) (.ref i2) (.ref i3) ∧ (∃ x y z, IsTupOf3 h TO x y z) ∧ k1.it h i1 a i ∧ k2.it h i2 b i ∧ k3.it h i3 a3 i) where
  mem := by simp
  obj := fun i h st c hc => by
    obtain ⟨hz, hTI, ⟨x, y, y3, hTO⟩, h1, h2, h3⟩ := st
    have e' : c = z ∨ c = TI ∨ c = TO ∨ c = i1 ∨ c = i2 ∨ c = i3 := by simpa using hc
    rcases e' with q | q | q | q | q | q
    · rw [q]; exact ⟨_, hz, fun v q => nomatch q⟩
    · rw [q]; exact ⟨_, hTI, fun v q => nomatch q⟩
    · rw [q]; exact ⟨_, hTO, fun v q => nomatch q⟩
    · rw [q]; exact KD.obj h1
    · rw [q]; exact KD.obj h2
    · rw [q]; exact KD.obj h3
  keep := fun i h h' st k => by
    obtain ⟨hz, hTI, ⟨x, y, y3, hTO⟩, h1, h2, h3⟩ := st
    exact ⟨k z (by simp) _ hz, k TI (by simp) _ hTI, ⟨x, y, y3, k TO (by simp) _ hTO⟩, KD.at h1 fun o q => k i1 (by simp) o q, KD.at h2 fun o q => k i2 (by simp) o q, KD.at h3 fun o q => k i3 (by simp) o q⟩
  item := by
    intro X hP hw hK hc i pins s σ H E I hf st hg
    subst hP hw hK
    obtain ⟨hz, hTI, ⟨x0, y0, t0, hTO⟩, h1, h2, h3⟩ := st
    obtain ⟨xs, ys, ts, x, y, t, hqx, hqy, hqt, hx, hy, ht⟩ := hg
    obtain ⟨its, rv, p, _⟩ := KD.inv I hqx
    obtain ⟨its2, rv2, p2, _⟩ := KD.inv I hqy
    obtain ⟨its3, rv3, p3, _⟩ := KD.inv I hqt
    obtain ⟨u, hu, ru⟩ := rv.get hx
    obtain ⟨u2, hu2, ru2⟩ := rv2.get hy
    obtain ⟨u3, hu3, ru3⟩ := rv3.get ht
    have hu' : its.toArray[i]? = some u := by simpa using hu
    have hu2' : its2.toArray[i]? = some u2 := by simpa using hu2
    have hu3' : its3.toArray[i]? = some u3 := by simpa using hu3
    have hzl : z < s.heap.objs.size := Heap.lt_size hz
    have hh : (X.A.in1).handled = none := I.ok.hd hc
    refine wpAny_pyNext_zipD3_item D (k1.draws hh i1 a (KD.ne h1 p) its.toArray) (k2.draws hh i2 b (KD.ne h2 p2) its2.toArray) (k3.draws hh i3 a3 (KD.ne h3 p3) its3.toArray) hz hTI hTO ⟨h1, p⟩ ⟨h2, p2⟩ ⟨h3, p3⟩ (Array.getElem?_eq_some_iff.mp hu').1 (Array.getElem?_eq_some_iff.mp hu2').1 (Array.getElem?_eq_some_iff.mp hu3').1 fun v1 v2 v3 h' tk e1 e2 e3 z' TO' h1' h2' h3' hT hsz hk => ?_
    rw [hu'] at e1
    rw [hu2'] at e2
    rw [hu3'] at e3
    cases e1
    cases e2
    cases e3
    refine ⟨_, rfl, wpAny_letOwnedTupleGo_zip (s := { s with heap := h', toks := tk }) z' fun h'' z'' sb => ?_⟩
    have hT2 : h''.get? s.heap.objs.size = some { cls := .type "tuple", data := .seq #[u, u2, u3] } := (sb.2 _ (Nat.ne_of_gt hzl)).trans hT
    have new : ObjOk X.prog X.w (upd H s.heap.objs.size (.tup [x, y, t])) h'' s.heap.objs.size (.tup [x, y, t]) :=
      ⟨by show 3 ≤ sizeLine; decide, [u, u2, u3], .cons ru (.cons ru2 (.cons ru3 .nil)), ⟨_, hT2, rfl, _, rfl⟩⟩
    have I1 : Inv X pins σ (upd H s.heap.objs.size (.tup [x, y, t])) { s with heap := h'', toks := tk } :=
      I.turnedNew (t' := tk) (ch := [z, TI, TO, i1, i2, i3]) (fun c o hb q => (sb.2 c (fun q' => hb (by simp [q']))).trans (hk c o (fun q' => hb (by simp [q'])) (fun q' => hb (by simp [q'])) (fun q' => hb (by simp [q'])) (fun q' => hb (by simp [q'])) (fun q' => hb (by simp [q'])) q)) hf (Nat.le_refl _) new
    refine ⟨.ref s.heap.objs.size, _, I1, rfl, ⟨_, x, y, t, rfl, I.hok.fresh (Nat.le_refl _), rfl, fun l hl => by rw [KD.inj I hl hqx]; exact hx, fun l hl => by rw [KD.inj I hl hqy]; exact hy, fun l hl => by rw [KD.inj I hl hqt]; exact ht⟩, ⟨z'', ?_, ⟨u, u2, u3, ?_⟩, ?_, ?_, ?_⟩, fun c hcm => ?_⟩
    · exact (sb.2 _ D.TIz).trans (hk _ _ D.TIz D.TITO D.TIi1 D.TIi2 D.TIi3 hTI)
    · exact (sb.2 _ D.TOz).trans TO'
    · exact KD.at h1'.1 fun o q => (sb.2 _ D.zi1.symm).trans q
    · exact KD.at h2'.1 fun o q => (sb.2 _ D.zi2.symm).trans q
    · exact KD.at h3'.1 fun o q => (sb.2 _ D.zi3.symm).trans q
    · have hlt : c < s.heap.objs.size := by
        have e' : c = z ∨ c = TI ∨ c = TO ∨ c = i1 ∨ c = i2 ∨ c = i3 := by simpa using hcm
        rcases e' with q | q | q | q | q | q
        · rw [q]; exact hzl
        · rw [q]; exact Heap.lt_size hTI
        · rw [q]; exact Heap.lt_size hTO
        · rw [q]; obtain ⟨_, e1, _⟩ := KD.obj h1; exact Heap.lt_size e1
        · rw [q]; obtain ⟨_, e2, _⟩ := KD.obj h2; exact Heap.lt_size e2
        · rw [q]; obtain ⟨_, e3, _⟩ := KD.obj h3; exact Heap.lt_size e3
      rw [upd_ne (Nat.ne_of_lt hlt)]
      exact (hf c hcm).1
  done := by
    intro X hP hw hK hc i pins s σ H E I hf st hg
    subst hP hw hK
    obtain ⟨hz, hTI, ⟨x0, y0, t0, hTO⟩, h1, h2, h3⟩ := st
    obtain ⟨xs, ys, ts, hqx, hqy, hqt, hx, hy, ht, hend⟩ := hg
    obtain ⟨its, rv, p, _⟩ := KD.inv I hqx
    obtain ⟨its2, rv2, p2, _⟩ := KD.inv I hqy
    obtain ⟨its3, rv3, p3, _⟩ := KD.inv I hqt
    have l1 := rv.length
    have l2 := rv2.length
    have l3 := rv3.length
    have hh : (X.A.in1).handled = none := I.ok.hd hc
    exact wpAny_pyNext_zipD3_end D (k1.draws hh i1 a (KD.ne h1 p) its.toArray) (k2.draws hh i2 b (KD.ne h2 p2) its2.toArray) (k3.draws hh i3 a3 (KD.ne h3 p3) its3.toArray) hz hTI hTO ⟨h1, p⟩ ⟨h2, p2⟩ ⟨h3, p3⟩ (by simp; omega) (by simp; omega) (by simp; omega) (by simp; omega) fun h' tk hk => ⟨rfl, I.turnedL (t' := tk) (ch := [z, TI, TO, i1, i2, i3]) (fun c o hb q =>
      hk c o (fun q' => hb (by simp [q'])) (fun q' => hb (by simp [q'])) (fun q' => hb (by simp [q'])) (fun q' => hb (by simp [q'])) (fun q' => hb (by simp [q'])) q) hf⟩
  self := fun A i s Q E st h => wpAny_pyIter_zip st.1 h
section
variable {X : Cx} {k : RC} {C : PC} {pos : Pos}
theorem qi_zip3 (hX : XOk X k) {b : Bool} {e1 e2 e3 : Expr} {ia ic i3 : IE} {p tpos : Pos} {elts : List Expr} {kk : Nat} (hg : Gl X "zip") (hm : X.mg "zip" = none) (ha : PA X [e1, e2, e3] (tA C k b (.acons ia (.acons ic (.acons i3 .anil)))))
    (hs : starEach [e1, e2, e3] X.env = (false, eval e1 X.env) :: starEach [e2, e3] X.env) (hpl : (backTo pos (starEach [e2, e3] X.env)).any (·.1) = false) :
    PI X (.Tuple elts kk tpos) (.Call (.Name "zip" p) [e1, e2, e3] [] pos) (tI C k b true (.itZip3 ia ic i3)) := by
  refine ⟨fun pins s σ H Rr I ⟨ρ, F, QQ, rel, wp, fin⟩ => ?_⟩
  have hK := hX.K
  refine Call_ (ld_blt I hg hm PyProof.Rows.boot_zip (PyProof.Rows.callWith_type1 (thn (ha.run pos pins s σ H (fun vs H1 => ∃ ds ρ1 F1, Rel k ρ1 σ F1 H1 ∧ ETr k ρ σ F H ρ1 F1 H1 ∧ ARel k b F1 H1 vs ds ∧ (match ds with | [x, y, t] => ∃ xs ys ts, seqD x = some xs ∧ seqD y = some ys ∧ seqD t = some ts ∧ (xs.length ≤ sizeLine → QQ ((xs.zip (ys.zip ts)).map fun p => .tup [p.1, p.2.1, p.2.2]) ρ1) | _ => False)) I
    ⟨ρ, F, fun ds ρ1 => (match ds with | [x, y, t] => ∃ xs ys ts, seqD x = some xs ∧ seqD y = some ys ∧ seqD t = some ts ∧ (xs.length ≤ sizeLine → QQ ((xs.zip (ys.zip ts)).map fun p => .tup [p.1, p.2.1, p.2.2]) ρ1) | _ => False), rel, wp, fun ds ρ1 vs F1 H1 r t a q => ⟨ds, ρ1, F1, r, t, a, q⟩⟩) fun us s1 ⟨vs, H1, I1, r1, ds, ρ1, F1, rel1, tr1, ar, q⟩ => ?_) hs hpl))
  match ds, ar, q with
  | [x, y, t], ar, ⟨xs, ys, ts, ex, ey, et, q⟩ =>
  obtain ⟨v1, vs1, rfl⟩ := ar.split
  obtain ⟨v2, vs2, rfl⟩ := ar.rest.split
  obtain ⟨v3, vs3, rfl⟩ := ar.rest.rest.split
  cases ar.rest.rest.rest.done
  have A1 := ar.fst
  have A2 := ar.rest.fst
  have A3 := ar.rest.rest
  obtain ⟨a1, rfl⟩ := src_ref rel1.sub A1.br ex
  obtain ⟨a2, rfl⟩ := src_ref rel1.sub A2.br ey
  obtain ⟨a3, rfl⟩ := src_ref rel1.sub A3.br et
  obtain ⟨w1, q1, rs1⟩ := src_at rel1.sub A1.br ex (kd_iff x xs ex)
  obtain ⟨w2, q2, rs2⟩ := src_at rel1.sub A2.br ey (kd_iff y ys ey)
  obtain ⟨w3, q3, rs3⟩ := src_at rel1.sub A3.br et (kd_iff t ts et)
  cases r1 with
  | cons r rr =>
  cases rr with
  | cons r' rr =>
  cases rr with
  | cons r'' rr =>
  cases rr
  cases r
  cases r'
  cases r''
  obtain ⟨its1, rv1, p1, l1⟩ := KD.inv I1 (hK ▸ q1)
  obtain ⟨its2, rv2, p2, l2⟩ := KD.inv I1 (hK ▸ q2)
  obtain ⟨its3, rv3, p3, l3⟩ := KD.inv I1 (hK ▸ q3)
  refine zip_begins3 (KD.begins (kdOf x) a1 its1.toArray) (KD.begins (kdOf y) a2 its2.toArray) (KD.begins (kdOf t) a3 its3.toArray) p1 p2 p3 fun h' hz hTI hTO g1 g2 g3 hsz hk => wpAny_pyIter_zip hz ?_
  have I2 : Inv X pins σ H1 { s1 with heap := h' } := I1.kept (t' := s1.toks) hk
  refine ⟨s1.heap.objs.size + 5, [s1.heap.objs.size + 5, s1.heap.objs.size + 3, s1.heap.objs.size + 4, s1.heap.objs.size, s1.heap.objs.size + 1, s1.heap.objs.size + 2], _, Itz3 X.K (kdOf x) (kdOf y) (kdOf t) a1 a2 a3, H1, rfl, I2, turn_zip3 (zip_sep3 (fp1 := [a1]) (fp2 := [a2]) (fp3 := [a3]) (by simpa using l1) (by simpa using l2) (by simpa using l3)), ⟨hz, hTI, ⟨_, _, _, hTO⟩, KD.start g1, KD.start g2, KD.start g3⟩, fun c hcm => ?_, fin _ ρ1 F1 H1 _ rel1 tr1 (fun F' H' st i => ?_) (q (seq_len hX I1 rel1.sub A1.br ex))⟩
  · have e' : c = s1.heap.objs.size + 5 ∨ c = s1.heap.objs.size + 3 ∨ c = s1.heap.objs.size + 4 ∨ c = s1.heap.objs.size ∨ c = s1.heap.objs.size + 1 ∨ c = s1.heap.objs.size + 2 := by simpa using hcm
    refine fresh5 I1 c ?_
    rcases e' with z | z | z | z | z | z
    · rw [z]; exact Nat.le_add_right _ _
    · rw [z]; exact Nat.le_add_right _ _
    · rw [z]; exact Nat.le_add_right _ _
    · rw [z]; exact Nat.le_refl _
    · rw [z]; exact Nat.le_add_right _ _
    · rw [z]; exact Nat.le_add_right _ _
  · obtain ⟨u1, t1, n1⟩ := src_at st.2.2 (stay_br A1 st) ex (kd_iff x xs ex)
    obtain ⟨u2, t2, n2⟩ := src_at st.2.2 (stay_br A2 st) ey (kd_iff y ys ey)
    obtain ⟨u3, t3, n3⟩ := src_at st.2.2 (stay_br A3 st) et (kd_iff t ts et)
    rw [hK] at t1 t2 t3
    have m1 := n1.length
    have m2 := n2.length
    have m3 := n3.length
    refine ⟨fun hi => ⟨u1, u2, u3, t1, t2, t3, ?_, ?_, ?_, ?_⟩, fun d hd => ?_⟩
    · rw [List.length_map, List.length_zip, List.length_zip] at hi; omega
    · rw [List.length_map, List.length_zip, List.length_zip] at hi; omega
    · rw [List.length_map, List.length_zip, List.length_zip] at hi; omega
    · rw [List.length_map, List.length_zip, List.length_zip] at hi; omega
    · rw [List.getElem?_map] at hd
      obtain ⟨pq, hp, rfl⟩ := Option.map_eq_some_iff.mp hd
      obtain ⟨h1, h23⟩ := List.getElem?_zip_eq_some.mp hp
      obtain ⟨h2, h3⟩ := List.getElem?_zip_eq_some.mp h23
      obtain ⟨b1, c1, d1⟩ := n1.get h1
      obtain ⟨b2, c2, d2⟩ := n2.get h2
      obtain ⟨b3, c3, d3⟩ := n3.get h3
      refine ⟨⟨u1, u2, u3, b1, b2, b3, t1, t2, t3, c1, c2, c3⟩, ?_⟩
      rintro z H'' ⟨T, y1, y2, y3, rfl, hT, rfl, f1, f2, f3⟩
      have z1 := (f1 _ t1).symm.trans c1
      have z2 := (f2 _ t2).symm.trans c2
      have z3 := (f3 _ t3).symm.trans c3
      cases z1
      cases z2
      cases z3
      exact ⟨Same.upd_new hT, .inr ⟨rfl, T, _, _, rfl, rfl, upd_same, .cons d1 (.cons d2 (.cons d3 .nil))⟩⟩
end
end PL
/-! PM4: enumerate of a list, a tuple. -/
namespace PL
open PySem PySem.Spec PyProof.Rows L2
theorem meets_enum1 {v : Value} {o : Obj} {H : Heap → Prop} (B : Begins v o H) :
    Meets (Builtin.«enumerate.__new__» ⟨[.type "enumerate", v], []⟩) (fun _ R s => H s.heap ∧
      R (.ok (.ret (.ref (s.heap.push o).objs.size))) { s with heap := (s.heap.push o).push { cls := .type "enumerate", data := .fields #[.none, .bool false, .ref s.heap.objs.size, rawInt 0, .none, .none] } }) :=
  .of_wp fun prog w A R s h => by
    obtain ⟨hp, g, d, tk, os⟩ := s; obtain ⟨h1, h⟩ := h
    have hsub := sub_enumerate
    have q1 : ∀ {A' : Around} {E : Value → Shared → Prop} {Q : Value → Shared → Prop}, Q (.ref hp.objs.size) ⟨hp.push o, g, d, tk, os⟩ → wpAny (model prog w) A' (pyIter v) Q E ⟨hp, g, d, tk, os⟩ :=
      fun q => B.iter prog w _ _ ⟨hp, g, d, tk, os⟩ _ h1 q
    wp_walk using q1
    refine wpAny_stack_any fun st => wpAny_pure ?_
    split
    · rename_i c _ _ _ _ _
      cases (c == Value.type "enumerate")
      · wp_walk using q1
        exact ⟨_, rfl, h⟩
      · wp_walk using q1
        exact ⟨_, rfl, h⟩
    · wp_walk using q1
      exact ⟨_, rfl, h⟩
theorem enum1_begins {prog : Program} {w : World} {A : Around} {E : Value → Shared → Prop} {s : Shared} {v : Value} {o : Obj} {H : Heap → Prop} {Q : Value → Shared → Prop} (B : Begins v o H) (h1 : H s.heap)
    (h : ∀ h', IsEnum h' (s.heap.objs.size + 1) s.heap.objs.size 0 .none → h'.get? s.heap.objs.size = some o → h'.objs.size = s.heap.objs.size + 2 →
      (∀ b o, s.heap.get? b = some o → h'.get? b = some o) → Q (.ref (s.heap.objs.size + 1)) { s with heap := h' }) :
    wpAny (model prog w) A (call (.type "enumerate") [v]) Q E s := by
  refine callType_new F.called_enumerate (by decide) (F.typeCall_enumerate_1 _) (F.newCall_enumerate_1 _) (fun obj => F.args_object_init_2 obj _) F.entry_enumerate_new
    (meets_enum1 B) ⟨h1, ?_⟩
  have hz : (s.heap.push o).objs.size = s.heap.objs.size + 1 := Heap.size_push ..
  show _ ∧ _
  rw [hz]
  have he : IsEnum ((s.heap.push o).push { cls := .type "enumerate", data := .fields #[.none, .bool false, .ref s.heap.objs.size, rawInt 0, .none, .none] }) (s.heap.objs.size + 1) s.heap.objs.size 0 .none := by
    have := Heap.get?_push_size (s.heap.push o) (o := { cls := .type "enumerate", data := .fields #[.none, .bool false, .ref s.heap.objs.size, rawInt 0, .none, .none] }) rfl
    rw [hz] at this; exact this
  refine ⟨⟨_, he, rfl⟩, h _ he (Heap.get?_push_of_some _ (Heap.get?_push_size _ B.free)) (by rw [Heap.size_push, hz]) fun b o x => Heap.get?_push_of_some _ (Heap.get?_push_of_some _ x)⟩
def IteK (K : PySem.W.Frag) (kd : KD) (a : Addr) : It :=
  ⟨fun i H => ∃ (xs : List V) (x : V), kd.sq K H a xs ∧ xs[i]? = some x, fun i H v H' => ∃ T x, v = .ref T ∧ H T = none ∧ H' = upd H T (.tup [.int (i : Nat), x]) ∧ ∀ xs, kd.sq K H a xs → xs[i]? = some x, fun i H => ∃ xs : List V, kd.sq K H a xs ∧ i = xs.length⟩
theorem turn_enumK {P : Program} {w : World} {K : PySem.W.Frag} {elts : List Expr} {kk : Nat} {tpos : Pos} {kd : KD} (a e it : Addr) :
    Turn P w K (.Tuple elts kk tpos) (IteK K kd a) [e, it] e (fun i h => (∃ old, IsEnum h e it ((i : Nat) : Int) old) ∧ kd.it h it a i ∧ e ≠ it ∧ e ≠ a) where
  mem := by simp
  obj := fun i h st b hb => by
    obtain ⟨⟨old, he⟩, ht, _⟩ := st
    have e' : b = e ∨ b = it := by simpa using hb
    rcases e' with z | z
    · rw [z]; exact ⟨_, he, fun v q => nomatch q⟩
    · rw [z]; exact KD.obj ht
  keep := fun i h h' st k => let ⟨⟨old, he⟩, hi, hne⟩ := st; ⟨⟨old, k e (by simp) _ he⟩, KD.at hi fun o q => k it (by simp) o q, hne⟩
  item := by
    intro X hP hw hK hc i pins s σ H E I hf st hg
    subst hP hw hK
    obtain ⟨⟨old, he⟩, hit, hne, hea⟩ := st
    obtain ⟨xs, x, hq, hx⟩ := hg
    obtain ⟨its, rv, p, _⟩ := KD.inv I hq
    obtain ⟨u, hu, ru⟩ := rv.get hx
    have hu' : its.toArray[i]? = some u := by simpa using hu
    have hel : e < s.heap.objs.size := Heap.lt_size he
    have hil : it < s.heap.objs.size := by obtain ⟨_, q, _⟩ := KD.obj hit; exact Heap.lt_size q
    have hh : (X.A.in1).handled = none := I.ok.hd hc
    refine wpAny_pyNext_enum_itemD (kd.draws hh it a (KD.ne hit p) its.toArray) he ⟨hit, p⟩ (Array.getElem?_eq_some_iff.mp hu').1 hne (by simp [hne, hea]) fun v1 h' tk e1 ho hit' hT hsz hk => ?_
    rw [hu'] at e1
    cases e1
    refine ⟨_, rfl, wpAny_letOwnedTupleGo_enum (s := { s with heap := h', toks := tk + 1 }) ho fun h'' he' sb => ?_⟩
    have hT2 : h''.get? s.heap.objs.size = some { cls := .type "tuple", data := .seq #[.int i tk, u] } := (sb.2 _ (Nat.ne_of_gt hel)).trans hT
    have new : ObjOk X.prog X.w (upd H s.heap.objs.size (.tup [.int (i : Nat), x])) h'' s.heap.objs.size (.tup [.int (i : Nat), x]) :=
      ⟨by show 2 ≤ sizeLine; decide, [.int i tk, u], .cons ⟨_, rfl⟩ (.cons ru .nil), ⟨_, hT2, rfl, _, rfl⟩⟩
    have I1 : Inv X pins σ (upd H s.heap.objs.size (.tup [.int (i : Nat), x])) { s with heap := h'', toks := tk + 1 } :=
      I.turnedNew (ch := [e, it]) (fun b ob hb q => (sb.2 b (fun z => hb (by simp [z]))).trans (hk b ob (fun z => hb (by simp [z])) (fun z => hb (by simp [z])) q)) hf (Nat.le_refl _) new
    refine ⟨.ref s.heap.objs.size, _, I1, rfl, ⟨_, x, rfl, I.hok.fresh (Nat.le_refl _), rfl, fun ys hy => by rw [KD.inj I hy hq]; exact hx⟩, ⟨⟨u, ?_⟩, KD.at hit'.1 fun o q => (sb.2 it (Ne.symm hne)).trans q, hne, hea⟩, fun b hb => ?_⟩
    · have e1 : ((i + 1 : Nat) : Int) = (i : Int) + 1 := by omega
      rw [e1]; exact he'
    · have hb' : b < s.heap.objs.size := by
        have e' : b = e ∨ b = it := by simpa using hb
        rcases e' with z | z
        · rw [z]; exact hel
        · rw [z]; exact hil
      rw [upd_ne (Nat.ne_of_lt hb')]
      exact (hf b hb).1
  done := by
    intro X hP hw hK hc i pins s σ H E I hf st hg
    subst hP hw hK
    obtain ⟨⟨old, he⟩, hit, hne, hea⟩ := st
    obtain ⟨xs, hq, hx⟩ := hg
    obtain ⟨its, rv, p, _⟩ := KD.inv I hq
    obtain ⟨f0, f1, f2, f3, f4, f5⟩ := hf it (by simp)
    have hl := rv.length
    have hh : (X.A.in1).handled = none := I.ok.hd hc
    have hi : i = its.toArray.size := by simp; omega
    subst hi
    exact wpAny_pyNext_enum_endD (kd.draws hh it a (KD.ne hit p) its.toArray) he ⟨hit, p⟩ fun h' eb => ⟨rfl, I.turned (t' := s.toks) (fun b o hb q => eb b o hb q) f0 f1 f3 f4 f5⟩
  self := fun A i s Q E st h => let ⟨⟨_, he⟩, _⟩ := st; wpAny_pyIter_enum he h
section
variable {X : Cx} {k : RC} {C : PC} {pos : Pos}
theorem qi_enum (hX : XOk X k) {b : Bool} {e1 : Expr} {ia : IE} {p tpos : Pos} {elts : List Expr} {kk : Nat} (hg : Gl X "enumerate") (hm : X.mg "enumerate" = none) (ha : PA X [e1] (tA C k b (.acons ia .anil))) (hs : starEach [e1] X.env = [(false, eval e1 X.env)]) :
    PI X (.Tuple elts kk tpos) (.Call (.Name "enumerate" p) [e1] [] pos) (tI C k b true (.itEnum ia)) := by
  refine ⟨fun pins s σ H Rr I ⟨ρ, F, QQ, rel, wp, fin⟩ => ?_⟩
  have hK := hX.K
  refine Call_ (ld_blt I hg hm boot_enumerate (PyProof.Rows.callWith_type1 (thn (ha.run pos pins s σ H (fun vs H1 => ∃ ds ρ1 F1, Rel k ρ1 σ F1 H1 ∧ ETr k ρ σ F H ρ1 F1 H1 ∧ ARel k b F1 H1 vs ds ∧ (match ds with | [x] => ∃ xs, seqD x = some xs ∧ (xs.length ≤ sizeLine → QQ (xs.mapIdx fun k d => .tup [.int (k : Nat), d]) ρ1) | _ => False)) I
    ⟨ρ, F, fun ds ρ1 => (match ds with | [x] => ∃ xs, seqD x = some xs ∧ (xs.length ≤ sizeLine → QQ (xs.mapIdx fun k d => .tup [.int (k : Nat), d]) ρ1) | _ => False), rel, wp, fun ds ρ1 vs F1 H1 r t a q => ⟨ds, ρ1, F1, r, t, a, q⟩⟩) fun us s1 ⟨vs, H1, I1, r1, ds, ρ1, F1, rel1, tr1, ar, q⟩ => ?_) hs rfl))
  match ds, ar, q with
  | [x], ar, ⟨xs, ex, q⟩ =>
  obtain ⟨v1, vs1, rfl⟩ := ar.split
  cases ar.rest.done
  obtain ⟨a1, rfl⟩ := src_ref rel1.sub ar.br ex
  obtain ⟨w1, q1, rs1⟩ := src_at rel1.sub ar.br ex (kd_iff x xs ex)
  cases r1 with
  | cons r rr =>
  cases rr
  cases r
  obtain ⟨its1, rv1, p1, l1⟩ := KD.inv I1 (hK ▸ q1)
  refine enum1_begins (KD.begins (kdOf x) a1 its1.toArray) p1 fun h' he g1 hsz hk => wpAny_pyIter_enum he ?_
  have I2 : Inv X pins σ H1 { s1 with heap := h' } := I1.kept (t' := s1.toks) hk
  refine ⟨s1.heap.objs.size + 1, [s1.heap.objs.size + 1, s1.heap.objs.size], _, IteK X.K (kdOf x) a1, H1, rfl, I2, turn_enumK a1 (s1.heap.objs.size + 1) s1.heap.objs.size, ⟨⟨.none, he⟩, KD.start g1, Nat.succ_ne_self _, fun z => Nat.not_succ_lt_self (z ▸ l1 : s1.heap.objs.size + 1 < s1.heap.objs.size)⟩, fun c hcm => ?_, fin _ ρ1 F1 H1 _ rel1 tr1 (fun F' H' st i => ?_) (q (seq_len hX I1 rel1.sub ar.br ex))⟩
  · have e' : c = s1.heap.objs.size + 1 ∨ c = s1.heap.objs.size := by simpa using hcm
    refine fresh5 I1 c ?_
    rcases e' with z | z
    · rw [z]; exact Nat.le_add_right _ _
    · rw [z]; exact Nat.le_refl _
  · obtain ⟨u1, t1, n1⟩ := src_at st.2.2 (stay_br ar st) ex (kd_iff x xs ex)
    rw [hK] at t1
    have m1 := n1.length
    refine ⟨fun hi => ⟨u1, t1, ?_⟩, fun d hd => ?_⟩
    · rw [List.length_mapIdx] at hi; omega
    · rw [List.getElem?_mapIdx] at hd
      obtain ⟨d1, hp, rfl⟩ := Option.map_eq_some_iff.mp hd
      obtain ⟨b1, c1, d1⟩ := n1.get hp
      refine ⟨⟨u1, b1, t1, c1⟩, ?_⟩
      rintro z H'' ⟨T, y1, rfl, hT, rfl, f1⟩
      have z1 := (f1 _ t1).symm.trans c1
      cases z1
      exact ⟨Same.upd_new hT, .inr ⟨rfl, T, _, _, rfl, rfl, upd_same, .cons (.int _) (.cons d1 .nil)⟩⟩
end
end PL
/-! PM5: d.items(). -/
namespace PL
open PySem PySem.Spec PyProof.Rows L2
/-- the pairs of the exact dict at d -/
def Itw (d : Addr) (o : Obj) (es : List DictEntry) : It :=
  ⟨fun i H => H d = some (exO d o) ∧ i < es.length, fun i H x H' => ∃ (T : Addr) (k v : V) (e : DictEntry), x = .ref T ∧ H T = none ∧ H' = upd H T (.tup [k, v]) ∧ es[i]? = some e ∧ RelV k e.key ∧ RelV v e.val, fun i H => H d = some (exO d o) ∧ es.length ≤ i⟩
theorem turn_w {P : Program} {w : World} {K : PySem.W.Frag} {elts : List Expr} {kk : Nat} {tpos : Pos} {d : Addr} {o : Obj} {es : List DictEntry} {ep : Nat} (it : Addr) (hc : o.ExactDict) (hod : o.data = .dict es.toArray ep) (hv : ∀ e ∈ es, (∃ x, RelV x e.key) ∧ ∃ y, RelV y e.val) :
    Turn P w K (.Tuple elts kk tpos) (Itw d o es) [it] it (fun i h => ∃ ok ov, IsItemIter h it d i es.toArray.size ep ok ov) where
  mem := by simp
  obj := fun i h st b hb => by
    have e : b = it := by simpa using hb
    subst e
    obtain ⟨ok, ov, e⟩ := st
    exact ⟨_, e, fun v z => nomatch z⟩
  keep := fun i h h' st k => let ⟨ok, ov, e⟩ := st; ⟨ok, ov, k it (by simp) _ e⟩
  item := by
    intro X hP hw hK hcm i pins s σ H E I hf st hg
    subst hP hw hK
    obtain ⟨hd, hi⟩ := hg
    obtain ⟨ok, ov, he⟩ := st
    have ho := exO_get I hd
    have hlt : it < s.heap.objs.size := Heap.lt_size he
    have hsz : i < es.toArray.size := by simpa using hi
    obtain ⟨⟨k, rk⟩, ⟨v, rv⟩⟩ := hv es[i] (List.getElem_mem hi)
    refine DT.nextI he ⟨o, ho, hc, hod⟩ hsz fun h' ho' hT hz hk => ?_
    refine ⟨_, rfl, wpAny_letOwnedTupleGo_items (s := { s with heap := h' }) ho' fun h'' he' sb => ?_⟩
    have hT2 : h''.get? s.heap.objs.size = some { cls := .type "tuple", data := .seq #[es[i].key, es[i].val] } := (sb.2 _ (Nat.ne_of_gt hlt)).trans hT
    have new : ObjOk X.prog X.w (upd H s.heap.objs.size (.tup [k, v])) h'' s.heap.objs.size (.tup [k, v]) :=
      ⟨by show 2 ≤ sizeLine; decide, [es[i].key, es[i].val], .cons rk (.cons rv .nil), ⟨_, hT2, rfl, _, rfl⟩⟩
    have I1 : Inv X pins σ (upd H s.heap.objs.size (.tup [k, v])) { s with heap := h'' } :=
      I.turnedNew (t' := s.toks) (ch := [it]) (fun b ob hb e => (sb.2 b (by simpa using hb)).trans (hk b ob (by simpa using hb) e)) hf (Nat.le_refl _) new
    refine ⟨.ref s.heap.objs.size, _, I1, rfl, ⟨_, k, v, es[i], rfl, I.hok.fresh (Nat.le_refl _), rfl, List.getElem?_eq_getElem hi, rk, rv⟩, ⟨_, _, he'⟩, fun b hb => ?_⟩
    have e : b = it := by simpa using hb
    rw [e, upd_ne (Nat.ne_of_lt hlt)]
    exact (hf it (by simp)).1
  done := by
    intro X hP hw hK hcm i pins s σ H E I hf st hg
    subst hP hw hK
    obtain ⟨hd, hi⟩ := hg
    obtain ⟨f0, f1, f2, f3, f4, f5⟩ := hf it (by simp)
    obtain ⟨ok, ov, he⟩ := st
    exact DT.endI (I.ok.hd hcm) he ⟨o, exO_get I hd, hc, hod⟩ (by simpa using hi) fun h' eb => ⟨rfl, I.turned (t' := s.toks) (fun b ob hb e => eb b ob hb e) f0 f1 f3 f4 f5⟩
  self := fun A i s Q E st h => let ⟨_, _, e⟩ := st; PySem.W.kcp_self e h
theorem rk_get2 {k : RC} {F : Hp} : ∀ {es : List DictEntry} {kvs : List (D × D)} {i : Nat} {e : DictEntry}, RKs k F es kvs → es[i]? = some e → ∃ p v y, kvs[i]? = some p ∧ RelV v e.key ∧ R k F v p.1 ∧ RelV y e.val ∧ R k F y p.2
  | _, _, _, _, .nil, h => by simp at h
  | _, _, 0, _, .cons h1 h2 h3 h4 _ _ _ _, h => by simp at h; subst h; exact ⟨_, _, _, rfl, h1, h2, h3, h4⟩
  | _, _, i + 1, e, .cons _ _ _ _ _ _ _ r, h => by
    obtain ⟨p, v, y, h1, h2⟩ := rk_get2 (i := i) (e := e) r (by simpa using h)
    exact ⟨p, v, y, by simpa using h1, h2⟩
section
variable {X : Cx} {k : RC} {C : PC}
theorem qi_items (hX : XOk X k) {b : Bool} {e1 : Expr} {ia : IE} {apos cpos tpos : Pos} {elts : List Expr} {kk : Nat} (he : PE X e1 (tE C k ia)) (hbase : attributeBase e1 "items" X.env (eval e1 X.env) = eval e1 X.env) (hline : (apos.endLine == cpos.line) = true) :
    PI X (.Tuple elts kk tpos) (.Call (.Attribute e1 "items" apos) [] [] cpos) (tI C k b true (.itItems ia)) := by
  refine ⟨fun pins s σ H Rr I ⟨ρ, F, QQ, rel, wp, fin⟩ => ?_⟩
  have hK := hX.K
  refine wpAny_Call_method (T := "dict") (id := "dict.items") hbase rfl hline PySem.F.plainAttrs_dict PySem.F.slot_dict_items PySem.F.type_dict_items (thn (he.run pins s σ H (fun v H1 => ∃ ρ1 F1 r, EPost k ρ σ F H r v ρ1 F1 H1 ∧ (if b = true then (fun K : D → Prop => K r.toD) else r.kept) fun d => ∃ kvs, d = .dct kvs ∧ (kvs.length ≤ sizeLine → QQ (kvs.map fun p => .tup [p.1, p.2]) ρ1)) I ⟨ρ, F, _, rel, wp, fun r ρ1 v F1 H1 p q => ⟨ρ1, F1, r, p, q⟩⟩) fun u s1 ⟨x, H1, I1, rx, ρ1, F1, r, p, q⟩ => ?_)
  obtain ⟨d, F2, ⟨kvs, rfl, q2⟩, br, hb, rel2, tr2⟩ := come rel p q
  obtain ⟨a, es, rfl, ⟨o, ep, g1, g2, g3, g4, g5⟩, rk, nd, un⟩ := br.dct rel2.sub
  cases rx
  have ho := exO_get I1 g1
  have raw : DT.Raw s1.heap a es.toArray ep := ⟨o, ho, g2, g3⟩
  refine ⟨raw.typeIs, fun c z => by cases z; exact ⟨o, ho, g2.2.1⟩, ?_⟩
  have I2 : Inv X pins σ H1 { s1 with heap := s1.heap.push { cls := .type "dict_items", data := .fields #[.ref a] } } := I1.kept (t' := s1.toks) fun b ob q => Heap.get?_push_of_some _ q
  have fin2 : wpAny (model X.prog X.w) X.A (pyIter (.ref s1.heap.objs.size)) (PIE X pins σ (.Tuple elts kk tpos) Rr) X.xe { s1 with heap := s1.heap.push { cls := .type "dict_items", data := .fields #[.ref a] } } := by
    refine DT.iterI ⟨_, Heap.get?_push_size _ rfl, rfl, rfl⟩ (raw.push _) (pi_one (tk := s1.toks) I2 _ (turn_w (es := es) _ g2 g3 fun e he => ?_) ⟨.none, .none, Heap.get?_push_size _ rfl⟩ (fin _ ρ1 F2 H1 _ rel2 tr2 (fun F' H' st i => ?_) (q2 (by rw [← rk.length]; exact g5))))
    · obtain ⟨i, hi⟩ := List.mem_iff_getElem?.mp he
      obtain ⟨p, v, y, _, h2, _, h3, _⟩ := rk_get2 rk hi
      exact ⟨⟨v, h2⟩, ⟨y, h3⟩⟩
    · obtain ⟨a1, a2, a3⟩ := st
      have same : H' a = some (exO a o) := by
        cases b with
        | true =>
          refine a2 rfl _ _ g1 fun ⟨p, q, z⟩ => ?_
          obtain ⟨_, _, _, _, m, _, _, c1⟩ := rel2.pool p q a z
          have := c1.symm.trans g1
          cases this
        | false =>
          have hbr := hb rfl
          cases hbr with
          | dct da _ _ _ =>
            obtain ⟨oF, epF, f1, _⟩ := da
            have e1 := exO_get I1 (rel2.sub _ _ f1)
            have e2 := ho.symm.trans e1
            cases e2
            exact a3 _ _ (a1 _ _ f1)
      refine ⟨fun hi => ⟨same, by rw [rk.length]; rw [List.length_map] at hi; exact Nat.le_of_eq hi.symm⟩, fun d hd => ?_⟩
      rw [List.getElem?_map] at hd
      obtain ⟨q, hq, rfl⟩ := Option.map_eq_some_iff.mp hd
      have hlt : i < es.length := by rw [rk.length]; exact (List.getElem?_eq_some_iff.mp hq).1
      refine ⟨⟨same, hlt⟩, ?_⟩
      rintro y H'' ⟨T, kv, vv, e, rfl, hT, rfl, e2, e3, e4⟩
      obtain ⟨p, v, y, p1, p2, p3, p4, p5⟩ := rk_get2 rk e2
      have := p1.symm.trans hq
      cases this
      have := e3.inj p2
      subst this
      have := e4.inj p4
      subst this
      exact ⟨Same.upd_new hT, .inr ⟨rfl, T, _, _, rfl, rfl, upd_same, .cons (p3.mono a1) (.cons (p5.mono a1) .nil)⟩⟩
  show wpAny _ _ (callWith cpos (.builtin "dict.items") [.ref a] [] []) _ X.xe s1
  exact method_meetsIn PySem.F.slot_dict_items PySem.F.entry_dict_items rfl (PySem.evalArgs_none ⟨rfl, raw.typeIs, PySem.F.args_dict_items_1 _, _, DT.meetsItems (es := es.toArray) (ep := ep) g4, ⟨raw, fin2⟩⟩)
end
end PL
/-! PM6: list comprehensions of two clauses. -/
namespace PL
open PySem PySem.Spec PyProof.Rows L2
section
variable {X : Cx} {k : RC} {C : PC}
theorem wipe_sub {vs vs1 : List Nat} {σ : L2.St} (hv : ∀ i ∈ vs1, i ∈ vs) : L2.wipe (L2.wipe σ vs1) vs = L2.wipe σ vs := by
  apply List.ext_getElem?
  intro j
  have h1 := wipe_get (σ := L2.wipe σ vs1) (vs := vs) (j := j)
  have h2 := wipe_get (σ := σ) (vs := vs) (j := j)
  have h3 := wipe_get (σ := σ) (vs := vs1) (j := j)
  rw [h1, h2, wipe_length]
  by_cases e : j ∈ vs
  · rw [if_pos e, if_pos e]
  · rw [if_neg e, if_neg e, h3, if_neg fun z => e (hv j z)]
theorem lc2_sem {vs vs1 : List Nat} {tg tg1 : Tg} {tp tp1 : Bool} {it ic it1 ic1 ie : IE} {σ : L2.St} {H : Hp} {Q : VK} (htp : tp = true → ∃ is, tg = .tp is) (htg : ∀ i ∈ tg.slots, i ∈ vs) (htp1 : tp1 = true → ∃ is, tg1 = .tp is) (htg1 : ∀ i ∈ tg1.slots, i ∈ vs1) (hv : ∀ i ∈ vs1, i ∈ vs)
    (h : tE C k (.comp2 vs vs1 tg it ic tg1 it1 ic1 ie) σ H Q) : tLc2 (tI C k true tp it) (tG k tg) (tT C k ic) (tI C k false tp1 it1) (tG k tg1) (tT C k ic1) (tE C k ie) vs vs1 σ H Q := by
  obtain ⟨ρ, F, QQ, rel, ⟨hpl, wp⟩, fin⟩ := h
  refine ⟨ρ, F, _, rel, wp, fun ds ρ1 F1 H1 J rel1 tr1 itok q => fun D hD => ?_⟩
  have hpl1 : ∀ i ∈ vs, (ρ1.get i).plain = true := fun i hi => by
    cases e : (ρ1.get i).plain with
    | true => rfl
    | false =>
      obtain ⟨a, e1, _⟩ := SlotR.here (x := none) (rel1.slot i) e
      have := (tr1.own i a ⟨e, e1⟩).1
      rw [plain_at hpl hi] at this
      cases this
  have hn : H D = none := none_back tr1.there hD
  have relw := (rel1.wipe (vs := vs)).newH (o := .lst []) hD
  have btr : BTr k ρ σ F H (ρ1.wipe vs) (L2.wipe σ vs) F1 (upd H1 D (.lst [])) := (tr1.b.slots fun i a z => (own_wipe z).1).write hn
  have nd : NewD k (ρ1.wipe vs) (L2.wipe σ vs) F1 (upd H1 D (.lst [])) D [] := ⟨⟨[], upd_same, .nil⟩, rel1.fnone hD, rel1.nopN hD, fun i z => by
    have := rel1.ownH (own_wipe z).1
    exact this hD⟩
  refine ⟨fun i m H' => m = ds.length - i ∧ i ≤ ds.length ∧ ∃ ρt F' acc, Rel k ρt (L2.wipe σ vs) F' H' ∧ BTr k ρ σ F H ρt (L2.wipe σ vs) F' H' ∧ Same F1 F' ∧ SameX k H1 H' ∧ NewD k ρt (L2.wipe σ vs) F' H' D acc ∧
      compL2 vs vs1 tg (wpE C ic) (wpI C false it1) tg1 (wpE C ic1) (wpE C ie) (ds.drop i) ρt acc (fun acc ρ2 => QQ (.own acc) (ρ1.back ρ2 vs)),
    ⟨ds.length, by simp, by omega, ρ1.wipe vs, F1, [], relw, btr, fun _ _ h => h, .of (Same.upd_new hD), nd, q⟩, ?_⟩
  rintro i m H' ⟨rfl, hi, ρt, F', acc, rel', tr', sub', heap', nd', q'⟩
  obtain ⟨i1, i2⟩ := itok F' H' ⟨sub', fun _ => heap', rel'.sub⟩ i
  by_cases hlt : i < ds.length
  · obtain ⟨go, yl⟩ := i2 ds[i] (List.getElem?_eq_getElem hlt)
    rw [List.drop_eq_getElem_cons hlt] at q'
    refine .inr ⟨go, fun H2 => ∃ ρt F' acc, Rel k ρt (L2.wipe σ vs) F' H2 ∧ BTr k ρ σ F H ρt (L2.wipe σ vs) F' H2 ∧ Same F1 F' ∧ SameX k H1 H2 ∧ NewD k ρt (L2.wipe σ vs) F' H2 D acc ∧
      compL2 vs vs1 tg (wpE C ic) (wpI C false it1) tg1 (wpE C ic1) (wpE C ie) (ds.drop (i + 1)) ρt acc (fun acc ρ2 => QQ (.own acc) (ρ1.back ρ2 vs)), fun H2 h => ⟨_, (by omega : ds.length - (i + 1) < ds.length - i), rfl, hlt, h⟩, fun x H'' y => ?_⟩
    obtain ⟨sH, iok⟩ := yl x H'' y
    have k0 : ETr k ρt (L2.wipe σ vs) F' H' ρt F' H'' := .keepH sH
    have rel2 := rel'.keepH sH
    refine ⟨ρt, F', ds[i], _, rel2, ?_, q', fun ρ3 σ3 rel3 tt q3 => ?_⟩
    · rcases iok with r | ⟨h1, T, ws, es, h2, h3, h4, h5⟩
      · exact .inl r
      · obtain ⟨is, e⟩ := htp h1
        exact .inr ⟨is, T, ws, es, e, h2, h3, h4, h5⟩
    · have w3 : L2.wipe σ3 vs = L2.wipe σ vs := (tt.wp vs htg).trans wipe_idem
      refine ⟨w3, ρ3, F', _, rel3, q3, fun b ρ4 F4 H4 rel4 tr4 ⟨b', eb, q4⟩ => ?_⟩
      cases eb
      have nd4 := ((nd'.next k0).slots tt.own).next tr4
      have tr4' := ((tr'.next k0).slots tt.own).next tr4
      have sub4 : Same F1 F4 := fun b o e => tr4.sub b o (sub' b o e)
      have heap4 : SameX k H1 H4 := (heap'.trans k0.heap).trans tr4.heap
      -- the turn's end
      have ends : ∀ {ρ6 σ6 F6 H6 acc6}, L2.wipe σ6 vs = L2.wipe σ vs → Rel k ρ6 σ6 F6 H6 → BTr k ρ σ F H ρ6 σ6 F6 H6 → NewD k ρ6 σ6 F6 H6 D acc6 → Rel k (ρ6.wipe vs) (L2.wipe σ vs) F6 H6 ∧ BTr k ρ σ F H (ρ6.wipe vs) (L2.wipe σ vs) F6 H6 ∧ NewD k (ρ6.wipe vs) (L2.wipe σ vs) F6 H6 D acc6 := fun {ρ6 σ6 F6 H6 acc6} w r t n => by
        rw [← w]
        exact ⟨r.wipe, t.slots fun i a z => (own_wipe z).1, n.slots fun i a z => (own_wipe z).1⟩
      cases b with
      | false =>
        rw [brn_ite, if_neg Bool.false_ne_true] at q4; rw [if_neg Bool.false_ne_true]
        obtain ⟨e1, e2, e3⟩ := ends w3 rel4 tr4' nd4
        exact ⟨_, _, _, e1, e2, sub4, heap4, e3, q4⟩
      | true =>
        rw [brn_ite, if_pos rfl] at q4; rw [if_pos rfl]
        refine ⟨ρ4, F4, _, rel4, q4, fun es ρ5 F5 H5 J1 rel5 tr5 itok1 q5 => ?_⟩
        have nd5 := nd4.next tr5
        have tr5' := tr4'.next tr5
        have sub5 : Same F1 F5 := fun b o e => tr5.sub b o (sub4 b o e)
        have heap5 : SameX k H1 H5 := heap4.trans tr5.heap
        refine ⟨fun j m H' => m = es.length - j ∧ j ≤ es.length ∧ ∃ ρt F' acc, Rel k ρt (L2.wipe σ3 vs1) F' H' ∧ BTr k ρ σ F H ρt (L2.wipe σ3 vs1) F' H' ∧ Same F1 F' ∧ SameX k H1 H' ∧ Same F5 F' ∧ NewD k ρt (L2.wipe σ3 vs1) F' H' D acc ∧
            compL vs1 tg1 (wpE C ic1) (wpE C ie) (es.drop j) ρt acc (fun acc' ρ6 => compL2 vs vs1 tg (wpE C ic) (wpI C false it1) tg1 (wpE C ic1) (wpE C ie) (ds.drop (i + 1)) (ρ6.wipe vs) acc' (fun acc ρ2 => QQ (.own acc) (ρ1.back ρ2 vs))),
          ⟨es.length, by simp, by omega, ρ5.wipe vs1, F5, acc, rel5.wipe, tr5'.slots fun i a z => (own_wipe z).1, sub5, heap5, fun _ _ h => h, nd5.slots fun i a z => (own_wipe z).1, q5⟩, ?_⟩
        rintro j m G' ⟨rfl, hj, ρu, Fu, accu, relu, tru, subu, heapu, sub5u, ndu, qu⟩
        obtain ⟨j1, j2⟩ := itok1 Fu G' ⟨sub5u, fun z => Bool.noConfusion z, relu.sub⟩ j
        by_cases hlj : j < es.length
        · obtain ⟨go1, yl1⟩ := j2 es[j] (List.getElem?_eq_getElem hlj)
          rw [List.drop_eq_getElem_cons hlj] at qu
          refine .inr ⟨go1, fun H2 => ∃ ρt F' acc, Rel k ρt (L2.wipe σ3 vs1) F' H2 ∧ BTr k ρ σ F H ρt (L2.wipe σ3 vs1) F' H2 ∧ Same F1 F' ∧ SameX k H1 H2 ∧ Same F5 F' ∧ NewD k ρt (L2.wipe σ3 vs1) F' H2 D acc ∧
            compL vs1 tg1 (wpE C ic1) (wpE C ie) (es.drop (j + 1)) ρt acc (fun acc' ρ6 => compL2 vs vs1 tg (wpE C ic) (wpI C false it1) tg1 (wpE C ic1) (wpE C ie) (ds.drop (i + 1)) (ρ6.wipe vs) acc' (fun acc ρ2 => QQ (.own acc) (ρ1.back ρ2 vs))),
            fun H2 h => ⟨_, (by omega : es.length - (j + 1) < es.length - j), rfl, hlj, h⟩, fun x1 G'' y1 => ?_⟩
          obtain ⟨sG, iok1⟩ := yl1 x1 G'' y1
          have k1 : ETr k ρu (L2.wipe σ3 vs1) Fu G' ρu Fu G'' := .keepH sG
          have relv := relu.keepH sG
          refine ⟨ρu, Fu, es[j], _, relv, ?_, qu, fun ρ7 σ7 rel7 tt7 q7 => ?_⟩
          · rcases iok1 with r | ⟨h1, T, ws, es, h2, h3, h4, h5⟩
            · exact .inl r
            · obtain ⟨is, e⟩ := htp1 h1
              exact .inr ⟨is, T, ws, es, e, h2, h3, h4, h5⟩
          · have w7 : L2.wipe σ7 vs1 = L2.wipe σ3 vs1 := (tt7.wp vs1 htg1).trans wipe_idem
            refine ⟨w7, ρ7, Fu, _, rel7, q7, fun b8 ρ8 F8 H8 rel8 tr8 ⟨b8', eb8, q8⟩ => ?_⟩
            cases eb8
            have nd8 := ((ndu.next k1).slots tt7.own).next tr8
            have tr8' := ((tru.next k1).slots tt7.own).next tr8
            have sub8 : Same F1 F8 := fun b o e => tr8.sub b o (subu b o e)
            have sub58 : Same F5 F8 := fun b o e => tr8.sub b o (sub5u b o e)
            have heap8 : SameX k H1 H8 := (heapu.trans k1.heap).trans tr8.heap
            have ends1 : ∀ {ρ6 F6 H6 acc6}, Rel k ρ6 σ7 F6 H6 → BTr k ρ σ F H ρ6 σ7 F6 H6 → NewD k ρ6 σ7 F6 H6 D acc6 → Rel k (ρ6.wipe vs1) (L2.wipe σ3 vs1) F6 H6 ∧ BTr k ρ σ F H (ρ6.wipe vs1) (L2.wipe σ3 vs1) F6 H6 ∧ NewD k (ρ6.wipe vs1) (L2.wipe σ3 vs1) F6 H6 D acc6 := fun {ρ6 F6 H6 acc6} r t n => by
              rw [← w7]
              exact ⟨r.wipe, t.slots fun i a z => (own_wipe z).1, n.slots fun i a z => (own_wipe z).1⟩
            cases b8 with
            | false =>
              rw [brn_ite, if_neg Bool.false_ne_true] at q8; rw [if_neg Bool.false_ne_true]
              obtain ⟨e1, e2, e3⟩ := ends1 rel8 tr8' nd8
              exact ⟨_, _, _, e1, e2, sub8, heap8, sub58, e3, q8⟩
            | true =>
              rw [brn_ite, if_pos rfl] at q8; rw [if_pos rfl]
              refine ⟨ρ8, F8, _, rel8, q8, fun r ρ9 v F9 H9 p q9 => ?_⟩
              obtain ⟨d, F6, ⟨q6, q10⟩, _, rd, rel6, tr6⟩ := p.keep rel8 q9
              have nd6 := nd8.next tr6
              obtain ⟨ws, v1, v2⟩ := nd6.at_
              refine ⟨ws, v1, by rw [v2.length]; exact q6, ?_⟩
              have nd7 := nd6.push v1 rd
              obtain ⟨e1, e2, e3⟩ := ends1 (rel6.writeD nd6.no nd6.fn nd6.np) ((tr8'.next tr6).write hn) nd7
              refine ⟨_, _, _, e1, e2, fun b o e => tr6.sub b o (sub8 b o e), ?_, fun b o e => tr6.sub b o (sub58 b o e), e3, q10⟩
              exact (heap8.trans tr6.heap).trans' hD
        · have e : j = es.length := by omega
          subst e
          rw [List.drop_length] at qu
          obtain ⟨e1, e2, e3⟩ := ends ((wipe_sub hv).trans w3) relu tru ndu
          exact .inl ⟨j1 rfl, ρu.wipe vs, Fu, accu, e1, e2, subu, heapu, e3, qu⟩
  · have e : i = ds.length := by omega
    subst e
    rw [List.drop_length] at q'
    refine .inl ⟨i1 rfl, ?_⟩
    obtain ⟨r1, r2⟩ := rel1.back hpl1 rel' sub'
    have nd2 := nd'.slots r2
    obtain ⟨ws, v1, v2⟩ := nd2.at_
    exact fin (.own acc) _ _ _ _ ⟨r1, (tr'.slots r2).e, D, rfl, hn, ws, v1, nd2.fn, nd2.np, v2⟩ q'
end
end PL
/-! PM7: a, b = x, y. -/
namespace PL
open PySem PySem.Spec PyProof.Rows L2
section
variable {X : Cx} {k : RC} {C : PC} {pos : Pos}
theorem qs_par (hX : XOk X k) {i j : Nat} {x y : Str} {a b : Expr} {ias : IE} {px py pt : Pos} {kt k2 pt2} (hN : X.N.Nodup) (hi : X.N[i]? = some x) (hj : X.N[j]? = some y) (hij : i ≠ j)
    (hx : X.env.scope.names.lookup x = some .local) (hy : X.env.scope.names.lookup y = some .local) (ha : PA X [a, b] (tA C k false ias))
    (hw : swappedStores [.Tuple [.Name x px, .Name y py] kt pt] (.Tuple [a, b] k2 pt2) X.env = pure (some [x, y]))
    (hs : swapsWithSole [.Tuple [.Name x px, .Name y py] kt pt] (.Tuple [a, b] k2 pt2) pos.line X.env = pure false) :
    PS X (.Assign [.Tuple [.Name x px, .Name y py] kt pt] (.Tuple [a, b] k2 pt2) pos) (tS C k (.asg (.tp [i, j]) (.tup ias))) :=
  weakS (ps_par hX.calm hN hi hj hij hx hy ha hw hs) fun D σ H ⟨ρ, F, F0, H0, G, E, rel, tr, wp, en⟩ => by
    refine ⟨ρ, F, _, rel, wp, fun ds ρ1 vs F1 H1 rel1 tr1 ar ⟨hz, q⟩ => ?_⟩
    obtain ⟨xs, ρ2, e, pa, q⟩ := q
    cases e
    have ar : Rs k F1 vs ds := ar
    match ds, ar, pa with
    | [d1, d2], .cons r1 (.cons r2 .nil), pa =>
      have e2 : (ρ1.put i (.val d1)).put j (.val d2) = ρ2 := Option.some.inj pa
      subst e2
      obtain ⟨z1, z2⟩ := rel1.put (i := i) r1
      obtain ⟨y1, y2⟩ := z1.put (i := j) r2
      exact ⟨_, _, rfl, en.nx _ _ _ _ y1 ((tr.next tr1).slots fun l c z => (tr.next tr1).own l c (z2 l c (y2 l c z))) q⟩
    | [], _, pa => cases pa
    | [_], _, pa => cases pa
    | _ :: _ :: _ :: _, _, pa => cases pa
end
end PL
namespace PL
open PySem PySem.Spec PyProof.Rows L2
def parC (a b : Expr) : Bool := ![a, b].any (fun | .Starred .. => true | _ => false) && ![a, b].all (foldedForSure 8) && ![a, b].all (constantsAlone 8)
theorem swp_pair {x y : Str} {px py pt : Pos} {a b : Expr} {kt k2 pt2} {env : Env} (hb : env.blockKind = .function) (kx : env.kindOf x = some .local) (ky : env.kindOf y = some .local) (hl : (py.line == px.line) = true) (hxy : x ≠ y) (h : parC a b = true) :
    swappedStores [.Tuple [.Name x px, .Name y py] kt pt] (.Tuple [a, b] k2 pt2) env = pure (some [x, y]) := by
  unfold parC at h
  simp only [Bool.and_eq_true, Bool.not_eq_true'] at h
  obtain ⟨⟨h1, h2⟩, h3⟩ := h
  have hl' : py.line = px.line := by simpa using hl
  have hyx : (y == x) = false := beq_false_of_ne (Ne.symm hxy)
  have f2 : List.eraseDupsBy (fun x1 x2 => x1 == x2) [x, y] = [x, y] := by
    simp [List.eraseDupsBy, List.eraseDupsBy.loop, hyx]
  simp only [List.any_cons, List.any_nil, Bool.or_false, Bool.or_eq_false_iff] at h1
  unfold swappedStores
  simp [List.filterMap_cons, hb, kx, ky, hl', h2, h3, Expr.pos, List.eraseDups, f2, h1.1, h1.2]
  rintro (z | z)
  · exact absurd (h1.1.symm.trans z) Bool.false_ne_true
  · exact absurd (h1.2.symm.trans z) Bool.false_ne_true
end PL
/-! PN1: upper(), [::-1] of a list, remove of an int. -/
namespace PL
open PySem PySem.Spec PyProof.Rows L2
section
variable {X : Cx} {k : RC} {C : PC} {pos : Pos}
theorem qe_upper {o : Expr} {io : IE} {apos cpos : Pos} (ho : PE X o (tE C k io)) (hbase : attributeBase o "upper" X.env (eval o X.env) = eval o X.env) (hline : (apos.endLine == cpos.line) = true) :
    PE X (.Call (.Attribute o "upper" apos) [] [] cpos) (tE C k (.mth .upper io .anil)) :=
  weak (pe_upper ho hbase hline) fun σ H Q ⟨ρ, F, QQ, rel, wp, fin⟩ => ⟨ρ, F, _, rel, wp, fun r ρ1 v F1 H1 p ⟨hr, x, e, hz, q⟩ => by
    have l := p.lent
    rw [e] at l
    cases l.str
    exact ⟨⟨x, rfl⟩, x, rfl, rfl, hz, fin _ _ _ _ _ (p.then (.flat p.rel .refl (.str _))) q⟩⟩
end
/-! a tuple turned about -/
section
variable {prog : Program} {w : World} {A : Around} {E : Value → Shared → Prop} {s : Shared}
theorem fm_congr {α β : Type} {f g : α → Option β} : ∀ {l : List α}, (∀ a ∈ l, f a = g a) → l.filterMap f = l.filterMap g
  | [], _ => rfl
  | a :: l, h => by rw [List.filterMap_cons, List.filterMap_cons, h a List.mem_cons_self, fm_congr fun b hb => h b (List.mem_cons_of_mem _ hb)]
theorem pick_rev (xs : Array Value) : ((List.range xs.size).filterMap fun (m : Nat) => xs[((((xs.size : Nat) : Int) - 1) + (m : Int) * (-1)).toNat]?).toArray = xs.toList.reverse.toArray := by
  have e : ∀ m ∈ List.range xs.size, (fun (m : Nat) => xs[((((xs.size : Nat) : Int) - 1) + (m : Int) * (-1)).toNat]?) m = xs[xs.size - 1 - m]? := fun m hm => by
    have := List.mem_range.mp hm
    have h : ((((xs.size : Nat) : Int) - 1) + (m : Int) * (-1)).toNat = xs.size - 1 - m := by omega
    show xs[((((xs.size : Nat) : Int) - 1) + (m : Int) * (-1)).toNat]? = _
    rw [h]
  have e2 : ((List.range xs.size).filterMap fun (m : Nat) => xs[((((xs.size : Nat) : Int) - 1) + (m : Int) * (-1)).toNat]?) = (List.range xs.size).filterMap fun m => xs[xs.size - 1 - m]? := fm_congr e
  rw [e2]
  have e3 : ((List.range xs.size).filterMap fun m => xs[xs.size - 1 - m]?) = ((List.range xs.size).map fun m => xs.size - 1 - m).filterMap (xs[·]?) := by
    rw [List.filterMap_map]; rfl
  rw [e3, PySem.W.krv_range, List.filterMap_reverse, PySem.W.krv_all]
theorem sliceApplied_rev {sl : Addr} {vl vu vs : Value} {n : Nat} {Q : Int × Int × Nat → Shared → Prop} (hs : s.heap.IsSliceOf sl vl vu vs) (pl : IsPart vl none) (pu : IsPart vu none) (ps : IsPart vs (some (-1)))
    (h : Q ((n : Int) - 1, -1, n) s) : wpAny (model prog w) A (Builtin.Slice.sliceApplied (.ref sl) (pure (n : Int))) Q E s := by
  obtain ⟨os, hos, hcs, hds⟩ := id hs
  unfold Builtin.Slice.sliceApplied Builtin.Slice.sliceFields
  refine wpAny_bind (wpAny_bind (wpAny_field hos hds (x := vl) rfl (wpAny_bind (wpAny_field hos hds (x := vu) rfl (wpAny_bind (wpAny_field hos hds (x := vs) rfl (wpAny_pure ?_)))))))
  refine wpAny_bind (HT.slicePart_ ps ?_)
  show wpAny _ _ (if ((-1 : Int) == 0) = true then _ else _) _ _ s
  rw [if_neg (by decide)]
  refine wpAny_bind (HT.slicePart_ pl (wpAny_bind (HT.slicePart_ pu (wpAny_bind (wpAny_pure ?_)))))
  show wpAny _ _ (match Builtin.Slice.sliceAdjust none none (-1) (n : Int) with | (lo, hi) => pure (lo, (-1 : Int), Builtin.Slice.slicePlaces lo hi (-1))) _ _ s
  have e1 : Builtin.Slice.sliceAdjust none none (-1) (n : Int) = ((n : Int) - 1, -1) := rfl
  rw [e1]
  show wpAny _ _ (pure ((n : Int) - 1, (-1 : Int), Builtin.Slice.slicePlaces ((n : Int) - 1) (-1) (-1))) _ _ s
  have e2 : Builtin.Slice.slicePlaces ((n : Int) - 1) (-1) (-1) = n := by
    unfold Builtin.Slice.slicePlaces
    have h1 : ¬ ((-1 : Int) > 0) := by decide
    simp only [h1, if_false]
    split
    · rw [show (- -1 : Int) = 1 by decide, Int.ediv_one]; omega
    · omega
  rw [e2]
  exact wpAny_pure h
theorem getItem_tuple_rev {t sl : Addr} {items : Array Value} {vl vu vs : Value} {Q : Value → Shared → Prop} (ht : IsTup s.heap t items) (hs : s.heap.IsSliceOf sl vl vu vs) (pl : IsPart vl none) (pu : IsPart vu none) (ps : IsPart vs (some (-1)))
    (h : Q (.ref s.heap.objs.size) { s with heap := s.heap.push { cls := .type "tuple", data := .seq items.toList.reverse.toArray } })
    (hsz : items.size ≤ sizeLine) : wpAny (model prog w) A (getItem (.ref t) (.ref sl)) Q E s := by
  have htake : sizeOk (.seq items.toList.reverse.toArray) := by
    show items.toList.reverse.toArray.size ≤ sizeLine
    rw [List.size_toArray, List.length_reverse, Array.length_toList]
    exact hsz
  obtain ⟨os, hos, hcs, hds⟩ := id hs
  have hTs : s.TypeIs (.ref sl) "slice" := ⟨os, hos, hcs⟩
  unfold getItem
  try with_reducible refine wpAny_holding ?_
  first | refine wpAny_bind (wpAny_pure ?_) | skip
  refine wpAny_bind (wpAny_sequenceKey ht.typeIs (by decide) ?_)
  refine wpAny_bind (wpAny_callSpecial?_slot (name := Str.ofString "__getitem__") ht.typeIs PyProof.Rows.slot_tuple_getitem
    (wpAny_call_entry PyProof.Rows.slot_tuple_getitem ht.typeIs PyProof.Rows.entry_tuple_getitem ?_ (PyProof.Rows.args_tuple_getitem _ _)))
  show wpAny _ _ (Builtin.Tuple.tupleItemsOf (.ref t) >>= _) _ _ s
  refine wpAny_bind (PyProof.Rows.tupleItemsOf_ ht ?_)
  refine wpAny_bind (wpAny_typeOf hTs ?_)
  rw [if_pos (by decide)]
  refine wpAny_bind (sliceApplied_rev hs pl pu ps ?_)
  have hno : ¬ ((((items.size : Int) - 1) == 0 && (-1 : Int) == 1 && items.size == items.size) = true) := by simp
  show wpAny _ _ (if (((items.size : Int) - 1) == 0 && (-1 : Int) == 1 && items.size == items.size) = true then _ else _) _ _ s
  rw [if_neg hno, pick_rev]
  first
    | exact wpAny_bind (m := Builtin.Tuple.tupleExact _) (wpAny_newObj_type (wpAny_pure ⟨_, rfl, wpAny_pure h⟩) htake)
    | exact wpAny_bind (m := Builtin.Tuple.tupleExact _) (wpAny_newObj_type (wpAny_bind (wpAny_pure (wpAny_pure ⟨_, rfl, wpAny_pure h⟩))) htake)
    | exact wpAny_bind (wpAny_bind (m := Builtin.Tuple.tupleExact _) (wpAny_newObj_type (wpAny_pure (wpAny_pure ⟨_, rfl, wpAny_pure h⟩)) htake))
    | exact wpAny_bind (wpAny_bind (m := Builtin.Tuple.tupleExact _) (wpAny_newObj_type (wpAny_pure ⟨_, rfl, wpAny_pure h⟩) htake))
end
section
variable {X : Cx} {k : RC} {C : PC} {pos : Pos}
def tRevX (K : PySem.W.Frag) (te : TE) : TE := fun σ H Q => te σ H fun x H1 => (∃ a xs, x = .ref a ∧ SqL K H1 a xs ∧ ∀ p, H1 p = none → Q (.ref p) (upd H1 p (.lst xs.reverse))) ∨ (∃ a xs, x = .ref a ∧ SqT K H1 a xs ∧ NewT xs.reverse H1 Q)
theorem pe_revX {e : Expr} {te : TE} {c : Nat} {p1 p2 p3 : Pos} (he : PE X e te) : PE X (.Subscript e (.Slice none none (some (.UnaryOp .USub (.Constant (.int 1) c p1) p2)) p3) pos) (tRevX X.K te) := by
  refine ⟨fun pins s σ H Q I h => ?_⟩
  refine Subscript_ (thn (he.run pins s σ H _ I h) fun v s1 ⟨x, H1, I1, r1, q1⟩ => ?_)
  have hst : PO X (some (.UnaryOp .USub (.Constant (.int 1) c p1) p2)) (tPart (tUn (rU fun i => .int (-i)) (tC (.int 1)))) := po_some (pe_un un_neg pe_int)
  refine wpAny_Slice (thn (po_none.run pins s1 σ H1 (fun o H2 => o = none ∧ H2 = H1) I1 ⟨rfl, rfl⟩) fun vl s2 ⟨l, H2, I2, pl, el, e2⟩ => ?_)
  subst el e2
  refine thn (po_none.run pins s2 σ H2 (fun o H3 => o = none ∧ H3 = H2) I2 ⟨rfl, rfl⟩) fun vu s3 ⟨u, H3, I3, pu, eu, e3⟩ => ?_
  subst eu e3
  refine thn (hst.run pins s3 σ H3 (fun o H4 => o = some (-1) ∧ H4 = H3) I3 ⟨1, rfl, -1, rfl, rfl, rfl⟩) fun vs s4 ⟨o, H4, I4, ps, eo, e4⟩ => ?_
  subst eo e4
  have I5 : Inv X pins σ H4 { s4 with heap := s4.heap.push { cls := .type "slice", data := .fields #[vl, vu, vs] } } := I4.kept (t' := s4.toks) fun b ob q => Heap.get?_push_of_some _ q
  rcases q1 with ⟨a, xs, ex, hx, q⟩ | ⟨a, xs, ex, hx, q⟩
  · subst ex
    cases r1
    obtain ⟨its, r, ht, hz⟩ := I5.list hx
    have hlen := r.length
    show wpAny (model X.prog X.w) X.A (subscriptTail e (.Slice none none (some (.UnaryOp .USub (.Constant (.int 1) c p1) p2)) p3) (.ref a) (.ref s4.heap.objs.size)) (EP X pins σ Q) X.xe { s4 with heap := s4.heap.push { cls := .type "slice", data := .fields #[vl, vu, vs] } }
    refine tail_any (ops := [.ref a, .ref s4.heap.objs.size]) ht.isList.typeIs (PySem.slot_list_getitem.lookup) ?_ (by with_unfolding_all rfl)
    refine wpAny_getItem_list_slice ht.isList (Heap.IsSliceOf.new _ vl vu vs) pl pu ps (by decide) ?_ (by rw [List.size_toArray]; omega)
    rw [PySem.W.krv_pick]
    refine ⟨.ref _, _, I5.laid (t' := s4.toks) (o := .lst xs.reverse) (fun b ob q => Heap.get?_push_of_some _ q) (Nat.le_refl _) ?_, rfl, q _ (I5.hok.fresh (Nat.le_refl _))⟩
    exact ⟨by rw [List.length_reverse]; exact hz, _, 0, r.reverse, Heap.get?_push_size _ rfl⟩
  · subst ex
    cases r1
    obtain ⟨its, r, ht, hz⟩ := I5.tuple hx
    have hlen := r.length
    show wpAny (model X.prog X.w) X.A (subscriptTail e (.Slice none none (some (.UnaryOp .USub (.Constant (.int 1) c p1) p2)) p3) (.ref a) (.ref s4.heap.objs.size)) (EP X pins σ Q) X.xe { s4 with heap := s4.heap.push { cls := .type "slice", data := .fields #[vl, vu, vs] } }
    refine tail_any (ops := [.ref a, .ref s4.heap.objs.size]) ht.typeIs (PyProof.Rows.slot_tuple_getitem.lookup) ?_ (by with_unfolding_all rfl)
    refine getItem_tuple_rev ht (Heap.IsSliceOf.new _ vl vu vs) pl pu ps ?_ (by rw [List.size_toArray]; omega)
    exact ⟨.ref _, _, laidT (t' := s4.toks) I5 r.reverse (by rw [List.length_reverse]; exact hz), rfl, q _ _ (I5.hok.fresh (Nat.le_refl _)) rfl⟩
theorem qe_rev(hX : XOk X k) {e : Expr} {ie : IE} {c : Nat} {p1 p2 p3 : Pos} (he : PE X e (tE C k ie)) :
    PE X (.Subscript e (.Slice none none (some (.UnaryOp .USub (.Constant (.int 1) c p1) p2)) p3) pos) (tE C k (.rev ie)) :=
  weak (pe_revX he) fun σ H Q ⟨ρ, F, QQ, rel, wp, fin⟩ => ⟨ρ, F, _, rel, wp, fun r ρ1 v F1 H1 p q => by
    have l := p.lent
    cases hd : r.toD with
    | lst xs =>
      rw [hd] at l q
      obtain ⟨a, vs, rfl, t, rs⟩ := l.lst p.rel.sub
      refine .inl ⟨a, vs, rfl, .of t, fun b hb => ?_⟩
      exact fin (.own xs.reverse) _ _ _ _ (p.then (.newL p.rel .refl hb rs.reverse)) q
    | tup xs =>
      rw [hd] at l q
      obtain ⟨a, vs, rfl, t, rs⟩ := l.tup
      have sq := (t.mono p.rel.sub).sq
      rw [hX.K] at sq
      exact .inr ⟨a, vs, rfl, sq, newT p.rel rs.reverse fun v F' H' p' => fin _ _ _ _ _ (p.then p') q⟩
    | _ => rw [hd] at q; exact q.elim⟩

theorem qs_remv {i : Nat} {eo e : Expr} {ie : IE} {apos cpos : Pos} (ho : PE X eo (tVar i)) (he : PE X e (tE C k ie)) (hsw : swapsWith (.Call (.Attribute eo "remove" apos) [e] [] cpos) none pos.line X.env = pure false)
    (hbase : attributeBase eo "remove" X.env (eval eo X.env) = eval eo X.env)
    (hfew : ((backTo cpos (starEach [e] X.env)).all (fun x => !x.1) && (backToKw cpos (keywordEach [] X.env)).all (fun x => x.1.isSome)
      && decide ([e].length + ([] : List Keyword).length + (if ([] : List Keyword).isEmpty then 0 else 1) < 30)) = true)
    (hline : (apos.endLine == cpos.line) = true) (hs : starEach [e] X.env = (false, eval e X.env) :: starEach [] X.env) :
    PS X (.Expr (.Call (.Attribute eo "remove" apos) [e] [] cpos) pos) (tS C k (.remv i ie)) :=
  weakS (ps_expr (pe_bm (id := "list.remove") F.plainAttrs_list F.slot_list_remove F.type_list_remove mt_remove ho (pa_cons he pa_nil hs) hbase hfew hline hs rfl) hsw) fun D σ H ⟨ρ, F, F0, H0, G, E, rel, tr, ⟨w0, wp⟩, en⟩ => by
    obtain ⟨a, xs0, vs0, e0, hi, hv0⟩ := own_before (ρ1 := ρ) (F1 := F) (H1 := H) rel w0
    refine ⟨_, hi, .inl ⟨rfl, vs0, .of hv0⟩, ρ, F, _, rel, wp, fun r ρ1 v F1 H1 p q => ?_⟩
    obtain ⟨xs, j, is, n, z1, q1, z2, z3, q3⟩ := q
    obtain ⟨o1, o2⟩ := own_after p.rel hi q1
    obtain ⟨vs, v1, v2, v3, v4⟩ := id o2
    have l := p.lent
    rw [z1] at l
    cases l.int
    cases ints_vs v4 z2
    obtain ⟨y1, y2⟩ := z3
    refine ⟨a, is, n, j, rfl, rfl, v1, y1, y2, ?_⟩
    rw [← erase_mapI]
    obtain ⟨x1, x2, _⟩ := write_own p.rel (tr.next p.tr) o1 o2 (v4.eraseIdx j)
    exact en.nx _ _ _ _ x1 x2 q3
end
end PL
/-! PL17: the checker: a text is what the IR says. -/
namespace PL
open PySem PySem.Spec PyProof.Rows L2

/-! ### facts about a text's parts -/
def nst : Expr → Bool
  | .Starred _ _ => false
  | _ => true
theorem star1 {e : Expr} {es : List Expr} {env : Env} (h : nst e = true) : starEach (e :: es) env = (false, eval e env) :: starEach es env := by
  cases e <;> first | rfl | cases h
theorem starA {es : List Expr} {env : Env} {pos : Pos} (h : es.all nst = true) : (backTo pos (starEach es env)).any (·.1) = false := by
  induction es with
  | nil => rfl
  | cons e es ih =>
    simp only [List.all_cons, Bool.and_eq_true] at h
    rw [star1 h.1]
    show (false || (backTo pos (starEach es env)).any (·.1)) = false
    rw [ih h.2]
    rfl
theorem fewA {es : List Expr} {env : Env} {pos : Pos} (h : es.all nst = true) (hl : es.length < 30) : ((backTo pos (starEach es env)).all (fun x => !x.1) && (backToKw pos (keywordEach [] env)).all (fun x => x.1.isSome)
    && decide (es.length + ([] : List Keyword).length + (if ([] : List Keyword).isEmpty then 0 else 1) < 30)) = true := by
  have e1 : (backTo pos (starEach es env)).all (fun x => !x.1) = true := by
    have := starA (env := env) (pos := pos) h
    generalize backTo pos (starEach es env) = l at this
    induction l with
    | nil => rfl
    | cons x l ih =>
      simp only [List.any_cons, Bool.or_eq_false_iff] at this
      simp only [List.all_cons, this.1, ih this.2]
      rfl
  rw [e1]
  have e2 : (es.length + ([] : List Keyword).length + (if ([] : List Keyword).isEmpty then 0 else 1) < 30) := by simpa using hl
  rw [decide_eq_true e2]
  rfl
def bas : Expr → Bool
  | .Call (.Name _ _) [] [] _ => false
  | _ => true
theorem base_ok {o : Expr} {a : Str} {env : Env} {w : Sem Value} (h : bas o = true) : attributeBase o a env w = w := by
  cases o with
  | Call f as kw p =>
    cases f with
    | Name x q =>
      cases as with
      | nil =>
        cases kw with
        | nil => cases h
        | cons _ _ => rfl
      | cons _ _ => rfl
    | _ => rfl
  | _ => rfl
def isComp : Expr → Bool
  | .ListComp _ _ _ _ => true
  | .SetComp _ _ _ _ => true
  | .DictComp _ _ _ _ _ => true
  | _ => false
theorem sw_no {e : Expr} {t : Option Expr} {l : Nat} {env : Env} (h : isComp e = false) : swapsWith e t l env = pure false := by
  cases e <;> first | rfl | cases h
theorem sw_other {e t : Expr} {l : Nat} {env : Env} (h : ∀ x p, t ≠ .Name x p) : swapsWith e (some t) l env = pure false := by
  cases e <;> first | rfl | (cases t <;> first | rfl | exact absurd rfl (h _ _))
def pln : Expr → Bool
  | .UnaryOp _ _ _ => false
  | .BoolOp _ _ _ => false
  | .IfExp _ _ _ _ => false
  | .Compare _ _ _ _ => false
  | _ => true
theorem isT_pln {e : Expr} {env : Env} (h : pln e = true) : ∀ whole, isTrue e env whole = (do let v ← whole; standAt e.pos; holding [v] (truthy v)) := fun w => by
  cases e <;> first | rfl | cases h
def pix : Expr → Bool
  | .Slice _ _ _ _ => false
  | _ => true
theorem pix_ok {b : Expr} (h : pix b = true) : PlainIx b := fun o i => by
  cases b <;> first | rfl | cases h
theorem asgS_ok {o i : Expr} {pos : Pos} {env : Env} (h : pix i = true) : ∀ v, assign (.Subscript o i pos) env v = (do
    let ov ← holding [v] (eval o env)
    let iv ← holding [v, ov] (eval i env)
    standAt pos
    holding [v, ov, iv] (setItem ov iv v)
    release [v, ov, iv] []) := fun v => by
  cases i <;> first | rfl | cases h
def isSet : Expr → Bool
  | .Set _ _ _ => true
  | _ => false
theorem set_ok {e : Expr} {env : Env} (h : isSet e = false) : ∀ x, foldedSetIterable e env x = pure x := fun x => by
  cases e <;> first | rfl | cases h
def isTup : Expr → Bool
  | .Tuple _ _ _ => true
  | _ => false
theorem swp_ok {es : List Expr} {k : Nat} {p : Pos} {e : Expr} {env : Env} (h : isTup e = false) : swappedStores [.Tuple es k p] e env = pure none := by
  cases e <;> first | rfl | cases h

/-! ### the checker -/
structure CK where
  N : List Str
  sc : Scope
  blk : Option Scope
  fs : List (Nat × Str)
  cs : List (Str × D)
mutual
/-- the same data, told by looking -/
def sameD : D → D → Bool
  | .int i, .int j => decide (i = j)
  | .str x, .str y => decide (x = y)
  | .bl x, .bl y => decide (x = y)
  | .non, .non => true
  | .tup xs, .tup ys => sameDs xs ys
  | _, _ => false
def sameDs : List D → List D → Bool
  | [], [] => true
  | x :: xs, y :: ys => sameD x y && sameDs xs ys
  | _, _ => false
end
mutual
theorem sameD_eq : ∀ {a b : D}, sameD a b = true → a = b
  | .int i, b, h => by cases b <;> first | (rw [of_decide_eq_true (h : decide (i = _) = true)]) | exact absurd h Bool.false_ne_true
  | .str x, b, h => by cases b <;> first | (rw [of_decide_eq_true (h : decide (x = _) = true)]) | exact absurd h Bool.false_ne_true
  | .bl x, b, h => by cases b <;> first | (rw [of_decide_eq_true (h : decide (x = _) = true)]) | exact absurd h Bool.false_ne_true
  | .non, b, h => by cases b <;> first | rfl | exact absurd h Bool.false_ne_true
  | .tup xs, b, h => by
    cases b with
    | tup ys => rw [sameDs_eq (a := xs) (b := ys) h]
    | _ => exact absurd h Bool.false_ne_true
  | .lst _, b, h => by cases b <;> exact absurd h Bool.false_ne_true
  | .dct _, b, h => by cases b <;> exact absurd h Bool.false_ne_true
  | .rng _ _, b, h => by cases b <;> exact absurd h Bool.false_ne_true
  | .pool, b, h => by cases b <;> exact absurd h Bool.false_ne_true
theorem sameDs_eq : ∀ {a b : List D}, sameDs a b = true → a = b
  | [], [], _ => rfl
  | x :: xs, y :: ys, h => by
    have h : (sameD x y && sameDs xs ys) = true := h
    simp only [Bool.and_eq_true] at h
    rw [sameD_eq h.1, sameDs_eq h.2]
  | [], _ :: _, h => absurd h Bool.false_ne_true
  | _ :: _, [], h => absurd h Bool.false_ne_true
end
def CK.lk (K : CK) (x : Str) : Option NameKind := K.sc.names.lookup x
def CK.vis (K : CK) (x : Str) : Bool := decide (K.lk x = some .local) || decide (K.lk x = some .cell) || decide (K.lk x = some .free)
def CK.loc (K : CK) (x : Str) : Bool := decide (K.lk x = some .local) || decide (K.lk x = some .cell)
def CK.fnb (K : CK) (x : Str) : Bool := match K.blk with
  | none => true
  | some s => s.names.lookup x == some .cell
def CK.sto (K : CK) (i : Nat) (x : Str) : Bool := decide (K.N[i]? = some x) && K.loc x && (K.fnb x || decide (K.lk x = some .local))
def CK.var (K : CK) (i : Nat) (x : Str) : Bool := decide (K.N[i]? = some x) && K.vis x && !(x == ("__debug__" : Str)) && !(x == ("__classdict__" : Str))
def CK.gl (K : CK) (x : Str) : Bool := decide (K.lk x = some .globalImplicit)
def CK.into (K : CK) (s : Scope) : CK := { K with sc := relS s K.sc, blk := some s }
def okCg (K : CK) (d : D) : Expr → Bool
  | .Name x _ => K.gl x && !(x == ("__debug__" : Str)) && K.cs.any fun p => decide (p.1 = x) && sameD p.2 d
  | _ => false
def okC : D → Expr → Bool
  | .int i, .Constant (.int j) _ _ => decide (i = j)
  | .str x, .Constant (.str y) _ _ => decide (x = y)
  | .bl x, .Constant (.bool y) _ _ => decide (x = y)
  | .non, .Constant .none _ _ => true
  | _, _ => false
def okG (K : CK) : Tg → Expr → Bool
  | .nm i, .Name x _ => K.sto i x
  | .tp is, .Tuple es _ _ => okN is es
  | _, _ => false
where okN : List Nat → List Expr → Bool
  | [], [] => true
  | i :: is, .Name x _ :: es => K.sto i x && okN is es
  | _, _ => false
def ownOf (N : List Str) (vs : List Nat) : List (Str × Nat) := vs.filterMap fun i => (N[i]?).map fun x => (x, i)
def okB0 (K : CK) (s : Scope) (vs : List Nat) : Bool :=
  decide (s.kind = .function) && s.names.all (fun y => decide (s.names.lookup y.1 = some y.2)) && decide ((ownOf K.N vs).map (·.2) = vs) &&
  s.names.all (fun y => !decide (y.2 = .free) || (decide (K.lk y.1 = some .cell) || decide (K.lk y.1 = some .free))) &&
  s.names.all (fun y => !(decide (y.2 = .local) || decide (y.2 = .cell)) || (decide (y.1 ∈ (ownOf K.N vs).map (·.1)) || !decide (y.1 ∈ K.N)))
def bltOf : BI → Option (Str × Bool × String)
  | .len => some ("len", false, "len")
  | .int => some ("int", true, "int")
  | .str => some ("str", true, "str")
  | .tuple => some ("tuple", true, "tuple")
  | .list => some ("list", true, "list")
  | .sorted => some ("sorted", false, "sorted")
  | .min => some ("min", false, "min")
  | .max => some ("max", false, "max")
  | .sum => some ("sum", false, "sum")
  | .any => some ("any", false, "any")
  | .all => some ("all", false, "all")
  | .abs => some ("abs", false, "abs")
  | .range => some ("range", true, "range")
  | _ => none
def tyStr : Ty → Str
  | .bool => "bool"
  | .int => "int"
  | .str => "str"
  | .tuple => "tuple"
  | .list => "list"
  | .dict => "dict"
def tpOf : IE → Bool
  | .itEnum _ => true
  | .itZip _ _ => true
  | .itZip3 _ _ _ => true
  | .itItems _ => true
  | _ => false
def tgTp : Tg → Bool
  | .tp _ => true
  | _ => false
mutual
def okE : IE → CK → Expr → Bool
  | .cst d, K, e => okC d e || okCg K d e
  | .var i, K, e => match e with
    | .Name x _ => K.var i x
    | _ => false
  | .bor i, K, e => match e with
    | .Name x _ => K.var i x
    | _ => false
  | .bin o a b, K, e => match e with
    | .BinOp ea op eb _ => decide (op = opOf o) && okE a K ea && okE b K eb
    | _ => false
  | .neg a, K, e => match e with
    | .UnaryOp .USub ea _ => okE a K ea
    | _ => false
  | .cmp c a b, K, e => match e with
    | .Compare ea [op] [eb] _ => decide (op = cmOf c) && okE a K ea && okE b K eb && !behindInMarks op eb
    | _ => false
  | .cmp2 c c' a b d, K, e => match e with
    | .Compare ea [o1, o2] [eb, ed] _ => decide (o1 = cmOf c) && decide (o2 = cmOf c') && okE a K ea && okE b K eb && okE d K ed && !behindInMarks o2 ed
    | _ => false
  | .and a b, K, e => match e with
    | .BoolOp .And (ea :: eb :: rest) pos => okE a K ea && (match rest with | [] => okE b K eb | _ => okE b K (.BoolOp .And (eb :: rest) pos))
    | _ => false
  | .or a b, K, e => match e with
    | .BoolOp .Or (ea :: eb :: rest) pos => okE a K ea && (match rest with | [] => okE b K eb | _ => okE b K (.BoolOp .Or (eb :: rest) pos))
    | _ => false
  | .not a, K, e => match e with
    | .UnaryOp .Not ea _ => okE a K ea
    | _ => false
  | .ite c a b, K, e => match e with
    | .IfExp ec ea eb _ => okT c K ec && okE a K ea && okE b K eb
    | _ => false
  | .tup as, K, e => match e with
    | .Tuple es _ _ => okA as K es
    | _ => false
  | .lst as, K, e => match e with
    | .List es _ => okA as K es
    | _ => false
  | .dnew, _, e => match e with
    | .Dict [] [] _ => true
    | _ => false
  | .idx a b, K, e => match e with
    | .Subscript ea eb _ => okE a K ea && okE b K eb && pix eb
    | _ => false
  | .slc a lo hi, K, e => match e with
    | .Subscript ea (.Slice l h none _) _ => okE a K ea && (match l with | none => isMiss lo | some el => !isMiss lo && okE lo K el) && (match h with | none => isMiss hi | some eh => !isMiss hi && okE hi K eh)
    | _ => false
  | .call f as, K, e => match e with
    | .Call (.Name x _) (e1 :: es) [] _ => decide ((f, x) ∈ K.fs) && K.gl x && !(x == ("__debug__" : Str)) && okA as K (e1 :: es)
    | _ => false
  | .blt f as, K, e => match e with
    | .Call (.Name x _) (e1 :: es) [] _ => (match bltOf f with | some (y, _, _) => decide (x = y) | none => false) && K.gl x && okA as K (e1 :: es)
    | _ => false
  | .isi a t, K, e => match e with
    | .Call (.Name x _) [ea, .Name y _] [] _ => decide (x = "isinstance") && decide (y = tyStr t) && K.gl x && K.gl y && nst ea && okE a K ea
    | _ => false
  | .mth .index a as, K, e => match e with
    | .Call (.Attribute ea n apos) (e1 :: es) [] cpos => decide (n = "index") && bas ea && okE a K ea && okA as K (e1 :: es) && decide ((e1 :: es).length < 30) && (apos.endLine == cpos.line)
    | _ => false
  | .mth .upper a as, K, e => match e with
    | .Call (.Attribute ea n apos) [] [] cpos => (match as with | .anil => true | _ => false) && decide (n = "upper") && bas ea && okE a K ea && (apos.endLine == cpos.line)
    | _ => false
  | .rev a, K, e => match e with
    | .Subscript ea (.Slice none none (some (.UnaryOp .USub (.Constant (.int 1) _ _) _)) _) _ => okE a K ea
    | _ => false
  | .comp vs tg it c el, K, e => match e with
    | .ListComp ee [⟨et, ei, ifs, 0⟩] s _ => okB0 K s vs && okI it K ei && okG (K.into s) tg et && tg.slots.all (vs.contains ·) && (!tpOf it || tgTp tg) && !isSet ei && (match ifs with | [] => (match c with | .cst (.bl true) => true | _ => false) | [ec] => okT c (K.into s) ec | _ => false) && okE el (K.into s) ee
    | _ => false
  | .comp2 vs vs1 tg it c tg1 it1 c1 el, K, e => match e with
    | .ListComp ee [⟨et, ei, ifs, 0⟩, ⟨et1, ei1, ifs1, 0⟩] s _ => (okB0 K s vs && okI it K ei && okG (K.into s) tg et && tg.slots.all (vs.contains ·) && (!tpOf it || tgTp tg) && !isSet ei && (match ifs with | [] => (match c with | .cst (.bl true) => true | _ => false) | [ec] => okT c (K.into s) ec | _ => false)) &&
      (okI it1 (K.into s) ei1 && okG (K.into s) tg1 et1 && tg1.slots.all (vs1.contains ·) && vs1.all (vs.contains ·) && (!tpOf it1 || tgTp tg1) && !isSet ei1 && (match ifs1 with | [] => (match c1 with | .cst (.bl true) => true | _ => false) | [ec] => okT c1 (K.into s) ec | _ => false)) && okE el (K.into s) ee
    | _ => false
  | .dcomp vs tg it c ik iv, K, e => match e with
    | .DictComp ek ev [⟨et, ei, ifs, 0⟩] s _ => okB0 K s vs && okI it K ei && okG (K.into s) tg et && tg.slots.all (vs.contains ·) && (!tpOf it || tgTp tg) && !isSet ei && (match ifs with | [] => (match c with | .cst (.bl true) => true | _ => false) | [ec] => okT c (K.into s) ec | _ => false) && okE ik (K.into s) ek && okE iv (K.into s) ev
    | _ => false
  | _, _, _ => false
def okT : IE → CK → Expr → Bool
  | .cmp c a b, K, e => match e with
    | .Compare ea [op] [eb] _ => decide (op = cmOf c) && okE a K ea && okE b K eb && !behindInMarks op eb
    | _ => false
  | .cmp2 c c' a b d, K, e => match e with
    | .Compare ea [o1, o2] [eb, ed] _ => decide (o1 = cmOf c) && decide (o2 = cmOf c') && okE a K ea && okE b K eb && okE d K ed && !behindInMarks o2 ed
    | _ => false
  | .and a b, K, e => match e with
    | .BoolOp .And (ea :: eb :: rest) pos => okT a K ea && (match rest with | [] => okT b K eb | _ => okT b K (.BoolOp .And (eb :: rest) pos))
    | _ => false
  | .or a b, K, e => match e with
    | .BoolOp .Or (ea :: eb :: rest) pos => okT a K ea && (match rest with | [] => okT b K eb | _ => okT b K (.BoolOp .Or (eb :: rest) pos))
    | _ => false
  | .not a, K, e => match e with
    | .UnaryOp .Not ea _ => okT a K ea
    | _ => false
  | .tst a, K, e => okE a K e && pln e
  | _, _, _ => false
def okA : IE → CK → List Expr → Bool
  | .anil, _, es => match es with
    | [] => true
    | _ => false
  | .acons a as, K, es => match es with
    | e :: es => nst e && okE a K e && okA as K es
    | [] => false
  | _, _, _ => false
def okI : IE → CK → Expr → Bool
  | .itSeq a, K, e => okE a K e
  | .itR1 a, K, e => match e with
    | .Call (.Name x _) [ea] [] _ => decide (x = "range") && K.gl x && nst ea && okE a K ea
    | _ => false
  | .itR2 a b, K, e => match e with
    | .Call (.Name x _) [ea, eb] [] _ => decide (x = "range") && K.gl x && nst ea && nst eb && okE a K ea && okE b K eb
    | _ => false
  | .itEnum a, K, e => match e with
    | .Call (.Name x _) [ea] [] _ => decide (x = "enumerate") && K.gl x && nst ea && okE a K ea
    | _ => false
  | .itZip a c, K, e => match e with
    | .Call (.Name x _) [ea, ec] [] _ => decide (x = "zip") && K.gl x && nst ea && nst ec && okE a K ea && okE c K ec
    | _ => false
  | .itZip3 a c a3, K, e => match e with
    | .Call (.Name x _) [ea, ec, e3] [] _ => decide (x = "zip") && K.gl x && nst ea && nst ec && nst e3 && okE a K ea && okE c K ec && okE a3 K e3
    | _ => false
  | .itItems a, K, e => match e with
    | .Call (.Attribute ea n apos) [] [] cpos => decide (n = "items") && bas ea && okE a K ea && (apos.endLine == cpos.line)
    | _ => false
  | _, _, _ => false
end
/-! ### the checker is right -/
structure CkOk (X : Cx) (k : RC) (C : PC) (K : CK) : Prop where
  hX : XOk X k
  N : X.N = K.N
  nd : X.N.Nodup
  sc : X.env.scope = K.sc
  fn : ∀ x, K.fnb x = true → X.fn x = true
  xe : C.xe = fun _ _ => False
  nox : PassesOwn (model X.prog X.w) X.A X.env X.xe
  kind : K.sc.kind = .function
  blt : ∀ x ∈ (["len", "int", "str", "tuple", "list", "sorted", "min", "max", "sum", "any", "all", "abs", "range", "isinstance", "bool", "dict", "zip", "enumerate"] : List Str), X.mg x = none
  cst : ∀ x d, (x, d) ∈ K.cs → ∃ v u, X.mg x = some u ∧ RelV v u ∧ ∀ F, R k F v d
  fns : ∀ f x, (f, x) ∈ K.fs → ∃ i j, C8.Cal X.prog X.w X.K X.mg X.base i x (lift X.K X.w (C.sp f)) [] ∧ Room j X.A ∧ i ≤ j
section
variable {X : Cx} {k : RC} {C : PC} {K : CK}
theorem CkOk.lk (h : CkOk X k C K) (x : Str) : X.env.scope.names.lookup x = K.lk x := by rw [h.sc]; rfl
theorem CkOk.vis (h : CkOk X k C K) {x : Str} (v : K.vis x = true) : Vis X.env.scope x := by
  unfold CK.vis at v
  simp only [Bool.or_eq_true, decide_eq_true_eq] at v
  unfold Vis
  rw [h.lk]
  rcases v with (v | v) | v
  · exact .inl v
  · exact .inr (.inl v)
  · exact .inr (.inr v)
theorem CkOk.var (h : CkOk X k C K) {i : Nat} {x : Str} {pos : Pos} (v : K.var i x = true) : PE X (.Name x pos) (tVar i) := by
  unfold CK.var at v
  simp only [Bool.and_eq_true, decide_eq_true_eq, Bool.not_eq_true'] at v
  exact pe_var (by rw [h.N]; exact v.1.1.1) (h.vis v.1.1.2) v.1.2 v.2
theorem CkOk.sto (h : CkOk X k C K) {i : Nat} {x : Str} (v : K.sto i x = true) : X.N[i]? = some x ∧ L2.Loc X.env.scope x ∧ (X.fn x = true ∨ X.env.scope.names.lookup x = some .local) := by
  unfold CK.sto CK.loc at v
  simp only [Bool.and_eq_true, decide_eq_true_eq, Bool.or_eq_true] at v
  refine ⟨by rw [h.N]; exact v.1.1, ?_, ?_⟩
  · unfold L2.Loc; rw [h.lk]; exact v.1.2
  · rw [h.lk]; exact v.2.imp (h.fn x) id
theorem CkOk.gl (h : CkOk X k C K) {x : Str} (v : K.gl x = true) : Gl X x := by
  unfold CK.gl at v
  show X.env.scope.names.lookup x = _
  rw [h.lk]
  exact of_decide_eq_true v
theorem CkOk.into (h : CkOk X k C K) (s : Scope) (hs : s.kind = .function) (sh : Shared) (H : Hp) (A : Addr) (cl : List (Str × Addr)) (fp : List Addr) : CkOk (X.blk sh H s (compEnvC s cl A X.env) fp) k C (K.into s) where
  hX := ⟨h.hX.K, h.hX.w, h.hX.calm, h.hX.room⟩
  N := h.N
  nd := h.nd
  sc := by
    show relabel s X.env = relS s K.sc
    rw [← h.sc]
    rfl
  fn := fun x v => v
  xe := h.xe
  nox := PassesOwn.never
  kind := by
    show (relS s K.sc).kind = _
    exact hs
  blt := h.blt
  cst := h.cst
  fns := h.fns
theorem okB0_ok (h : CkOk X k C K) {s : Scope} {vs : List Nat} (v : okB0 K s vs = true) : BlkOk X.N X.env.scope s (ownOf K.N vs) ∧ (ownOf K.N vs).map (·.2) = vs ∧ s.kind = .function := by
  unfold okB0 at v
  simp only [Bool.and_eq_true, decide_eq_true_eq, List.all_eq_true, Bool.or_eq_true, Bool.not_eq_true', decide_eq_false_iff_not] at v
  obtain ⟨⟨⟨⟨v1, v2⟩, v3⟩, v4⟩, v5⟩ := v
  refine ⟨⟨v1, v2, fun p hp => ?_, fun y hy e => ?_, fun y hy e => ?_⟩, v3, v1⟩
  · unfold ownOf at hp
    obtain ⟨i, _, hi⟩ := List.mem_filterMap.mp hp
    obtain ⟨x, hx, rfl⟩ := Option.map_eq_some_iff.mp hi
    rw [h.N]; exact hx
  · rw [h.lk]
    exact (v4 y hy).resolve_left fun z => z e
  · have := (v5 y hy).resolve_left fun z => by
      rcases e with e | e <;> simp [e] at z
    rw [h.N]
    exact this
theorem okG_tup {K : CK} {t : Tg} {e : Expr} (v : okG K t e = true) (h : (!true || tgTp t) = true) : ∃ es kk p, e = .Tuple es kk p := by
  cases t with
  | nm i => exact absurd h Bool.false_ne_true
  | tp is =>
    cases e with
    | Tuple es kk p => exact ⟨es, kk, p, rfl⟩
    | _ => exact absurd v Bool.false_ne_true
theorem okG_ok (h : CkOk X k C K) {t : Tg} {e : Expr} (v : okG K t e = true) : PG X e (tG k t) := by
  cases t with
  | nm i =>
    cases e with
    | Name x p => obtain ⟨a, b, c⟩ := h.sto v; exact qg_nm h.nd a b c
    | _ => exact absurd v Bool.false_ne_true
  | tp is =>
    cases e with
    | Tuple es kk p =>
      have key : ∀ (is : List Nat) (es : List Expr), okG.okN K is es = true → NmAll X es is := fun is => by
        induction is with
        | nil => intro es v; cases es with
          | nil => exact .nil
          | cons _ _ => exact absurd v Bool.false_ne_true
        | cons i is ih =>
          intro es v
          cases es with
          | nil => exact absurd v Bool.false_ne_true
          | cons e es =>
            cases e with
            | Name x p =>
              have v : (K.sto i x && okG.okN K is es) = true := v
              simp only [Bool.and_eq_true] at v
              obtain ⟨a, b, c⟩ := h.sto v.1
              exact .cons a b c (ih es v.2)
            | _ => exact absurd v Bool.false_ne_true
      exact qg_tp h.hX h.nd (key is es v)
    | _ => exact absurd v Bool.false_ne_true
theorem okC_ok {d : D} {e : Expr} (v : okC d e = true) : PE X e (tE C k (.cst d)) := by
  unfold okC at v
  split at v
  · cases of_decide_eq_true v; exact qe_c pe_int fun F => .int _
  · cases of_decide_eq_true v; exact qe_c pe_str fun F => .str _
  · cases of_decide_eq_true v; exact qe_c pe_bl fun F => .bl _
  · exact qe_c pe_non fun F => .non
  · cases v
theorem okCg_ok (h : CkOk X k C K) {d : D} {e : Expr} (v : okCg K d e = true) : PE X e (tE C k (.cst d)) := by
  cases e with
  | Name x p =>
    have v : (K.gl x && !(x == ("__debug__" : Str)) && K.cs.any fun p => decide (p.1 = x) && sameD p.2 d) = true := v
    simp only [Bool.and_eq_true, Bool.not_eq_true', List.any_eq_true, decide_eq_true_eq] at v
    obtain ⟨⟨v1, v2⟩, ⟨y, d'⟩, v3, rfl, v4⟩ := v
    cases sameD_eq v4
    obtain ⟨w, u, h1, h2, h3⟩ := h.cst _ _ v3
    exact qe_c (pe_glob (h.gl v1) h1 h2 v2) h3
  | _ => exact absurd v Bool.false_ne_true
/-! ### range(..) -/
theorem cb_range (hX : XOk X k) : CallR X (.type "range") (rBlt k (bltP .range)) := by
  intro pins s σ H xs us Q I r ⟨ρ, σ', F, ds, QQ, rel, br, wp, fin⟩
  have go : ∀ (lo hi : Int) (t u v : Tok) (tk : Nat), rngOk lo → rngOk hi → QQ (.val (.rng lo hi)) → EP X pins σ Q (.ref s.heap.objs.size) { s with heap := s.heap.push { cls := .type "range", data := .fields #[.int lo t, .int hi u, .int 1 v] }, toks := tk } := fun lo hi t u v tk h1 h2 q => by
    have hn := I.hok.fresh (Nat.le_refl s.heap.objs.size)
    refine ⟨.ref s.heap.objs.size, upd H s.heap.objs.size (.rng lo hi), I.laid (fun b o e => Heap.get?_push_of_some _ e) (Nat.le_refl _) ⟨t, u, v, Heap.get?_push_size _ rfl⟩, rfl, ?_⟩
    exact fin _ _ _ _ (.newF rel .refl hn (.rng upd_same h1 h2)) q
  match ds, br, wp with
  | [.int j], br, ⟨h, q⟩ =>
    obtain ⟨x, rfl, b⟩ := brs1 br
    cases b.int
    obtain ⟨u, rfl, t, rfl⟩ := vals1 r
    exact call_range_1 (go 0 j _ _ _ _ ⟨by omega, by omega⟩ h q)
  | [.int i, .int j], br, ⟨⟨h1, h2⟩, q⟩ =>
    obtain ⟨x, y, rfl, b, c⟩ := brs2 br
    cases b.int; cases c.int
    obtain ⟨u1, u2, rfl, ⟨t1, rfl⟩, t2, rfl⟩ := vals2 r
    exact call_range_2 (go i j _ _ _ _ h1 h2 q)
/-- a built-in called by name -/
theorem blt_ok (h : CkOk X k C K) {f : BI} {x : Str} {e : Expr} {es : List Expr} {ies : IE} {p pos : Pos} (hx : (match bltOf f with | some (y, _, _) => decide (x = y) | none => false) = true) (hg : K.gl x = true) (hn : (e :: es).all nst = true) (ha : PA X (e :: es) (tA C k true ies)) :
    PE X (.Call (.Name x p) (e :: es) [] pos) (tE C k (.blt f ies)) := by
  have hg := h.gl hg
  have h1 : ∀ {env}, starEach (e :: es) env = (false, eval e env) :: starEach es env := fun {env} => star1 (by simp only [List.all_cons, Bool.and_eq_true] at hn; exact hn.1)
  have h2 : ∀ {env pos}, (backTo pos (starEach es env)).any (·.1) = false := fun {env pos} => starA (by simp only [List.all_cons, Bool.and_eq_true] at hn; exact hn.2)
  have fB : ∀ {id : String}, CallR X (.builtin id) (rBlt k (bltP f)) → X.mg x = none → bootBuiltins x = some (.builtin id) → x ≠ "__name__" → (x == ("__debug__" : Str)) = false → PE X (.Call (.Name x p) (e :: es) [] pos) (tE C k (.blt f ies)) := fun c m b d1 d2 =>
    qe_blt (t := fun _ => tE C k .anil) (fun ta pa => pe_callB c hg m b pa d1 d2 h1 h2) ha
  have fT : ∀ {id : String}, CallR X (.type id) (rBlt k (bltP f)) → X.mg x = none → bootBuiltins x = some (.type id) → x ≠ "__name__" → (x == ("__debug__" : Str)) = false → PE X (.Call (.Name x p) (e :: es) [] pos) (tE C k (.blt f ies)) := fun c m b d1 d2 =>
    qe_blt (t := fun _ => tE C k .anil) (fun ta pa => pe_callTy c hg m b pa d1 d2 h1 h2) ha
  cases f <;> simp only [bltOf, decide_eq_true_eq, Bool.false_eq_true] at hx <;> subst hx
  · exact fB (cb_len h.hX) (h.blt _ (by decide +kernel)) boot_len (by decide +kernel) (by decide +kernel)
  · exact fT (cb_int h.hX) (h.blt _ (by decide +kernel)) (by decide +kernel) (by decide +kernel) (by decide +kernel)
  · exact fT (cb_str h.hX) (h.blt _ (by decide +kernel)) (by decide +kernel) (by decide +kernel) (by decide +kernel)
  · exact fT (cb_tuple h.hX) (h.blt _ (by decide +kernel)) (by decide +kernel) (by decide +kernel) (by decide +kernel)
  · exact fT (cb_list h.hX) (h.blt _ (by decide +kernel)) (by decide +kernel) (by decide +kernel) (by decide +kernel)
  · exact fB (cb_sorted h.hX) (h.blt _ (by decide +kernel)) (by decide +kernel) (by decide +kernel) (by decide +kernel)
  · exact fB (cb_min h.hX) (h.blt _ (by decide +kernel)) (by decide +kernel) (by decide +kernel) (by decide +kernel)
  · exact fB (cb_max h.hX) (h.blt _ (by decide +kernel)) (by decide +kernel) (by decide +kernel) (by decide +kernel)
  · exact fB (cb_sum h.hX) (h.blt _ (by decide +kernel)) (by decide +kernel) (by decide +kernel) (by decide +kernel)
  · exact fB (cb_any h.hX) (h.blt _ (by decide +kernel)) (by decide +kernel) (by decide +kernel) (by decide +kernel)
  · exact fB (cb_all h.hX) (h.blt _ (by decide +kernel)) (by decide +kernel) (by decide +kernel) (by decide +kernel)
  · exact fB (cb_abs h.hX) (h.blt _ (by decide +kernel)) (by decide +kernel) (by decide +kernel) (by decide +kernel)
  · exact fT (cb_range h.hX) (h.blt _ (by decide +kernel)) (by decide +kernel) (by decide +kernel) (by decide +kernel)
end
end PL
/-! PL18: the checker is right: expressions. -/
namespace PL
open PySem PySem.Spec PyProof.Rows L2
theorem pts_any {X : Cx} {k : RC} {C : PC} {c : IE} (h : (match c with | .cst (.bl true) => true | _ => false) = true) : PTs X [] (tT C k c) := by
  have : c = .cst (.bl true) := by
    split at h
    · rfl
    · cases h
  subst this
  exact ⟨fun pins s σ H Q I ⟨ρ, F, QQ, rel, wp, fin⟩ => pts_nil.run pins s σ H Q I (fin true ρ F H rel .refl wp)⟩
theorem nstA : ∀ {as : IE} {K : CK} {es : List Expr}, okA as K es = true → es.all nst = true
  | .anil, K, [], _ => rfl
  | .acons a as, K, e :: es, h => by
    have h : (nst e && okE a K e && okA as K es) = true := h
    simp only [Bool.and_eq_true] at h
    rw [List.all_cons, h.1.1, nstA h.2]
    rfl
  | .anil, K, _ :: _, h => absurd h Bool.false_ne_true
  | .acons _ _, K, [], h => absurd h Bool.false_ne_true
  | .cst _, _, _, h | .var _, _, _, h | .bor _, _, _, h | .bin _ _ _, _, _, h | .neg _, _, _, h | .cmp _ _ _, _, _, h | .cmp2 _ _ _ _ _, _, _, h | .tst _, _, _, h | .and _ _, _, _, h | .or _ _, _, _, h | .not _, _, _, h | .ite _ _ _, _, _, h
  | .tup _, _, _, h | .lst _, _, _, h | .dnew, _, _, h | .idx _ _, _, _, h | .slc _ _ _, _, _, h | .rev _, _, _, h | .call _ _, _, _, h | .callb _ _, _, _, h | .blt _ _, _, _, h | .isi _ _, _, _, h | .mth _ _ _, _, _, h | .itSeq _, _, _, h | .itR1 _, _, _, h
  | .itR2 _ _, _, _, h | .itEnum _, _, _, h | .itZip _ _, _, _, h | .itZip3 _ _ _, _, _, h | .itItems _, _, _, h | .comp _ _ _ _ _, _, _, h | .comp2 _ _ _ _ _ _ _ _ _, _, _, h | .mmd _ _ _, _, _, h | .dcomp _ _ _ _ _ _, _, _, h => absurd h Bool.false_ne_true
variable {k : RC} {C : PC}
mutual
theorem snd_E : ∀ (ie : IE) {X : Cx} {K : CK} {e : Expr}, CkOk X k C K → okE ie K e = true → PE X e (tE C k ie)
  | .cst d, X, K, e, h, v => by
    have v : (okC d e || okCg K d e) = true := v
    simp only [Bool.or_eq_true] at v
    exact v.elim okC_ok (okCg_ok h)
  | .var i, X, K, e, h, v => by
    cases e with
    | Name x p => exact qe_var (h.var v)
    | _ => exact absurd v Bool.false_ne_true
  | .bor i, X, K, e, h, v => by
    cases e with
    | Name x p => exact qe_bor (h.var v)
    | _ => exact absurd v Bool.false_ne_true
  | .bin o a b, X, K, e, h, v => by
    cases e with
    | BinOp ea op eb p =>
      have v : (decide (op = opOf o) && okE a K ea && okE b K eb) = true := v
      simp only [Bool.and_eq_true, decide_eq_true_eq] at v
      obtain ⟨⟨rfl, v1⟩, v2⟩ := v
      exact qe_bin h.hX (snd_E a h v1) (snd_E b h v2)
    | _ => exact absurd v Bool.false_ne_true
  | .neg a, X, K, e, h, v => by
    cases e with
    | UnaryOp op ea p =>
      cases op with
      | USub => exact qe_neg (snd_E a h v)
      | _ => exact absurd v Bool.false_ne_true
    | _ => exact absurd v Bool.false_ne_true
  | .cmp c a b, X, K, e, h, v => by
    unfold okE at v
    split at v
    · simp only [Bool.and_eq_true, decide_eq_true_eq, Bool.not_eq_true'] at v
      obtain ⟨⟨⟨rfl, v1⟩, v2⟩, v3⟩ := v
      exact qe_cmp h.hX (snd_E a h v1) (snd_E b h v2) v3
    · exact absurd v Bool.false_ne_true
  | .cmp2 c c' a b d, X, K, e, h, v => by
    unfold okE at v
    split at v
    · simp only [Bool.and_eq_true, decide_eq_true_eq, Bool.not_eq_true'] at v
      obtain ⟨⟨⟨⟨⟨rfl, rfl⟩, v1⟩, v2⟩, v3⟩, v4⟩ := v
      exact qe_cmp2 h.hX (snd_E a h v1) (snd_E b h v2) (snd_E d h v3) v4
    · exact absurd v Bool.false_ne_true
  | .and a b, X, K, e, h, v => by
    unfold okE at v
    split at v
    · rename_i ea eb rest pos
      simp only [Bool.and_eq_true] at v
      cases rest with
      | nil => exact qe_and (snd_E a h v.1) (pe_one (snd_E b h v.2))
      | cons e3 rest => exact qe_and (snd_E a h v.1) (snd_E b h v.2)
    · exact absurd v Bool.false_ne_true
  | .or a b, X, K, e, h, v => by
    unfold okE at v
    split at v
    · rename_i ea eb rest pos
      simp only [Bool.and_eq_true] at v
      cases rest with
      | nil => exact qe_or (snd_E a h v.1) (pe_one (snd_E b h v.2))
      | cons e3 rest => exact qe_or (snd_E a h v.1) (snd_E b h v.2)
    · exact absurd v Bool.false_ne_true
  | .not a, X, K, e, h, v => by
    cases e with
    | UnaryOp op ea p =>
      cases op with
      | Not => exact qe_not (snd_E a h v)
      | _ => exact absurd v Bool.false_ne_true
    | _ => exact absurd v Bool.false_ne_true
  | .ite c a b, X, K, e, h, v => by
    cases e with
    | IfExp ec ea eb p =>
      have v : (okT c K ec && okE a K ea && okE b K eb) = true := v
      simp only [Bool.and_eq_true] at v
      exact qe_ite (snd_T c h v.1.1).1 (snd_E a h v.1.2) (snd_E b h v.2)
    | _ => exact absurd v Bool.false_ne_true
  | .tup as, X, K, e, h, v => by
    cases e with
    | Tuple es kk p => exact qe_tup (snd_A as h v)
    | _ => exact absurd v Bool.false_ne_true
  | .lst as, X, K, e, h, v => by
    cases e with
    | List es p => exact qe_lst (snd_A as h v)
    | _ => exact absurd v Bool.false_ne_true
  | .dnew, X, K, e, h, v => by
    unfold okE at v
    split at v
    · exact qe_dnew
    · exact absurd v Bool.false_ne_true
  | .idx a b, X, K, e, h, v => by
    cases e with
    | Subscript ea eb p =>
      have v : (okE a K ea && okE b K eb && pix eb) = true := v
      simp only [Bool.and_eq_true] at v
      exact qe_idx h.hX (snd_E a h v.1.1) (snd_E b h v.1.2) (pix_ok v.2)
    | _ => exact absurd v Bool.false_ne_true
  | .slc a lo hi, X, K, e, h, v => by
    unfold okE at v
    split at v
    · rename_i ea l hh p2 p
      simp only [Bool.and_eq_true] at v
      obtain ⟨⟨v1, v2⟩, v3⟩ := v
      have pl : PO X l (tO C k lo) := by
        cases l with
        | none =>
          have : lo = .cst .non := by
            have v2 : isMiss lo = true := v2
            unfold isMiss at v2
            split at v2
            · rfl
            · cases v2
          subst this
          exact po_no
        | some el =>
          have v2 : (!isMiss lo && okE lo K el) = true := v2
          simp only [Bool.and_eq_true, Bool.not_eq_true'] at v2
          exact po_yes (snd_E lo h v2.2) v2.1
      have ph : PO X hh (tO C k hi) := by
        cases hh with
        | none =>
          have : hi = .cst .non := by
            have v3 : isMiss hi = true := v3
            unfold isMiss at v3
            split at v3
            · rfl
            · cases v3
          subst this
          exact po_no
        | some el =>
          have v3 : (!isMiss hi && okE hi K el) = true := v3
          simp only [Bool.and_eq_true, Bool.not_eq_true'] at v3
          exact po_yes (snd_E hi h v3.2) v3.1
      exact qe_slc h.hX (snd_E a h v1) pl ph
    · exact absurd v Bool.false_ne_true
  | .call f as, X, K, e, h, v => by
    unfold okE at v
    split at v
    · rename_i x p e1 es pos
      simp only [Bool.and_eq_true, decide_eq_true_eq, Bool.not_eq_true'] at v
      obtain ⟨⟨⟨v1, v2⟩, v3⟩, v4⟩ := v
      obtain ⟨i, j, c, hr, hij⟩ := h.fns f x v1
      have hn := nstA v4
      simp only [List.all_cons, Bool.and_eq_true] at hn
      exact qe_call h.hX c hr hij (h.gl v2) h.xe (snd_A as h v4) v3 (star1 hn.1) (starA hn.2)
    · exact absurd v Bool.false_ne_true
  | .blt f as, X, K, e, h, v => by
    unfold okE at v
    split at v
    · rename_i x p e1 es pos
      simp only [Bool.and_eq_true] at v
      exact blt_ok h v.1.1 v.1.2 (nstA v.2) (snd_A as h v.2)
    · exact absurd v Bool.false_ne_true
  | .isi a t, X, K, e, h, v => by
    unfold okE at v
    split at v
    · rename_i x p ea y p2 pos
      simp only [Bool.and_eq_true, decide_eq_true_eq] at v
      obtain ⟨⟨⟨⟨⟨rfl, rfl⟩, v3⟩, v4⟩, v5⟩, v6⟩ := v
      refine qe_isi h.hX (h.gl v3) (h.blt _ (by decide +kernel)) (h.gl v4) ?_ ?_ ?_ ?_ (snd_E a h v6) (star1 v5)
      · cases t <;> exact h.blt _ (by decide +kernel)
      · cases t <;> decide +kernel
      · cases t <;> decide +kernel
      · cases t <;> decide +kernel
    · exact absurd v Bool.false_ne_true
  | .mth m a as, X, K, e, h, v => by
    cases m with
    | index =>
      unfold okE at v
      split at v
      · rename_i ea n apos e1 es cpos
        simp only [Bool.and_eq_true, decide_eq_true_eq] at v
        obtain ⟨⟨⟨⟨⟨rfl, v2⟩, v3⟩, v4⟩, v5⟩, v6⟩ := v
        have hn := nstA v4
        have hn' := hn
        simp only [List.all_cons, Bool.and_eq_true] at hn'
        exact qe_index h.hX (snd_E a h v3) (snd_A as h v4) (base_ok v2) (fewA hn v5) v6 (star1 hn'.1) (starA hn'.2)
      · exact absurd v Bool.false_ne_true
    | upper =>
      unfold okE at v
      split at v
      · rename_i ea n apos cpos
        simp only [Bool.and_eq_true, decide_eq_true_eq] at v
        obtain ⟨⟨⟨⟨v1, rfl⟩, v2⟩, v3⟩, v4⟩ := v
        have : as = .anil := by
          split at v1
          · rfl
          · cases v1
        subst this
        exact qe_upper (snd_E a h v3) (base_ok v2) v4
      · exact absurd v Bool.false_ne_true
    | _ => exact absurd v Bool.false_ne_true
  | .rev a, X, K, e, h, v => by
    unfold okE at v
    split at v
    · exact qe_rev h.hX (snd_E a h v)
    · exact absurd v Bool.false_ne_true
  | .comp vs tg it c el, X, K, e, h, v => by
    unfold okE at v
    split at v
    · rename_i ee et ei ifs s pos
      simp only [Bool.and_eq_true, Bool.not_eq_true', List.all_eq_true] at v
      obtain ⟨⟨⟨⟨⟨⟨⟨v1, v2⟩, v3⟩, v4⟩, v5⟩, v6⟩, v7⟩, v8⟩ := v
      obtain ⟨b1, b2, b3⟩ := okB0_ok h v1
      have hin := fun sh H A cl fp => h.into s b3 sh H A cl fp
      have pts : ∀ (sh : Shared) (H : Hp) (A : Addr) (cl : List (Str × Addr)) (fp : List Addr), PTs (X.blk sh H s (compEnvC s cl A X.env) fp) ifs (tT C k c) := fun sh H A cl fp => by
        cases ifs with
        | nil => exact pts_any v7
        | cons ec r =>
          cases r with
          | nil => exact pts_one (snd_T c (hin sh H A cl fp) v7).1
          | cons _ _ => exact absurd v7 Bool.false_ne_true
      have := pe_lc (pos := pos) h.hX.calm h.nd (snd_I it (b := true) (tp := tpOf it) (tg := et) h rfl (fun z => okG_tup v3 (by rw [z] at v5; exact v5)) v2) b1 (fun sh H A cl fp => okG_ok (hin sh H A cl fp) v3)
        pts
        (fun sh H A cl fp => snd_E el (hin sh H A cl fp) v8) (set_ok v6)
      rw [b2] at this
      exact weak this fun σ H Q q => lc_sem (fun z => by
        rw [z] at v5
        cases tg with
        | nm i => exact absurd v5 Bool.false_ne_true
        | tp is => exact ⟨is, rfl⟩) (fun i hi => by simpa using v4 i hi) q
    · exact absurd v Bool.false_ne_true
  | .comp2 vs vs1 tg it c tg1 it1 c1 el, X, K, e, h, v => by
    unfold okE at v
    split at v
    · rename_i ee et ei ifs et1 ei1 ifs1 s pos
      simp only [Bool.and_eq_true, Bool.not_eq_true', List.all_eq_true] at v
      obtain ⟨⟨⟨⟨⟨⟨⟨⟨v1, v2⟩, v3⟩, v4⟩, v5⟩, v6⟩, v7⟩, ⟨⟨⟨⟨⟨⟨u2, u3⟩, u4⟩, u9⟩, u5⟩, u6⟩, u7⟩⟩, v8⟩ := v
      obtain ⟨b1, b2, b3⟩ := okB0_ok h v1
      have hin := fun sh H A cl fp => h.into s b3 sh H A cl fp
      have pts : ∀ {ifs : List Expr} {c : IE} (_ : (match ifs with | [] => (match c with | .cst (.bl true) => true | _ => false) | [ec] => okT c (K.into s) ec | _ => false) = true) (sn : ∀ (ec : Expr) (sh : Shared) (H : Hp) (A : Addr) (cl : List (Str × Addr)) (fp : List Addr), okT c (K.into s) ec = true → PT (X.blk sh H s (compEnvC s cl A X.env) fp) ec (tT C k c)), ∀ (sh : Shared) (H : Hp) (A : Addr) (cl : List (Str × Addr)) (fp : List Addr), PTs (X.blk sh H s (compEnvC s cl A X.env) fp) ifs (tT C k c) := fun {ifs c} v7 sn sh H A cl fp => by
        cases ifs with
        | nil => exact pts_any v7
        | cons ec r =>
          cases r with
          | nil => exact pts_one (sn ec sh H A cl fp v7)
          | cons _ _ => exact absurd v7 Bool.false_ne_true
      have := pe_lc2 (pos := pos) (vs1 := vs1) h.hX.calm h.nd (snd_I it (b := true) (tp := tpOf it) (tg := et) h rfl (fun z => okG_tup v3 (by rw [z] at v5; exact v5)) v2) b1 (fun i hi => by rw [b2]; simpa using u9 i hi) (fun sh H A cl fp => okG_ok (hin sh H A cl fp) v3)
        (pts v7 fun ec sh H A cl fp v => (snd_T c (hin sh H A cl fp) v).1)
        (fun sh H A cl fp => snd_I it1 (b := false) (tp := tpOf it1) (tg := et1) (hin sh H A cl fp) rfl (fun z => okG_tup u3 (by rw [z] at u5; exact u5)) u2)
        (fun sh H A cl fp => okG_ok (hin sh H A cl fp) u3)
        (pts u7 fun ec sh H A cl fp v => (snd_T c1 (hin sh H A cl fp) v).1)
        (fun sh H A cl fp => snd_E el (hin sh H A cl fp) v8) (set_ok v6) (fun _ => set_ok u6)
      rw [b2] at this
      exact weak this fun σ H Q q => lc2_sem (fun z => by
        rw [z] at v5
        cases tg with
        | nm i => exact absurd v5 Bool.false_ne_true
        | tp is => exact ⟨is, rfl⟩) (fun i hi => by simpa using v4 i hi) (fun z => by
        rw [z] at u5
        cases tg1 with
        | nm i => exact absurd u5 Bool.false_ne_true
        | tp is => exact ⟨is, rfl⟩) (fun i hi => by simpa using u4 i hi) (fun i hi => by simpa using u9 i hi) q
    · exact absurd v Bool.false_ne_true
  | .dcomp vs tg it c ik iv, X, K, e, h, v => by
    unfold okE at v
    split at v
    · rename_i ek ev et ei ifs s pos
      simp only [Bool.and_eq_true, Bool.not_eq_true', List.all_eq_true] at v
      obtain ⟨⟨⟨⟨⟨⟨⟨⟨v1, v2⟩, v3⟩, v4⟩, v5⟩, v6⟩, v7⟩, v8⟩, v9⟩ := v
      obtain ⟨b1, b2, b3⟩ := okB0_ok h v1
      have hin := fun sh H A cl fp => h.into s b3 sh H A cl fp
      have pts : ∀ (sh : Shared) (H : Hp) (A : Addr) (cl : List (Str × Addr)) (fp : List Addr), PTs (X.blk sh H s (compEnvC s cl A X.env) fp) ifs (tT C k c) := fun sh H A cl fp => by
        cases ifs with
        | nil => exact pts_any v7
        | cons ec r =>
          cases r with
          | nil => exact pts_one (snd_T c (hin sh H A cl fp) v7).1
          | cons _ _ => exact absurd v7 Bool.false_ne_true
      have := pe_dx (pos := pos) h.hX h.nd (snd_I it (b := true) (tp := tpOf it) (tg := et) h rfl (fun z => okG_tup v3 (by rw [z] at v5; exact v5)) v2) b1 (fun sh H A cl fp => okG_ok (hin sh H A cl fp) v3)
        pts
        (fun sh H A cl fp => snd_E ik (hin sh H A cl fp) v8) (fun sh H A cl fp => snd_E iv (hin sh H A cl fp) v9) (set_ok v6)
      rw [b2] at this
      exact weak this fun σ H Q q => dx_sem (fun z => by
        rw [z] at v5
        cases tg with
        | nm i => exact absurd v5 Bool.false_ne_true
        | tp is => exact ⟨is, rfl⟩) (fun i hi => by simpa using v4 i hi) q
    · exact absurd v Bool.false_ne_true
  | .tst _, _, _, _, _, v | .anil, _, _, _, _, v | .acons _ _, _, _, _, _, v | .callb _ _, _, _, _, _, v | .itSeq _, _, _, _, _, v | .itR1 _, _, _, _, _, v | .itR2 _ _, _, _, _, _, v | .itEnum _, _, _, _, _, v | .itZip _ _, _, _, _, _, v
  | .itZip3 _ _ _, _, _, _, _, v | .itItems _, _, _, _, _, v | .mmd _ _ _, _, _, _, _, v => absurd v Bool.false_ne_true
theorem snd_T : ∀ (ie : IE) {X : Cx} {K : CK} {e : Expr}, CkOk X k C K → okT ie K e = true → PT X e (tT C k ie) ∧ ∀ op l p, e = .BoolOp op l p → PW X e (tT C k ie)
  | .cmp c a b, X, K, e, h, v => by
    unfold okT at v
    split at v
    · simp only [Bool.and_eq_true, decide_eq_true_eq, Bool.not_eq_true'] at v
      obtain ⟨⟨⟨rfl, v1⟩, v2⟩, v3⟩ := v
      exact ⟨qt_cmp h.hX (snd_E a h v1) (snd_E b h v2) v3, fun _ _ _ z => by cases z⟩
    · exact absurd v Bool.false_ne_true
  | .cmp2 c c' a b d, X, K, e, h, v => by
    unfold okT at v
    split at v
    · simp only [Bool.and_eq_true, decide_eq_true_eq, Bool.not_eq_true'] at v
      obtain ⟨⟨⟨⟨⟨rfl, rfl⟩, v1⟩, v2⟩, v3⟩, v4⟩ := v
      exact ⟨qt_cmp2 h.hX (snd_E a h v1) (snd_E b h v2) (snd_E d h v3) v4, fun _ _ _ z => by cases z⟩
    · exact absurd v Bool.false_ne_true
  | .and a b, X, K, e, h, v => by
    unfold okT at v
    split at v
    · rename_i ea eb rest pos
      simp only [Bool.and_eq_true] at v
      have w : PW X (.BoolOp .And (ea :: eb :: rest) pos) (tT C k (.and a b)) := by
        cases rest with
        | nil => exact qt_and (snd_T a h v.1).1 (pw_and1 (snd_T b h v.2).1)
        | cons e3 rest => exact qt_and (snd_T a h v.1).1 ((snd_T b h v.2).2 _ _ _ rfl)
      exact ⟨w.pt, fun _ _ _ _ => w⟩
    · exact absurd v Bool.false_ne_true
  | .or a b, X, K, e, h, v => by
    unfold okT at v
    split at v
    · rename_i ea eb rest pos
      simp only [Bool.and_eq_true] at v
      have w : PW X (.BoolOp .Or (ea :: eb :: rest) pos) (tT C k (.or a b)) := by
        cases rest with
        | nil => exact qt_or (snd_T a h v.1).1 (pw_or1 (snd_T b h v.2).1)
        | cons e3 rest => exact qt_or (snd_T a h v.1).1 ((snd_T b h v.2).2 _ _ _ rfl)
      exact ⟨w.pt, fun _ _ _ _ => w⟩
    · exact absurd v Bool.false_ne_true
  | .not a, X, K, e, h, v => by
    cases e with
    | UnaryOp op ea p =>
      cases op with
      | Not => exact ⟨qt_not (snd_T a h v).1, fun _ _ _ z => by cases z⟩
      | _ => exact absurd v Bool.false_ne_true
    | _ => exact absurd v Bool.false_ne_true
  | .tst a, X, K, e, h, v => by
    have v : (okE a K e && pln e) = true := v
    simp only [Bool.and_eq_true] at v
    exact ⟨qt_tst h.hX (snd_E a h v.1) (isT_pln v.2), fun _ _ _ z => by subst z; exact absurd v.2 Bool.false_ne_true⟩
  | .cst _, _, _, _, _, v | .var _, _, _, _, _, v | .bor _, _, _, _, _, v | .bin _ _ _, _, _, _, _, v | .neg _, _, _, _, _, v | .ite _ _ _, _, _, _, _, v | .tup _, _, _, _, _, v | .lst _, _, _, _, _, v | .dnew, _, _, _, _, v | .idx _ _, _, _, _, _, v | .slc _ _ _, _, _, _, _, v
  | .call _ _, _, _, _, _, v | .blt _ _, _, _, _, _, v | .isi _ _, _, _, _, _, v | .mth _ _ _, _, _, _, _, v | .comp _ _ _ _ _, _, _, _, _, v | .dcomp _ _ _ _ _ _, _, _, _, _, v
  | .anil, _, _, _, _, v | .acons _ _, _, _, _, _, v | .rev _, _, _, _, _, v | .callb _ _, _, _, _, _, v | .itSeq _, _, _, _, _, v | .itR1 _, _, _, _, _, v | .itR2 _ _, _, _, _, _, v | .itEnum _, _, _, _, _, v | .itZip _ _, _, _, _, _, v
  | .itZip3 _ _ _, _, _, _, _, v | .itItems _, _, _, _, _, v | .comp2 _ _ _ _ _ _ _ _ _, _, _, _, _, v | .mmd _ _ _, _, _, _, _, v => absurd v Bool.false_ne_true
theorem snd_A : ∀ (ie : IE) {b : Bool} {X : Cx} {K : CK} {es : List Expr}, CkOk X k C K → okA ie K es = true → PA X es (tA C k b ie)
  | .anil, b, X, K, es, h, v => by
    cases es with
    | nil => exact qa_nil
    | cons _ _ => exact absurd v Bool.false_ne_true
  | .acons a as, b, X, K, es, h, v => by
    cases es with
    | nil => exact absurd v Bool.false_ne_true
    | cons e es =>
      have v : (nst e && okE a K e && okA as K es) = true := v
      simp only [Bool.and_eq_true] at v
      exact qa_cons (snd_E a h v.1.2) (snd_A as h v.2) (star1 v.1.1)
  | .tst _, _, _, _, _, _, v | .cmp _ _ _, _, _, _, _, _, v | .cmp2 _ _ _ _ _, _, _, _, _, _, v | .and _ _, _, _, _, _, _, v | .or _ _, _, _, _, _, _, v | .not _, _, _, _, _, _, v
  | .cst _, _, _, _, _, _, v | .var _, _, _, _, _, _, v | .bor _, _, _, _, _, _, v | .bin _ _ _, _, _, _, _, _, v | .neg _, _, _, _, _, _, v | .ite _ _ _, _, _, _, _, _, v | .tup _, _, _, _, _, _, v | .lst _, _, _, _, _, _, v | .dnew, _, _, _, _, _, v | .idx _ _, _, _, _, _, _, v | .slc _ _ _, _, _, _, _, _, v
  | .call _ _, _, _, _, _, _, v | .blt _ _, _, _, _, _, _, v | .isi _ _, _, _, _, _, _, v | .mth _ _ _, _, _, _, _, _, v | .comp _ _ _ _ _, _, _, _, _, _, v | .dcomp _ _ _ _ _ _, _, _, _, _, _, v
  | .rev _, _, _, _, _, _, v | .callb _ _, _, _, _, _, _, v | .itSeq _, _, _, _, _, _, v | .itR1 _, _, _, _, _, _, v | .itR2 _ _, _, _, _, _, _, v | .itEnum _, _, _, _, _, _, v | .itZip _ _, _, _, _, _, _, v
  | .itZip3 _ _ _, _, _, _, _, _, v | .itItems _, _, _, _, _, _, v | .comp2 _ _ _ _ _ _ _ _ _, _, _, _, _, _, v | .mmd _ _ _, _, _, _, _, _, v => absurd v Bool.false_ne_true
theorem snd_I : ∀ (ie : IE) {b tp : Bool} {tg : Expr} {X : Cx} {K : CK} {e : Expr}, CkOk X k C K → tp = tpOf ie → (tpOf ie = true → ∃ es kk p, tg = .Tuple es kk p) → okI ie K e = true → PI X tg e (tI C k b tp ie)
  | .itSeq a, b, tp, tg, X, K, e, h, ht, htg, v => by
    subst ht
    exact qi_seq h.hX (snd_E a h v)
  | .itR1 a, b, tp, tg, X, K, e, h, ht, htg, v => by
    subst ht
    unfold okI at v
    split at v
    · rename_i x p ea pos
      simp only [Bool.and_eq_true, decide_eq_true_eq] at v
      obtain ⟨⟨⟨rfl, v2⟩, v3⟩, v4⟩ := v
      exact qi_rng1 (h.gl v2) (h.blt _ (by decide +kernel)) (snd_E a h v4) (star1 v3) (star1 v3)
    · exact absurd v Bool.false_ne_true
  | .itR2 a c, b, tp, tg, X, K, e, h, ht, htg, v => by
    subst ht
    unfold okI at v
    split at v
    · rename_i x p ea eb pos
      simp only [Bool.and_eq_true, decide_eq_true_eq] at v
      obtain ⟨⟨⟨⟨⟨rfl, v2⟩, v3⟩, v4⟩, v5⟩, v6⟩ := v
      exact qi_rng2 (h.gl v2) (h.blt _ (by decide +kernel)) (snd_E a h v5) (snd_E c h v6) (star1 v3) (star1 v4) (by rw [star1 v3, star1 v4]; rfl) (star1 v4)
    · exact absurd v Bool.false_ne_true
  | .itEnum a, b, tp, tg, X, K, e, h, ht, htg, v => by
    subst ht
    obtain ⟨es, kk, tp', rfl⟩ := htg rfl
    unfold okI at v
    split at v
    · rename_i x p ea pos
      simp only [Bool.and_eq_true, decide_eq_true_eq] at v
      obtain ⟨⟨⟨rfl, v2⟩, v3⟩, v4⟩ := v
      exact qi_enum h.hX (h.gl v2) (h.blt _ (by decide +kernel)) (qa_cons (snd_E a h v4) qa_nil (star1 v3)) (star1 v3)
    · exact absurd v Bool.false_ne_true
  | .itZip a c, b, tp, tg, X, K, e, h, ht, htg, v => by
    subst ht
    obtain ⟨es, kk, tp', rfl⟩ := htg rfl
    unfold okI at v
    split at v
    · rename_i x p ea ec pos
      simp only [Bool.and_eq_true, decide_eq_true_eq] at v
      obtain ⟨⟨⟨⟨⟨rfl, v2⟩, v3⟩, v4⟩, v5⟩, v6⟩ := v
      exact qi_zip2 h.hX (h.gl v2) (h.blt _ (by decide +kernel)) (qa_cons (snd_E a h v5) (qa_cons (snd_E c h v6) qa_nil (star1 v4)) (star1 v3)) (star1 v3) (by rw [star1 v4]; rfl)
    · exact absurd v Bool.false_ne_true
  | .itZip3 a c a3, b, tp, tg, X, K, e, h, ht, htg, v => by
    subst ht
    obtain ⟨es, kk, tp', rfl⟩ := htg rfl
    unfold okI at v
    split at v
    · rename_i x p ea ec e3 pos
      simp only [Bool.and_eq_true, decide_eq_true_eq] at v
      obtain ⟨⟨⟨⟨⟨⟨⟨rfl, v2⟩, v3⟩, v4⟩, v5⟩, v6⟩, v7⟩, v8⟩ := v
      exact qi_zip3 h.hX (h.gl v2) (h.blt _ (by decide +kernel)) (qa_cons (snd_E a h v6) (qa_cons (snd_E c h v7) (qa_cons (snd_E a3 h v8) qa_nil (star1 v5)) (star1 v4)) (star1 v3)) (star1 v3) (by rw [star1 v4, star1 v5]; rfl)
    · exact absurd v Bool.false_ne_true
  | .itItems a, b, tp, tg, X, K, e, h, ht, htg, v => by
    subst ht
    obtain ⟨es, kk, tp', rfl⟩ := htg rfl
    unfold okI at v
    split at v
    · rename_i ea n apos cpos
      simp only [Bool.and_eq_true, decide_eq_true_eq] at v
      obtain ⟨⟨⟨rfl, v2⟩, v3⟩, v4⟩ := v
      exact qi_items h.hX (snd_E a h v3) (base_ok v2) v4
    · exact absurd v Bool.false_ne_true
  | .tst _, _, _, _, _, _, _, _, _, _, v | .cmp _ _ _, _, _, _, _, _, _, _, _, _, v | .cmp2 _ _ _ _ _, _, _, _, _, _, _, _, _, _, v | .and _ _, _, _, _, _, _, _, _, _, _, v | .or _ _, _, _, _, _, _, _, _, _, _, v | .not _, _, _, _, _, _, _, _, _, _, v | .cst _, _, _, _, _, _, _, _, _, _, v | .var _, _, _, _, _, _, _, _, _, _, v | .bor _, _, _, _, _, _, _, _, _, _, v | .bin _ _ _, _, _, _, _, _, _, _, _, _, v | .neg _, _, _, _, _, _, _, _, _, _, v | .ite _ _ _, _, _, _, _, _, _, _, _, _, v | .tup _, _, _, _, _, _, _, _, _, _, v | .lst _, _, _, _, _, _, _, _, _, _, v | .dnew, _, _, _, _, _, _, _, _, _, v | .idx _ _, _, _, _, _, _, _, _, _, _, v | .slc _ _ _, _, _, _, _, _, _, _, _, _, v | .call _ _, _, _, _, _, _, _, _, _, _, v | .blt _ _, _, _, _, _, _, _, _, _, _, v | .isi _ _, _, _, _, _, _, _, _, _, _, v | .mth _ _ _, _, _, _, _, _, _, _, _, _, v | .comp _ _ _ _ _, _, _, _, _, _, _, _, _, _, v | .dcomp _ _ _ _ _ _, _, _, _, _, _, _, _, _, _, v | .anil, _, _, _, _, _, _, _, _, _, v | .acons _ _, _, _, _, _, _, _, _, _, _, v | .rev _, _, _, _, _, _, _, _, _, _, v | .callb _ _, _, _, _, _, _, _, _, _, _, v | .comp2 _ _ _ _ _ _ _ _ _, _, _, _, _, _, _, _, _, _, v | .mmd _ _ _, _, _, _, _, _, _, _, _, _, v => absurd v Bool.false_ne_true
end
end PL
/-! PL19: the checker of statements; defs. -/
namespace PL
open PySem PySem.Spec PyProof.Rows L2
section
variable {X : Cx} {k : RC} {C : PC} {pos : Pos}
theorem set_core {i : Nat} {ie : IE} {D : Ends} {σ : L2.St} {H : Hp} (h : tS C k (.asg (.nm i) ie) D σ H) : tE C k ie σ H (fun x H1 => gName i x σ H1 D.nx) := by
  obtain ⟨ρ, F, F0, H0, G, E, rel, tr, wp, en⟩ := h
  exact ⟨ρ, F, _, rel, wp, fun r ρ' v F' H' p q => by
    obtain ⟨s, q1, q2, q3⟩ := p.slot rel q
    obtain ⟨x1, x2⟩ := p.store (i := i) rel tr q2 q3
    exact en.nx _ _ _ _ x1 x2 q1⟩
/-- name = {k: v for ..} on one line, the name a local -/
theorem ps_setDx (hX : XOk X k) {i : Nat} {y : Str} {py : Pos} {kx vx tg iter : Expr} {ifs : List Expr} {scope : Scope} {own : List (Str × Nat)} {pos spos : Pos} {wi : TI} {g : TG} {tt : TT} {tk tv : TE} (hN : X.N.Nodup) (hy : X.N[i]? = some y) (hyl : X.env.scope.names.lookup y = some .local)
    (hsw : swapsWith (.DictComp kx vx [⟨tg, iter, ifs, 0⟩] scope pos) (some (.Name y py)) spos.line X.env = pure true) (hi : PI X tg iter wi) (ok : BlkOk X.N X.env.scope scope own)
    (hg : ∀ (s : Shared) (H : Hp) (C : Addr) (cl : List (Str × Addr)) (fp : List Addr), PG (X.blk s H scope (compEnvC scope cl C X.env) fp) tg g)
    (ht : ∀ (s : Shared) (H : Hp) (C : Addr) (cl : List (Str × Addr)) (fp : List Addr), PTs (X.blk s H scope (compEnvC scope cl C X.env) fp) ifs tt)
    (hk : ∀ (s : Shared) (H : Hp) (C : Addr) (cl : List (Str × Addr)) (fp : List Addr), PE (X.blk s H scope (compEnvC scope cl C X.env) fp) kx tk)
    (he : ∀ (s : Shared) (H : Hp) (C : Addr) (cl : List (Str × Addr)) (fp : List Addr), PE (X.blk s H scope (compEnvC scope cl C X.env) fp) vx tv) (hs : ∀ x, foldedSetIterable iter X.env x = pure x) :
    PS X (.Assign [.Name y py] (.DictComp kx vx [⟨tg, iter, ifs, 0⟩] scope pos) spos) (tAsg (tDx k wi g tt tk tv (own.map (·.2))) (gName i)) := by
  refine ⟨fun pins s σ H D I h => ?_⟩
  rw [exec_Assign_Name_used _ _ _ _ hsw]
  refine wpAny_bind (wpAny_standAt (wpAny_bind ?_))
  show wpAny _ X.A (do let _ ← comprehension (.DictComp kx vx [⟨tg, iter, ifs, 0⟩] scope pos) scope X.env (firstIterPos [⟨tg, iter, ifs, 0⟩] pos) newDict false (eval iter X.env) (some (assign (.Name y py) X.env))) _ _ s
  have h : tDx k wi g tt tk tv (own.map (·.2)) σ H (fun x H1 => gName i x σ H1 D.nx) := h
  refine wpAny_bind (thn (dx_core hX (Qf := fun _ s' => SP X pins D .next s') hN I hi ok hg ht hk he hs h fun L C s' m H' I' q hn f => ?_) fun _ s' hq => wpAny_pure (wpAny_pure hq))
  show wpAny _ _ (assign (.Name y py) X.env (.ref L)) _ _ _
  refine wpAny_assign_Name (store_ok2 (v := V.ref L) I' hN hy (.inl hyl) rfl (fun s2 I2 ⟨a, sb, ha⟩ => ?_) (.inr hyl))
  obtain ⟨f0, f1, f2, f3, f4, f5⟩ := f
  have haC : C ≠ a := by
    rcases ha with z | z
    · rw [z]; exact f1
    · exact fun e => f4 y a z e.symm
  refine ⟨m, hn.sameBut sb haC, fun h3 sb3 => ?_⟩
  exact ⟨_, H', I2.turned (t' := s2.toks) (fun b o hb e => (sb3.2 b hb).trans e) f0 f1 f3 f4 f5, q⟩
theorem sw_trueD {kx vx : Expr} {gs : List Comprehension} {scope : Scope} {pos py : Pos} {y : Str} {l : Nat} {env : Env} (hk : env.scope.kind = .function) (hy : env.scope.names.lookup y = some .local) (hl : (py.line == pos.line) = true)
    (ha : (scope.names.any fun (n, k) => n == y && (k == .local || k == .cell)) = false) : swapsWith (.DictComp kx vx gs scope pos) (some (.Name y py)) l env = pure true := by
  have ky : env.kindOf y = some .local := hy
  have hb : env.blockKind = .function := by unfold Env.blockKind; rw [hk]; rfl
  unfold swapsWith
  simp only [hb, ky, ha, Expr.pos, hl]
  rfl
end
theorem sw_cellL {elt : Expr} {gs : List Comprehension} {scope : Scope} {pos py : Pos} {y : Str} {l : Nat} {env : Env} (hy : env.scope.names.lookup y = some .cell) : swapsWith (.ListComp elt gs scope pos) (some (.Name y py)) l env = pure false := by
  have ky : env.kindOf y = some .cell := hy
  unfold swapsWith
  simp only [ky]
  have : (some NameKind.cell == some NameKind.local) = false := by decide
  rw [this, Bool.and_false]; rfl
theorem sw_cellD {kx vx : Expr} {gs : List Comprehension} {scope : Scope} {pos py : Pos} {y : Str} {l : Nat} {env : Env} (hy : env.scope.names.lookup y = some .cell) : swapsWith (.DictComp kx vx gs scope pos) (some (.Name y py)) l env = pure false := by
  have ky : env.kindOf y = some .cell := hy
  unfold swapsWith
  simp only [ky]
  have : (some NameKind.cell == some NameKind.local) = false := by decide
  rw [this, Bool.and_false]; rfl
/-- where a comprehension's value is stored by its own block -/
def swB (K : CK) (y : Str) (py : Pos) (s : Scope) (cp : Pos) : Bool := decide (K.lk y = some .local) && (py.line == cp.line) && !(s.names.any fun (n, k) => n == y && (k == .local || k == .cell))
/-- a, b = x, y with local names -/
def parO (K : CK) (is : List Nat) (es : List Expr) (ev : Expr) (e : IE) : Bool := match is, es, ev, e with
  | [i, j], [.Name x px, .Name y py], .Tuple [a, b] _ _, .tup _ => !(i == j) && !decide (x = y) && decide (K.lk x = some .local) && decide (K.lk y = some .local) && (py.line == px.line) && parC a b
  | _, _, _, _ => false
mutual
def okS : IS → CK → Stmt → Bool
  | .skip, _, st => match st with
    | .Pass _ => true
    | .Expr (.Constant (.str _) _ _) _ => true
    | _ => false
  | .asg (.nm i) e, K, st => match st with
    | .Assign [.Name x px] (.ListComp a b s cp) _ => K.sto i x && okE e K (.ListComp a b s cp) && (swB K x px s cp || decide (K.lk x = some .cell))
    | .Assign [.Name x px] (.DictComp a a' b s cp) _ => K.sto i x && okE e K (.DictComp a a' b s cp) && (swB K x px s cp || decide (K.lk x = some .cell))
    | .Assign [.Name x _] ev _ => K.sto i x && okE e K ev && !isComp ev
    | _ => false
  | .asg (.tp is) e, K, st => match st with
    | .Assign [.Tuple es kk tp] ev _ => okG K (.tp is) (.Tuple es kk tp) && okE e K ev && (!isTup ev || parO K is es ev e)
    | _ => false
  | .asgS i ik e, K, st => match st with
    | .Assign [.Subscript (.Name x _) ek _] ev _ => K.var i x && okE ik K ek && okE e K ev && pix ek
    | _ => false
  | .aug i e, K, st => match st with
    | .AugAssign (.Name x _) .Add ev _ => K.sto i x && okE e K ev
    | _ => false
  | .app i e, K, st => match st with
    | .Expr (.Call (.Attribute (.Name x _) n apos) [ev] [] cpos) _ => decide (n = "append") && K.var i x && okE e K ev && nst ev && (apos.endLine == cpos.line)
    | _ => false
  | .remv i e, K, st => match st with
    | .Expr (.Call (.Attribute (.Name x _) n apos) [ev] [] cpos) _ => decide (n = "remove") && K.var i x && okE e K ev && nst ev && (apos.endLine == cpos.line)
    | _ => false
  | .popT j i e, K, st => match st with
    | .Assign [.Name x _] (.BinOp (.Name x2 _) .Add (.Tuple [.Call (.Attribute (.Name y _) n apos) [ev] [] cpos] _ _) _) _ => decide (n = "pop") && K.sto j x && K.var j x2 && K.var i y && okE e K ev && nst ev && (apos.endLine == cpos.line)
    | _ => false
  | .ifs c a b, K, st => match st with
    | .If ec ba bb _ => okT c K ec && okB a K ba && okB b K bb
    | _ => false
  | .fr tg it b, K, st => match st with
    | .For et ei eb [] _ => okG K tg et && okI it K ei && (!tpOf it || tgTp tg) && !isSet ei && okB b K eb
    | _ => false
  | .whl c b, K, st => match st with
    | .While ec eb [] _ => okT c K ec && okB b K eb
    | _ => false
  | .ret e, K, st => match st with
    | .Return (some ev) _ => okE e K ev
    | _ => false
  | .ret0, _, st => match st with
    | .Return none _ => true
    | _ => false
  | .reto i, K, st => match st with
    | .Return (some (.Name x _)) _ => K.var i x
    | _ => false
  | .brk, _, st => match st with
    | .Break _ => true
    | _ => false
  | .cnt, _, st => match st with
    | .Continue _ => true
    | _ => false
  | .ex e, K, st => match st with
    | .Expr ev _ => okE e K ev && !isComp ev
    | _ => false
  | _, _, _ => false
def okB : IS → CK → List Stmt → Bool
  | .skip, _, sts => match sts with
    | [] => true
    | _ => false
  | .seq a b, K, sts => match sts with
    | st :: rest => okS a K st && okB b K rest
    | [] => false
  | _, _, _ => false
end
section
variable {k : RC} {C : PC}
theorem set_lc {X : Cx} {K : CK} {pos : Pos} {i : Nat} {x : Str} {px cp : Pos} {s : Scope} {a : Expr} {b : List Comprehension} {e : IE} (h : CkOk X k C K) (v1 : K.sto i x = true) (v2 : okE e K (.ListComp a b s cp) = true) (v3 : swB K x px s cp = true) : PS X (.Assign [.Name x px] (.ListComp a b s cp) pos) (tS C k (.asg (.nm i) e)) := by
  unfold swB at v3
  simp only [Bool.and_eq_true, decide_eq_true_eq, Bool.not_eq_true'] at v3
  obtain ⟨⟨w1, w2⟩, w3⟩ := v3
  have hyl : X.env.scope.names.lookup x = some .local := by rw [h.lk]; exact w1
  cases e with
  | comp vs tg it c el =>
    unfold okE at v2
    split at v2
    · rename_i hh
      cases hh
      rename_i et ei ifs
      simp only [Bool.and_eq_true, Bool.not_eq_true', List.all_eq_true] at v2
      obtain ⟨⟨⟨⟨⟨⟨⟨u1, u2⟩, u3⟩, u4⟩, u5⟩, u6⟩, u7⟩, u8⟩ := v2
      obtain ⟨b1, b2, b3⟩ := okB0_ok h u1
      have hin := fun sh H A cl fp => h.into s b3 sh H A cl fp
      have pts : ∀ (sh : Shared) (H : Hp) (A : Addr) (cl : List (Str × Addr)) (fp : List Addr), PTs (X.blk sh H s (compEnvC s cl A X.env) fp) ifs (tT C k c) := fun sh H A cl fp => by
        cases ifs with
        | nil => exact pts_any u7
        | cons ec r =>
          cases r with
          | nil => exact pts_one (snd_T c (hin sh H A cl fp) u7).1
          | cons _ _ => exact absurd u7 Bool.false_ne_true
      have := ps_setLc (pos := cp) (spos := pos) (py := px) h.hX.calm h.nd (h.sto v1).1 hyl (sw_true (by rw [h.sc]; exact h.kind) hyl w2 w3) (snd_I it (b := true) (tp := tpOf it) (tg := et) h rfl (fun z => okG_tup u3 (by rw [z] at u5; exact u5)) u2) b1 (fun sh H A cl fp => okG_ok (hin sh H A cl fp) u3) pts
        (fun sh H A cl fp => snd_E el (hin sh H A cl fp) u8) (set_ok u6)
      rw [b2] at this
      exact weakS this fun D σ H q => lc_sem (fun z => by
        rw [z] at u5
        cases tg with
        | nm i => exact absurd u5 Bool.false_ne_true
        | tp is => exact ⟨is, rfl⟩) (fun i hi => by simpa using u4 i hi) (set_core q)
    · cases v2
  | comp2 vs vs1 tg it c tg1 it1 c1 el =>
    unfold okE at v2
    split at v2
    · rename_i hh
      cases hh
      rename_i et ei ifs et1 ei1 ifs1
      simp only [Bool.and_eq_true, Bool.not_eq_true', List.all_eq_true] at v2
      obtain ⟨⟨⟨⟨⟨⟨⟨⟨z1, v2⟩, v3⟩, v4⟩, v5⟩, v6⟩, v7⟩, ⟨⟨⟨⟨⟨⟨u2, u3⟩, u4⟩, u9⟩, u5⟩, u6⟩, u7⟩⟩, v8⟩ := v2
      obtain ⟨b1, b2, b3⟩ := okB0_ok h z1
      have hin := fun sh H A cl fp => h.into s b3 sh H A cl fp
      have pts : ∀ {ifs : List Expr} {c : IE} (_ : (match ifs with | [] => (match c with | .cst (.bl true) => true | _ => false) | [ec] => okT c (K.into s) ec | _ => false) = true) (sn : ∀ (ec : Expr) (sh : Shared) (H : Hp) (A : Addr) (cl : List (Str × Addr)) (fp : List Addr), okT c (K.into s) ec = true → PT (X.blk sh H s (compEnvC s cl A X.env) fp) ec (tT C k c)), ∀ (sh : Shared) (H : Hp) (A : Addr) (cl : List (Str × Addr)) (fp : List Addr), PTs (X.blk sh H s (compEnvC s cl A X.env) fp) ifs (tT C k c) := fun {ifs c} v7 sn sh H A cl fp => by
        cases ifs with
        | nil => exact pts_any v7
        | cons ec r =>
          cases r with
          | nil => exact pts_one (sn ec sh H A cl fp v7)
          | cons _ _ => exact absurd v7 Bool.false_ne_true
      have := ps_setLc2 (pos := cp) (spos := pos) (py := px) (vs1 := vs1) h.hX.calm h.nd (h.sto v1).1 hyl (sw_true (by rw [h.sc]; exact h.kind) hyl w2 w3) (snd_I it (b := true) (tp := tpOf it) (tg := et) h rfl (fun z => okG_tup v3 (by rw [z] at v5; exact v5)) v2) b1 (fun i hi => by rw [b2]; simpa using u9 i hi) (fun sh H A cl fp => okG_ok (hin sh H A cl fp) v3)
        (pts v7 fun ec sh H A cl fp v => (snd_T c (hin sh H A cl fp) v).1)
        (fun sh H A cl fp => snd_I it1 (b := false) (tp := tpOf it1) (tg := et1) (hin sh H A cl fp) rfl (fun z => okG_tup u3 (by rw [z] at u5; exact u5)) u2)
        (fun sh H A cl fp => okG_ok (hin sh H A cl fp) u3)
        (pts u7 fun ec sh H A cl fp v => (snd_T c1 (hin sh H A cl fp) v).1)
        (fun sh H A cl fp => snd_E el (hin sh H A cl fp) v8) (set_ok v6) (fun _ => set_ok u6)
      rw [b2] at this
      exact weakS this fun D σ H q => lc2_sem (fun z => by
        rw [z] at v5
        cases tg with
        | nm i => exact absurd v5 Bool.false_ne_true
        | tp is => exact ⟨is, rfl⟩) (fun i hi => by simpa using v4 i hi) (fun z => by
        rw [z] at u5
        cases tg1 with
        | nm i => exact absurd u5 Bool.false_ne_true
        | tp is => exact ⟨is, rfl⟩) (fun i hi => by simpa using u4 i hi) (fun i hi => by simpa using u9 i hi) (set_core q)
    · cases v2
  | _ => first | exact absurd v2 Bool.false_ne_true | (rename_i m _ _; cases m <;> exact absurd v2 Bool.false_ne_true) | (rename_i d; cases d <;> exact absurd v2 Bool.false_ne_true)
theorem set_dx {X : Cx} {K : CK} {pos : Pos} {i : Nat} {x : Str} {px cp : Pos} {s : Scope} {a a' : Expr} {b : List Comprehension} {e : IE} (h : CkOk X k C K) (v1 : K.sto i x = true) (v2 : okE e K (.DictComp a a' b s cp) = true) (v3 : swB K x px s cp = true) : PS X (.Assign [.Name x px] (.DictComp a a' b s cp) pos) (tS C k (.asg (.nm i) e)) := by
  unfold swB at v3
  simp only [Bool.and_eq_true, decide_eq_true_eq, Bool.not_eq_true'] at v3
  obtain ⟨⟨w1, w2⟩, w3⟩ := v3
  have hyl : X.env.scope.names.lookup x = some .local := by rw [h.lk]; exact w1
  cases e with
  | dcomp vs tg it c ik iv =>
    unfold okE at v2
    split at v2
    · rename_i hh
      cases hh
      rename_i et ei ifs
      simp only [Bool.and_eq_true, Bool.not_eq_true', List.all_eq_true] at v2
      obtain ⟨⟨⟨⟨⟨⟨⟨⟨u1, u2⟩, u3⟩, u4⟩, u5⟩, u6⟩, u7⟩, u8⟩, u9⟩ := v2
      obtain ⟨b1, b2, b3⟩ := okB0_ok h u1
      have hin := fun sh H A cl fp => h.into s b3 sh H A cl fp
      have pts : ∀ (sh : Shared) (H : Hp) (A : Addr) (cl : List (Str × Addr)) (fp : List Addr), PTs (X.blk sh H s (compEnvC s cl A X.env) fp) ifs (tT C k c) := fun sh H A cl fp => by
        cases ifs with
        | nil => exact pts_any u7
        | cons ec r =>
          cases r with
          | nil => exact pts_one (snd_T c (hin sh H A cl fp) u7).1
          | cons _ _ => exact absurd u7 Bool.false_ne_true
      have := ps_setDx (pos := cp) (spos := pos) (py := px) h.hX h.nd (h.sto v1).1 hyl (sw_trueD (by rw [h.sc]; exact h.kind) hyl w2 w3) (snd_I it (b := true) (tp := tpOf it) (tg := et) h rfl (fun z => okG_tup u3 (by rw [z] at u5; exact u5)) u2) b1 (fun sh H A cl fp => okG_ok (hin sh H A cl fp) u3) pts
        (fun sh H A cl fp => snd_E ik (hin sh H A cl fp) u8) (fun sh H A cl fp => snd_E iv (hin sh H A cl fp) u9) (set_ok u6)
      rw [b2] at this
      exact weakS this fun D σ H q => dx_sem (fun z => by
        rw [z] at u5
        cases tg with
        | nm i => exact absurd u5 Bool.false_ne_true
        | tp is => exact ⟨is, rfl⟩) (fun i hi => by simpa using u4 i hi) (set_core q)
    · cases v2
  | _ => first | exact absurd v2 Bool.false_ne_true | (rename_i m _ _; cases m <;> exact absurd v2 Bool.false_ne_true) | (rename_i d; cases d <;> exact absurd v2 Bool.false_ne_true)
theorem sws_other {e t : Expr} {l : Nat} {env : Env} (h : ∀ x p, t ≠ .Name x p) : swapsWithSole [t] e l env = pure false := by
  show swapsWith e (some t) l env = pure false
  exact sw_other h
mutual
theorem snd_S : ∀ (is : IS) {X : Cx} {K : CK} {st : Stmt}, CkOk X k C K → okS is K st = true → PS X st (tS C k is)
  | .skip, X, K, st, h, v => by
    unfold okS at v
    split at v
    · exact qs_pass
    · exact qs_doc
    · cases v
  | .asg (.nm i) e, X, K, st, h, v => by
    unfold okS at v
    split at v
    · simp only [Bool.and_eq_true, Bool.or_eq_true, decide_eq_true_eq] at v
      rcases v.2 with z | z
      · exact set_lc h v.1.1 v.1.2 z
      · obtain ⟨a, b, c⟩ := h.sto v.1.1
        exact qs_set h.nd a b (snd_E e h v.1.2) (sw_cellL (by rw [h.lk]; exact z)) c
    · simp only [Bool.and_eq_true, Bool.or_eq_true, decide_eq_true_eq] at v
      rcases v.2 with z | z
      · exact set_dx h v.1.1 v.1.2 z
      · obtain ⟨a, b, c⟩ := h.sto v.1.1
        exact qs_set h.nd a b (snd_E e h v.1.2) (sw_cellD (by rw [h.lk]; exact z)) c
    · simp only [Bool.and_eq_true, Bool.not_eq_true'] at v
      obtain ⟨a, b, c⟩ := h.sto v.1.1
      exact qs_set h.nd a b (snd_E e h v.1.2) (sw_no v.2) c
    · cases v
  | .asg (.tp is) e, X, K, st, h, v => by
    unfold okS at v
    split at v
    · simp only [Bool.and_eq_true, Bool.not_eq_true'] at v
      obtain ⟨v1, v2⟩ := v
      cases hp : isTup _ with
      | false => exact qs_tup h.hX (snd_E e h v1.2) (okG_ok h v1.1) (sws_other fun x p z => Expr.noConfusion z) (swp_ok hp) rfl
      | true =>
        rw [hp] at v2
        have v2 : parO K is _ _ e = true := v2
        unfold parO at v2
        split at v2
        · rename_i i j x px y py a b k2 pt2 ias _
          simp only [Bool.and_eq_true, Bool.not_eq_true', decide_eq_true_eq, decide_eq_false_iff_not] at v2
          obtain ⟨⟨⟨⟨⟨n1, n2⟩, n3⟩, n4⟩, n5⟩, n6⟩ := v2
          have g : okG.okN K [i, j] [.Name x px, .Name y py] = true := v1.1
          have g : (K.sto i x && (K.sto j y && true)) = true := g
          simp only [Bool.and_eq_true] at g
          have hx : X.env.scope.names.lookup x = some .local := by rw [h.lk]; exact n3
          have hy : X.env.scope.names.lookup y = some .local := by rw [h.lk]; exact n4
          have hk : X.env.scope.kind = .function := by rw [h.sc]; exact h.kind
          have hb : X.env.blockKind = .function := by unfold Env.blockKind; rw [hk]; rfl
          exact qs_par h.hX h.nd (h.sto g.1).1 (h.sto g.2.1).1 (fun z => by subst z; simp at n1) hx hy (snd_A ias h v1.2) (swp_pair hb hx hy n5 n2 n6) rfl
        · cases v2
    · cases v
  | .asgS i ik e, X, K, st, h, v => by
    unfold okS at v
    split at v
    · simp only [Bool.and_eq_true] at v
      exact qs_asgS h.hX (h.var v.1.1.1) (snd_E ik h v.1.1.2) (snd_E e h v.1.2) (asgS_ok v.2) (sws_other fun x p z => Expr.noConfusion z) rfl rfl
    · cases v
  | .aug i e, X, K, st, h, v => by
    unfold okS at v
    split at v
    · simp only [Bool.and_eq_true] at v
      obtain ⟨a, b, c⟩ := h.sto v.1
      exact qs_aug h.nd a b (snd_E e h v.2) c
    · cases v
  | .app i e, X, K, st, h, v => by
    unfold okS at v
    split at v
    · simp only [Bool.and_eq_true, decide_eq_true_eq] at v
      obtain ⟨⟨⟨⟨rfl, v2⟩, v3⟩, v4⟩, v5⟩ := v
      exact qs_app (h.var v2) (snd_E e h v3) rfl rfl (fewA (by rw [List.all_cons, v4]; rfl) (show 1 < 30 by decide)) v5 (star1 v4)
    · cases v
  | .remv i e, X, K, st, h, v => by
    unfold okS at v
    split at v
    · simp only [Bool.and_eq_true, decide_eq_true_eq] at v
      obtain ⟨⟨⟨⟨rfl, v2⟩, v3⟩, v4⟩, v5⟩ := v
      exact qs_remv (h.var v2) (snd_E e h v3) rfl rfl (fewA (by rw [List.all_cons, v4]; rfl) (show 1 < 30 by decide)) v5 (star1 v4)
    · cases v
  | .popT j i e, X, K, st, h, v => by
    unfold okS at v
    split at v
    · simp only [Bool.and_eq_true, decide_eq_true_eq] at v
      obtain ⟨⟨⟨⟨⟨⟨rfl, v2⟩, v3⟩, v4⟩, v5⟩, v6⟩, v7⟩ := v
      obtain ⟨a, b, c⟩ := h.sto v2
      exact qs_popT h.hX h.nd a b c (h.var v3) (h.var v4) (snd_E e h v5) rfl rfl (fewA (by rw [List.all_cons, v6]; rfl) (show 1 < 30 by decide)) v7 (star1 v6) rfl
    · cases v
  | .ifs c a b, X, K, st, h, v => by
    unfold okS at v
    split at v
    · simp only [Bool.and_eq_true] at v
      exact qs_if (snd_T c h v.1.1).1 (snd_B a h v.1.2) (snd_B b h v.2)
    · cases v
  | .fr tg it b, X, K, st, h, v => by
    unfold okS at v
    split at v
    · simp only [Bool.and_eq_true, Bool.not_eq_true'] at v
      obtain ⟨⟨⟨⟨v1, v2⟩, v3⟩, v4⟩, v5⟩ := v
      exact qs_for h.hX (tp := tpOf it) h.nox (snd_I it h rfl (fun z => okG_tup v1 (by rw [z] at v3; exact v3)) v2) (okG_ok h v1) (fun z => by
        rw [z] at v3
        cases tg with
        | nm i => exact absurd v3 Bool.false_ne_true
        | tp is => exact ⟨is, rfl⟩) (snd_B b h v5) (set_ok v4)
    · cases v
  | .whl c b, X, K, st, h, v => by
    unfold okS at v
    split at v
    · simp only [Bool.and_eq_true] at v
      exact qs_whl h.nox (snd_T c h v.1).1 (snd_B b h v.2)
    · cases v
  | .ret e, X, K, st, h, v => by
    unfold okS at v
    split at v
    · exact qs_ret (snd_E e h v)
    · cases v
  | .ret0, X, K, st, h, v => by
    unfold okS at v
    split at v
    · exact qs_ret0
    · cases v
  | .reto i, X, K, st, h, v => by
    unfold okS at v
    split at v
    · exact qs_reto (h.var v)
    · cases v
  | .brk, X, K, st, h, v => by
    unfold okS at v
    split at v
    · exact qs_brk
    · cases v
  | .cnt, X, K, st, h, v => by
    unfold okS at v
    split at v
    · exact qs_cnt
    · cases v
  | .ex e, X, K, st, h, v => by
    unfold okS at v
    split at v
    · simp only [Bool.and_eq_true, Bool.not_eq_true'] at v
      exact qs_ex (snd_E e h v.1) (sw_no v.2)
    · cases v
  | .seq _ _, _, _, _, _, v | .ext _ _, _, _, _, _, v | .pop0 _ _, _, _, _, _, v | .pop1 _ _ _, _, _, _, _, v | .sdef _ _ _, _, _, _, _, v | .frl _ _ _, _, _, _, _, v | .rais _, _, _, _, _, v => absurd v Bool.false_ne_true
theorem snd_B : ∀ (is : IS) {X : Cx} {K : CK} {sts : List Stmt}, CkOk X k C K → okB is K sts = true → PSs X sts (tS C k is)
  | .skip, X, K, sts, h, v => by
    cases sts with
    | nil => exact qss_nil
    | cons _ _ => exact absurd v Bool.false_ne_true
  | .seq a b, X, K, sts, h, v => by
    cases sts with
    | nil => exact absurd v Bool.false_ne_true
    | cons st rest =>
      have v : (okS a K st && okB b K rest) = true := v
      simp only [Bool.and_eq_true] at v
      exact qss_cons (snd_S a h v.1) (snd_B b h v.2)
  | .asg _ _, _, _, _, _, v | .asgS _ _ _, _, _, _, _, v | .aug _ _, _, _, _, _, v | .app _ _, _, _, _, _, v | .popT _ _ _, _, _, _, _, v | .ifs _ _ _, _, _, _, _, v | .fr _ _ _, _, _, _, _, v | .whl _ _, _, _, _, _, v | .ret _, _, _, _, _, v | .ret0, _, _, _, _, v
  | .reto _, _, _, _, _, v | .brk, _, _, _, _, v | .cnt, _, _, _, _, v | .ex _, _, _, _, _, v | .ext _ _, _, _, _, _, v | .remv _ _, _, _, _, _, v | .pop0 _ _, _, _, _, _, v | .pop1 _ _ _, _, _, _, _, v | .sdef _ _ _, _, _, _, _, v | .frl _ _ _, _, _, _, _, v
  | .rais _, _, _, _, _, v => absurd v Bool.false_ne_true
end
end

/-! ### a def keeps its promise -/
section
variable {P : Program} {w : World} {K : PySem.W.Frag} {mg : Str → Option Value} {base : Heap}
/-- the built-ins' names stand for themselves -/
def BltOk (mg : Str → Option Value) : Prop := ∀ x ∈ (["len", "int", "str", "tuple", "list", "sorted", "min", "max", "sum", "any", "all", "abs", "range", "isinstance", "bool", "dict", "zip", "enumerate"] : List Str), mg x = none
/-- the constants of the text -/
def CsOk (K : PySem.W.Frag) (mg : Str → Option Value) (cs : List (Str × D)) : Prop := ∀ x d, (x, d) ∈ cs → ∃ v u, mg x = some u ∧ RelV v u ∧ ∀ (k : RC) (F : Hp), k.K = K → R k F v d
/-- what the defs with these numbers and names promise -/
def FnsOk (P : Program) (w : World) (K : PySem.W.Frag) (mg : Str → Option Value) (base : Heap) (j : Nat) (fs : List (Nat × Str)) (sp : Nat → Spec) : Prop :=
  ∀ f x, (f, x) ∈ fs → ∃ i, i ≤ j ∧ C8.Cal P w K mg base i x (lift K w (sp f)) []
theorem start_get {N : List Str} {vs : List V} {i : Nat} : (L2.start N vs)[i]? = if i < vs.length then (vs[i]?).map some else if i < N.length then some none else none := by
  unfold L2.start
  by_cases h : i < vs.length
  · rw [if_pos h, List.getElem?_append_left (by simpa using h), List.getElem?_map]
  · rw [if_neg h, List.getElem?_append_right (by simpa using h), List.getElem?_replicate]
    simp only [List.length_map]
    by_cases h2 : i < N.length
    · rw [if_pos h2, if_pos (by omega)]
    · rw [if_neg h2, if_neg (by omega)]
/-- the slots at a def's entry -/
theorem rel_start {k : RC} {N : List Str} {vs : List V} {ds : List D} {dr : Nat} {F H : Hp} (hl : ds.length ≤ N.length) (sub : Same F H) (pool : PoolOk k F H dr) (r : Rs k F vs ds) :
    Rel k ⟨ds.map SV.val ++ List.replicate (N.length - ds.length) SV.no, dr⟩ (L2.start N vs) F H ∧ ∀ i a, ¬ OwnAt ⟨ds.map SV.val ++ List.replicate (N.length - ds.length) SV.no, dr⟩ (L2.start N vs) i a := by
  have len := r.length
  have gt : ∀ i, PEnv.get ⟨ds.map SV.val ++ List.replicate (N.length - ds.length) SV.no, dr⟩ i = match ds[i]? with | some d => .val d | none => .no := fun i => by
    unfold PEnv.get
    rw [List.getD_eq_getElem?_getD]
    by_cases h : i < ds.length
    · rw [List.getElem?_append_left (by simpa using h), List.getElem?_map, List.getElem?_eq_getElem h]; rfl
    · rw [List.getElem?_append_right (by simpa using h), List.getElem?_replicate, List.getElem?_eq_none (by omega)]
      split <;> rfl
  have no : ∀ i a, ¬ OwnAt ⟨ds.map SV.val ++ List.replicate (N.length - ds.length) SV.no, dr⟩ (L2.start N vs) i a := fun i a ⟨h, _⟩ => by
    rw [gt] at h
    cases e : ds[i]? <;> rw [e] at h <;> cases h
  refine ⟨⟨?_, sub, fun i => ?_, fun i j a x => absurd x (no i a), pool⟩, no⟩
  · unfold L2.start
    simp only [List.length_append, List.length_map, List.length_replicate]
    omega
  · rw [gt]
    cases e : ds[i]? with
    | none => trivial
    | some d =>
      obtain ⟨v, h1, h2⟩ := r.get e
      refine ⟨v, ?_, h2⟩
      rw [start_get, if_pos (List.getElem?_eq_some_iff.mp h1).1, h1]
      rfl
theorem def_ok {x : Str} {st : Stmt} {f : Addr} {fd : FuncData} {N ps : List Str} {j : Nat} {fs : List (Nat × Str)} {cs : List (Str × D)} {sps : Nat → Spec} {sp : Spec} {body : IS} (F : C8.Def K mg x st f fd) (b : Binds K fd ps []) (S : FnScope N ps (C8.fnScope st)) (hp : ps.length ≤ N.length)
    (hb : BltOk mg) (hcs : CsOk K mg cs) (hf : FnsOk P w K mg base j fs sps) (ck : okB body ⟨N, C8.fnScope st, none, fs, cs⟩ (C8.fnBody st) = true) (len : ∀ ds dr Q xe, sp ds dr Q xe → ds.length = ps.length)
    (hw : ∀ ds dr Q, sp ds dr Q (fun _ _ => False) → wpF ⟨sps, fun _ _ => False⟩ N.length body ds dr Q) : C8.Cal P w K mg base (j + 1) x (lift K w sp) [] := by
  refine C8.cal0 F b .nil S (fun vs H Q E ⟨P', F', ds, dr, QQ, _, _, rs, hs, _⟩ => by rw [rs.length]; exact len _ _ _ _ hs) fun cdv A outer s H vs Q E hr ⟨P', F', ds, dr, QQ, sub, pool, rs, hs, fin⟩ => ?_
  refine ⟨tS ⟨sps, fun _ _ => False⟩ ⟨K, w, P'⟩ body, snd_B body (K := ⟨N, C8.fnScope st, none, fs, cs⟩) ?_ ck, ?_⟩
  · exact ⟨⟨rfl, rfl, rfl, hr.mono (Nat.zero_le _)⟩, rfl, S.nd, rfl, fun _ _ => rfl, rfl, PassesOwn.never, S.kind, hb, fun x d h => let ⟨v, u, h1, h2, h3⟩ := hcs x d h; ⟨v, u, h1, h2, fun F => h3 _ F rfl⟩, fun f x h => let ⟨i, hi, c⟩ := hf f x h; ⟨i, j, c, hr, hi⟩⟩
  · have hl := len _ _ _ _ hs
    obtain ⟨rel, no⟩ := rel_start (N := N) (by omega) sub pool rs
    refine ⟨_, F', F', H, F', _, rel, ⟨fun _ _ h => h, .refl, fun _ h => h, fun _ _ => rfl, fun i a z => absurd z (no i a), fun _ _ h => h⟩, hw ds dr QQ hs, ?_⟩
    refine ⟨fun ρ σ F1 H1 r t q => ?_, fun ρ σ F1 H1 r t q => q.elim, fun ρ σ F1 H1 r t q => q.elim, fun r dr' v F1 H1 cp q => fin r dr' v F1 H1 cp q⟩
    exact fin (.val .non) _ _ _ _ (t.post r.sub r.pool (show R _ F1 .non .non from .non)) q
end
end PL
/-! PL20: the law's pool of draws. -/
namespace PL
open PySem PySem.Spec PyProof.Rows L2
section
variable {P : Program} {w : World} {K : PySem.W.Frag} {mg : Str → Option Value} {base : Heap}
/-- the context at a def's entry, as the checker knows it -/
theorem ck_entry {x : Str} {st : Stmt} {f : Addr} {N ps : List Str} {j : Nat} {fs : List (Nat × Str)} {cs : List (Str × D)} {sps : Nat → Spec} {cdv : Value} {A : Around} {outer : List Env} {s : Shared} {H : Hp} {E : XK} {P' : Option (Addr × Addr × Addr)} (S : FnScope N ps (C8.fnScope st)) (hb : BltOk mg) (hcs : CsOk K mg cs)
    (hf : FnsOk P w K mg base j fs sps) (hr : Room j (A.deeper (envOfC x (C8.fnScope st) s.heap.objs.size f cdv))) :
    CkOk (cxOf C8.CX0 P w K mg base N x (C8.fnScope st) f cdv A outer s H E).nox ⟨K, w, P'⟩ ⟨sps, fun _ _ => False⟩ ⟨N, C8.fnScope st, none, fs, cs⟩ :=
  ⟨⟨rfl, rfl, rfl, hr.mono (Nat.zero_le _)⟩, rfl, S.nd, rfl, fun _ _ => rfl, rfl, PassesOwn.never, S.kind, hb, fun x d h => let ⟨v, u, h1, h2, h3⟩ := hcs x d h; ⟨v, u, h1, h2, fun F => h3 _ F rfl⟩, fun f x h => let ⟨i, hi, c⟩ := hf f x h; ⟨i, j, c, hr, hi⟩⟩
/-! ### _law_cell -/
def spCell (K : PySem.W.Frag) : Sp := fun vs H Q _ => ∃ a ns n, vs = [.ref a, .int (n : Nat)] ∧ SqL K H a (List.map V.int ns) ∧ ∀ i, Q (.int i) H
theorem cell_ok {st : Stmt} {f : Addr} {fd : FuncData} {p1 p2 p3 p4 p5 p6 p7 p8 p9 p10 p11 p12 : Pos} {c1 j : Nat} (F : C8.Def K mg "_law_cell" st f fd) (b : Binds K fd ["script", "k"] []) (S : FnScope ["script", "k"] ["script", "k"] (C8.fnScope st)) (hb : BltOk mg)
    (ck : ((⟨["script", "k"], C8.fnScope st, none, [], []⟩ : CK).var 0 "script" && (⟨["script", "k"], C8.fnScope st, none, [], []⟩ : CK).var 1 "k" && (⟨["script", "k"], C8.fnScope st, none, [], []⟩ : CK).gl "len") = true)
    (hbody : C8.fnBody st = [.If (.Compare (.Name "k" p1) [.Lt] [.Call (.Name "len" p2) [.Name "script" p3] [] p4] p5) [.Return (some (.Subscript (.Name "script" p6) (.Name "k" p7) p8)) p9] [] p10, .Return (some (.Constant (.int 0) c1 p11)) p12]) :
    C8.Cal P w K mg base (j + 1) "_law_cell" (spCell K) [] := by
  refine C8.cal0 F b .nil S (fun vs H Q E ⟨a, ns, n, e, _⟩ => by rw [e]; rfl) fun cdv A outer s H vs Q E hr ⟨a, ns, n, e, hq, fin⟩ => ?_
  simp only [Bool.and_eq_true] at ck
  have h := ck_entry (P := P) (K := K) (w := w) (base := base) (x := "_law_cell") (cs := []) (fs := []) (sps := fun _ _ _ _ _ => False) (P' := none) S hb (fun x d h => by simp at h) (fun f x h => by simp at h) (outer := outer) (H := H) (E := E) hr
  have v0 : ∀ p, PE _ (.Name "script" p) (tVar 0) := fun p => h.var ck.1.1
  have v1 : ∀ p, PE _ (.Name "k" p) (tVar 1) := fun p => h.var ck.1.2
  rw [hbody]
  refine ⟨_, pss_cons (ps_if (pt_cmp (pc_lt (v1 p1) (pe_callB (id := "len") call_len (h.gl ck.2) (hb _ (by decide +kernel)) boot_len (pa_cons (v0 p3) pa_nil)))) (pss_one (ps_ret (pe_ix ix_list (v0 p6) (v1 p7) (pix_ok rfl)))) pss_nil) (pss_one (ps_ret pe_int)), ?_⟩
  subst e
  refine ⟨.int n, rfl, .ref a, rfl, .ref a, ns.length, rfl, .inl ⟨_, hq, by simp⟩, n, ns.length, rfl, rfl, _, rfl, ?_⟩
  show (if decide ((n : Int) < (ns.length : Nat)) = true then _ else _)
  by_cases hlt : (n : Int) < (ns.length : Nat)
  · rw [if_pos (decide_eq_true hlt)]
    have hlt' : n < ns.length := by omega
    refine ⟨.ref a, rfl, .int n, rfl, a, _, n, .int ns[n], rfl, rfl, hq, atI_nat (by simp [hlt']), fin _⟩
  · rw [if_neg (by rw [decide_eq_false hlt]; exact Bool.false_ne_true)]
    exact fin 0
/-! ### _law_draw -/
def sp_draw : Spec := fun ds dr Q _ => ∃ m : Int, ds = [.pool, .int m] ∧ 0 < m ∧ dr < 2 ^ 40 ∧ ∀ v : Int, 0 ≤ v → v < m → Q (.val (.int v)) (dr + 1)
theorem draw_ok {st : Stmt} {f : Addr} {fd : FuncData} {p1 p2 p3 p4 p5 p6 p7 p8 p9 p10 p11 p12 p13 p14 p15 p16 p17 p18 p19 p20 p21 p22 p23 p24 p25 p26 p27 p28 p29 p30 p31 p32 p33 p34 p35 p36 p37 p38 p39 p40 p41 p42 p43 p44 p45 p46 p47 p48 p49 p50 p1' : Pos} {c1 c2 c3 c4 c5 c6 c7 c8 c9 c10 j : Nat}
    (F : C8.Def K mg "_law_draw" st f fd) (b : Binds K fd ["pool", "many"] []) (S : FnScope ["pool", "many", "at", "turn"] ["pool", "many"] (C8.fnScope st)) (hb : BltOk mg)
    (ck : ((⟨["pool", "many", "at", "turn"], C8.fnScope st, none, [], []⟩ : CK).var 0 "pool" && (⟨["pool", "many", "at", "turn"], C8.fnScope st, none, [], []⟩ : CK).var 1 "many" && (⟨["pool", "many", "at", "turn"], C8.fnScope st, none, [], []⟩ : CK).var 2 "at" && (⟨["pool", "many", "at", "turn"], C8.fnScope st, none, [], []⟩ : CK).var 3 "turn"
      && (⟨["pool", "many", "at", "turn"], C8.fnScope st, none, [], []⟩ : CK).sto 2 "at" && (⟨["pool", "many", "at", "turn"], C8.fnScope st, none, [], []⟩ : CK).sto 3 "turn" && (⟨["pool", "many", "at", "turn"], C8.fnScope st, none, [], []⟩ : CK).gl "len" && (⟨["pool", "many", "at", "turn"], C8.fnScope st, none, [], []⟩ : CK).gl "int") = true)
    (hbody : C8.fnBody st = [.Assign [.Name "at" p1] (.Subscript (.Subscript (.Name "pool" p2) (.Constant (.int 1) c1 p3) p4) (.Constant (.int 0) c2 p5) p6) p7,
      .Assign [.Subscript (.Subscript (.Name "pool" p8) (.Constant (.int 1) c3 p9) p10) (.Constant (.int 0) c4 p11) p12] (.BinOp (.Name "at" p13) .Add (.Constant (.int 1) c5 p14) p15) p16,
      .Assign [.Name "turn" p17] (.BinOp (.Name "at" p18) .FloorDiv (.Call (.Name "len" p19) [.Subscript (.Name "pool" p20) (.Constant (.int 0) c6 p21) p22] [] p23) p24) p25,
      .Return (some (.BinOp (.Call (.Name "int" p26) [.BinOp (.BinOp (.Subscript (.Subscript (.Name "pool" p27) (.Constant (.int 0) c7 p28) p29) (.BinOp (.Name "at" p30) .Mod (.Call (.Name "len" p31) [.Subscript (.Name "pool" p32) (.Constant (.int 0) c8 p33) p34] [] p35) p36) p37) .Add
        (.BinOp (.Name "turn" p38) .Mult (.Constant (.int 1013) c9 p39) p40) p41) .Add (.BinOp (.BinOp (.Name "turn" p42) .Mult (.Name "at" p43) p44) .Mult (.Constant (.int 7) c10 p45) p46) p47] [] p48) .Mod (.Name "many" p49) p50)) p1']) :
    C8.Cal P w K mg base (j + 1) "_law_draw" (lift K w sp_draw) [] := by
  refine C8.cal0 F b .nil S (fun vs H Q E ⟨P', F', ds, dr, QQ, _, _, rs, ⟨m, e, _⟩, _⟩ => by rw [rs.length, e]; rfl) fun cdv A outer s H vs Q E hr ⟨P', F', ds, dr, QQ, sub, pool, rs, ⟨m, e, hm, hdr, hq⟩, fin⟩ => ?_
  subst e
  cases rs with
  | cons r1 rs =>
  cases rs with
  | cons r2 rs =>
  cases rs
  cases r2
  cases r1 with
  | @pool p r c hP =>
  obtain ⟨⟨f1, f2, f3⟩, ⟨n1, n2⟩, hp, ⟨rows, ⟨hne, hlen⟩, hrw⟩, n, hn0, hn1, hc⟩ := id (pool p r c hP)
  simp only [Bool.and_eq_true] at ck
  obtain ⟨⟨⟨⟨⟨⟨⟨k1, k2⟩, k3⟩, k4⟩, k5⟩, k6⟩, k7⟩, k8⟩ := ck
  have h := ck_entry (P := P) (K := K) (w := w) (base := base) (x := "_law_draw") (cs := []) (fs := []) (sps := fun _ _ _ _ _ => False) (P' := none) S hb (fun x d h => by simp at h) (fun f x h => by simp at h) (outer := outer) (H := H) (E := E) hr
  have v0 : ∀ p, PE _ (.Name "pool" p) (tVar 0) := fun p => h.var k1
  have v1 : ∀ p, PE _ (.Name "many" p) (tVar 1) := fun p => h.var k2
  have v2 : ∀ p, PE _ (.Name "at" p) (tVar 2) := fun p => h.var k3
  have v3 : ∀ p, PE _ (.Name "turn" p) (tVar 3) := fun p => h.var k4
  obtain ⟨a1, a2, a3⟩ := h.sto k5
  obtain ⟨b1, b2, b3⟩ := h.sto k6
  have ln : ∀ {e : Expr} {te : TE} {q1 q2 : Pos}, PE _ e te → nst e = true → PE _ (.Call (.Name "len" q1) [e] [] q2) (tCB _ (tCons te tNil)) := fun {e te q1 q2} he hs =>
    pe_callB (id := "len") call_len (h.gl k7) (hb _ (by decide +kernel)) boot_len (pa_cons he pa_nil (star1 hs)) (by decide +kernel) (by decide +kernel) (star1 hs) rfl
  rw [hbody]
  refine ⟨_, pss_cons (ps_set h.nd a1 a2 (pe_ix ix_list (pe_ix ix_list (v0 p2) pe_int (pix_ok rfl)) pe_int (pix_ok rfl)) (sw_no rfl) a3)
    (pss_cons (ps_asg (pe_op op_add (v2 p13) pe_int) (pg_sub (pe_ix ix_list (v0 p8) pe_int (pix_ok rfl)) pe_int set_list (asgS_ok rfl)) (sws_other fun x p z => Expr.noConfusion z) rfl rfl)
    (pss_cons (ps_set h.nd b1 b2 (pe_op op_fdivN (v2 p18) (ln (pe_ix ix_list (v0 p20) pe_int (pix_ok rfl)) rfl)) (sw_no rfl) b3)
    (pss_one (ps_ret (pe_op op_modN (pe_callTy (T := "int") call_int1 (h.gl k8) (hb _ (by decide +kernel)) boot_int (pa_cons
      (pe_op op_add (pe_op op_add (pe_ix ix_list (pe_ix ix_list (v0 p27) pe_int (pix_ok rfl)) (pe_op op_modN (v2 p30) (ln (pe_ix ix_list (v0 p32) pe_int (pix_ok rfl)) rfl)) (pix_ok rfl)) (pe_op op_mul (v3 p38) pe_int)) (pe_op op_mul (pe_op op_mul (v3 p42) (v2 p43)) pe_int)) pa_nil (star1 rfl)) (by decide +kernel) (by decide +kernel) (star1 rfl) rfl) (v1 p49)))))), ?_⟩
  have hl0 : 0 < rows.length := List.length_pos_iff.mpr hne
  have hpc : p ≠ c := fun z => n1 z.symm
  have hrc : r ≠ c := fun z => n2 z.symm
  have hp' : upd H c (.lst [.int (n + 1)]) p = some (.lst [.ref r, .ref c]) := (upd_ne hpc).trans hp
  have hr' : upd H c (.lst [.int (n + 1)]) r = some (.lst (rows.map V.int)) := (upd_ne hrc).trans hrw
  have fc : F' c = none := f3
  have key : ∀ v : Int, 0 ≤ v → v < m → Q (.int v) (upd H c (.lst [.int (n + 1)])) := fun v g0 g1 => by
    refine fin (.val (.int v)) (dr + 1) (.int v) F' _ ?_ (hq v g0 g1)
    refine ⟨fun a o e => ?_, fun _ _ e => e, fun a o e nc => ?_, fun a ha => ?_, fun _ _ => rfl, fun p' r' c' e => ?_, R.int _⟩
    · rw [upd_ne (ne_of_none e fc)]; exact sub a o e
    · by_cases z : a = c
      · exact absurd ⟨p, r, z ▸ hP⟩ nc
      · rw [upd_ne z]; exact e
    · by_cases z : a = c
      · subst z; rw [upd_same]; simp
      · rw [upd_ne z]; exact ha
    · have := hP.symm.trans e
      cases this
      exact ⟨⟨f1, f2, f3⟩, ⟨n1, n2⟩, hp', ⟨rows, ⟨hne, hlen⟩, hr'⟩, n + 1, by omega, by omega, upd_same⟩
  -- at = pool[1][0]
  refine ⟨.ref p, rfl, p, _, 1, .ref c, rfl, rfl, .of hp, rfl, c, _, 0, .int n, rfl, rfl, .of hc, rfl, ?_⟩
  -- pool[1][0] = at + 1
  refine ⟨.int n, rfl, n, 1, rfl, rfl, .ref p, rfl, p, _, 1, .ref c, rfl, rfl, .of hp, rfl, c, _, 0, 0, rfl, rfl, hc, rfl, ?_⟩
  show tSeq _ _ _ _ (upd H c (.lst [.int (n + 1)]))
  -- turn = at // len(pool[0])
  refine ⟨.int n, rfl, .ref p, rfl, p, _, 0, .ref r, rfl, rfl, .of hp', rfl, .ref r, (rows.map V.int).length, rfl, .inl ⟨_, .of hr', rfl⟩, n, (rows.map V.int).length, rfl, rfl, ⟨by rw [List.length_map]; omega, by rw [List.length_map]; omega⟩, ?_⟩
  rw [List.length_map]
  have hat : ∃ v, atI (rows.map V.int) (n.fmod (rows.length : Nat)) = some (.int v) := by
    have g0 : 0 ≤ n.fmod (rows.length : Nat) := Int.fmod_nonneg_of_pos n (by omega)
    have g1 : n.fmod (rows.length : Nat) < (rows.length : Nat) := Int.fmod_lt_of_pos n (by omega)
    obtain ⟨i, hi⟩ : ∃ i : Nat, n.fmod (rows.length : Nat) = i := ⟨_, (Int.toNat_of_nonneg g0).symm⟩
    rw [hi] at g1 ⊢
    have hlt : i < rows.length := by omega
    exact ⟨rows[i], atI_nat (by simp [hlt])⟩
  obtain ⟨z, hz⟩ := hat
  have hfd : 0 ≤ n.fdiv (rows.length : Nat) ∧ n.fdiv (rows.length : Nat) ≤ n := by
    rw [Int.fdiv_eq_ediv_of_nonneg _ (by omega)]
    exact ⟨Int.ediv_nonneg hn0 (by omega), Int.ediv_le_self _ hn0⟩
  have big : (2 : Int) ^ 64 = 18446744073709551616 := by decide
  have dr40 : (dr : Int) < 1099511627776 := by
    have : (2 : Nat) ^ 40 = 1099511627776 := by decide
    omega
  -- the answer
  refine ⟨.ref p, rfl, p, _, 0, .ref r, rfl, rfl, .of hp', rfl, .int n, rfl, .ref p, rfl, p, _, 0, .ref r, rfl, rfl, .of hp', rfl, .ref r, (rows.map V.int).length, rfl, .inl ⟨_, .of hr', rfl⟩, n, (rows.map V.int).length, rfl, rfl, by rw [List.length_map]; omega, ?_⟩
  rw [List.length_map]
  refine ⟨r, _, _, .int z, rfl, rfl, .of hr', hz, .int _, rfl, _, 1013, rfl, rfl, .inr ⟨by decide, by decide⟩, z, _, rfl, rfl, .int _, rfl, .int n, rfl, _, n, rfl, rfl, .inr ⟨by omega, by omega⟩, _, 7, rfl, rfl, .inr ⟨by decide, by decide⟩, _, _, rfl, rfl, .inl ⟨_, rfl, ?_⟩⟩
  refine ⟨.int m, rfl, _, m, rfl, rfl, by omega, ?_⟩
  exact key _ (Int.fmod_nonneg_of_pos _ hm) (Int.fmod_lt_of_pos _ hm)
end
end PL
/-! PL21: laws of the plain reading: loops, comprehensions; how a reading is evaluated. -/
namespace PL
open PySem PySem.Spec PyProof.Rows L2
theorem for_inv {tg : Tg} {fb : PEnv → PEnds → Prop} {E : PEnds} (I : Nat → PEnv → Prop) : ∀ (ds : List D) (i0 : Nat) {ρ : PEnv}, I i0 ρ →
    (∀ i d ρ, ds[i]? = some d → I (i0 + i) ρ → ∀ Nx : PEnv → Prop, (∀ ρ', I (i0 + i + 1) ρ' → Nx ρ') → tgP tg d ρ fun ρ1 => fb ρ1 ⟨Nx, E.rt, E.nx, Nx⟩) → (∀ ρ, I (i0 + ds.length) ρ → E.nx ρ) → forL tg fb ds ρ E
  | [], i0, ρ, h, _, fin => fin ρ h
  | d :: ds, i0, ρ, h, step, fin => by
    refine step 0 d ρ rfl h _ fun ρ' h' => ?_
    refine for_inv I ds (i0 + 1) h' (fun i d ρ e hi Nx hN => step (i + 1) d ρ (by simpa using e) (by rw [← Nat.add_assoc, Nat.add_right_comm]; exact hi) Nx fun ρ' z => hN ρ' (by rw [Nat.add_right_comm i0 1 i]; exact z)) fun ρ z => fin ρ (by rw [List.length_cons, ← Nat.add_assoc, Nat.add_right_comm]; exact z)
/-- a comprehension whose turns leave the slots as they are -/
theorem comp_pure {vs : List Nat} {tg : Tg} {fc fe : PEnv → RK → Prop} {ρ : PEnv} {Q : List D → PEnv → Prop} (g : D → Option D) : ∀ (ds acc : List D), acc.length + ds.length ≤ sizeLine →
    (∀ d ∈ ds, ∀ K : Option D → PEnv → Prop, K (g d) ρ → tgP tg d ρ fun ρ1 => fc ρ1 fun c ρ2 => ∃ b, c = .val (.bl b) ∧ brn b (fe ρ2 fun r ρ3 => r.kept fun x => K (some x) (ρ3.wipe vs)) (K none (ρ2.wipe vs))) →
    Q (acc ++ ds.filterMap g) ρ → compL vs tg fc fe ds ρ acc Q
  | [], acc, _, _, q => by simpa [compL] using q
  | d :: ds, acc, hz, h, q => by
    have hz' : acc.length + (ds.length + 1) ≤ sizeLine := hz
    have key := h d (List.mem_cons_self ..) (fun o ρ' => match o with | some x => acc.length < sizeLine ∧ compL vs tg fc fe ds ρ' (acc ++ [x]) Q | none => compL vs tg fc fe ds ρ' acc Q)
    refine key ?_
    cases e : g d with
    | none => exact comp_pure g ds acc (by omega) (fun d hd => h d (List.mem_cons_of_mem _ hd)) (by simpa [e] using q)
    | some x => exact ⟨by omega, comp_pure g ds (acc ++ [x]) (by simp; omega) (fun d hd => h d (List.mem_cons_of_mem _ hd)) (by simpa [e] using q)⟩
/-- .. over things told by f, those that p takes, each to g -/
theorem comp_fm {α : Type} {vs : List Nat} {tg : Tg} {fc fe : PEnv → RK → Prop} {ρ : PEnv} {Q : List D → PEnv → Prop} {f : α → D} (p : α → Bool) (g : α → D) : ∀ (xs : List α) (acc : List D), acc.length + xs.length ≤ sizeLine →
    (∀ a ∈ xs, ∀ K : Option D → PEnv → Prop, (p a = true → K (some (g a)) ρ) → (p a = false → K none ρ) → tgP tg (f a) ρ fun ρ1 => fc ρ1 fun c ρ2 => ∃ b, c = .val (.bl b) ∧ brn b (fe ρ2 fun r ρ3 => r.kept fun x => K (some x) (ρ3.wipe vs)) (K none (ρ2.wipe vs))) →
    Q (acc ++ (xs.filter p).map g) ρ → compL vs tg fc fe (xs.map f) ρ acc Q
  | [], acc, _, _, q => by simpa [compL] using q
  | a :: xs, acc, hz, h, q => by
    have hz' : acc.length + (xs.length + 1) ≤ sizeLine := hz
    have key := h a (List.mem_cons_self ..) (fun o ρ' => match o with | some x => acc.length < sizeLine ∧ compL vs tg fc fe (xs.map f) ρ' (acc ++ [x]) Q | none => compL vs tg fc fe (xs.map f) ρ' acc Q)
    refine key (fun e => ⟨by omega, comp_fm p g xs (acc ++ [g a]) (by simp; omega) (fun d hd => h d (List.mem_cons_of_mem _ hd)) (by simpa [List.filter_cons, e] using q)⟩) (fun e => comp_fm p g xs acc (by omega) (fun d hd => h d (List.mem_cons_of_mem _ hd)) (by simpa [List.filter_cons, e] using q))
/-- .. all of them -/
theorem comp_mp {α : Type} {vs : List Nat} {tg : Tg} {fc fe : PEnv → RK → Prop} {ρ : PEnv} {Q : List D → PEnv → Prop} {f : α → D} (g : α → D) (xs : List α) (hz : xs.length ≤ sizeLine)
    (h : ∀ a ∈ xs, ∀ K : Option D → PEnv → Prop, K (some (g a)) ρ → tgP tg (f a) ρ fun ρ1 => fc ρ1 fun c ρ2 => ∃ b, c = .val (.bl b) ∧ brn b (fe ρ2 fun r ρ3 => r.kept fun x => K (some x) (ρ3.wipe vs)) (K none (ρ2.wipe vs)))
    (q : Q (xs.map g) ρ) : compL vs tg fc fe (xs.map f) ρ [] Q :=
  comp_fm (fun _ => true) g xs [] (by simpa using hz) (fun a ha K k1 _ => h a ha K (k1 rfl)) (by rw [List.filter_eq_self.mpr (fun _ _ => rfl)]; exact q)
/-- a comprehension whose turns may draw: Pf: what may come of an item -/
theorem comp_dr {vs : List Nat} {tg : Tg} {fc fe : PEnv → RK → Prop} {sl : List SV} {Q : List D → PEnv → Prop} (n : Nat) (Pf : D → Option D → Prop) : ∀ (ds acc : List D) (dr : Nat), acc.length + ds.length ≤ sizeLine →
    (∀ d ∈ ds, ∀ dr', dr' + n ≤ dr + n * ds.length → ∀ K : Option D → PEnv → Prop, (∀ o dr'', dr'' ≤ dr' + n → Pf d o → K o ⟨sl, dr''⟩) → tgP tg d ⟨sl, dr'⟩ fun ρ1 => fc ρ1 fun c ρ2 => ∃ b, c = .val (.bl b) ∧ brn b (fe ρ2 fun r ρ3 => r.kept fun x => K (some x) (ρ3.wipe vs)) (K none (ρ2.wipe vs))) →
    (∀ (os : List (Option D)) (dr' : Nat), os.length = ds.length → (∀ (i : Nat) (d : D) (o : Option D), ds[i]? = some d → os[i]? = some o → Pf d o) → dr' ≤ dr + n * ds.length → Q (acc ++ os.filterMap id) ⟨sl, dr'⟩) → compL vs tg fc fe ds ⟨sl, dr⟩ acc Q
  | [], acc, dr, _, _, q => by
    have := q [] dr rfl (fun i d o e => by simp at e) (by simp)
    simpa [compL] using this
  | d :: ds, acc, dr, hz, h, q => by
    have hz' : acc.length + (ds.length + 1) ≤ sizeLine := hz
    have hm : n * (d :: ds).length = n * ds.length + n := by rw [List.length_cons, Nat.mul_add, Nat.mul_one]
    have key := h d (List.mem_cons_self ..) dr (by rw [hm]; omega) (fun o ρ' => match o with | some x => acc.length < sizeLine ∧ compL vs tg fc fe ds ρ' (acc ++ [x]) Q | none => compL vs tg fc fe ds ρ' acc Q)
    refine key fun o dr'' hd hP => ?_
    have rest : ∀ acc', acc'.length ≤ acc.length + 1 → (∀ os : List (Option D), acc' ++ os.filterMap id = acc ++ (o :: os).filterMap id) → compL vs tg fc fe ds ⟨sl, dr''⟩ acc' Q := fun acc' hl ha =>
      comp_dr n Pf ds acc' dr'' (by omega) (fun d' hd' dr' hle => h d' (List.mem_cons_of_mem _ hd') dr' (by rw [hm]; omega)) (fun os dr' h1 h2 h3 => by
        rw [ha os]
        refine q (o :: os) dr' (by simp [h1]) (fun i d' o' e1 e2 => ?_) (by rw [hm]; omega)
        cases i with
        | zero => simp at e1 e2; subst e1; subst e2; exact hP
        | succ i => exact h2 i d' o' (by simpa using e1) (by simpa using e2))
    cases o with
    | none => exact rest acc (by omega) fun os => by simp
    | some x => exact ⟨by omega, rest (acc ++ [x]) (by simp) fun os => by simp⟩
end PL
/-! PL22: the pool is made. -/
namespace PL
open PySem PySem.Spec PyProof.Rows L2
def nm__law_numbers : List Str := ["cell", "many", "rows", "left", "k", "mixed"]
def ir__law_numbers : IS :=
(.seq (.asg (.nm 2) (.lst .anil))
  (.seq (.asg (.nm 3) (.var 0))
  (.seq (.fr (.nm 4) (.itR1 (.bor 1))
 (.seq (.ifs (.and (.cmp .ge (.bor 0) (.bin .pow (.cst (.int 10)) (.cst (.int 18)))) (.cmp .gt (.bor 3) (.cst (.int 0))))
 (.seq (.app 2 (.bin .mod (.blt .int (.acons (.bor 3) .anil)) (.cst (.int 4099))))
  (.seq (.asg (.nm 3) (.bin .fdiv (.bor 3) (.cst (.int 4099))))
  .skip))
 (.seq (.asg (.nm 5) (.bin .mod (.blt .int (.acons (.bin .add (.bin .mul (.bor 0) (.cst (.int 69621))) (.bin .mul (.bin .add (.bor 4) (.cst (.int 1))) (.cst (.int 48271)))) .anil)) (.cst (.int 2147483647))))
  (.seq (.asg (.nm 5) (.bin .mod (.blt .int (.acons (.bin .add (.bin .add (.bin .mul (.bor 5) (.bor 5)) (.bin .mul (.bor 5) (.cst (.int 16807)))) (.bin .mul (.bor 4) (.cst (.int 7919)))) .anil)) (.cst (.int 2147483629))))
  (.seq (.asg (.nm 5) (.bin .mod (.blt .int (.acons (.bin .add (.bin .add (.bin .mul (.bor 5) (.bor 5)) (.bor 0)) (.bin .mul (.cst (.int 17)) (.bor 4))) .anil)) (.cst (.int 2147483587))))
  (.seq (.app 2 (.bin .mod (.bin .fdiv (.bor 5) (.cst (.int 5))) (.cst (.int 4099))))
  .skip)))))
  .skip))
  (.seq (.ret (.var 2))
  .skip))))
def fs__law_numbers : List (Nat × Str) := []
def cs__law_numbers : List (Str × D) := []
def sp_numbers : Spec := fun ds dr Q _ => ∃ (c : Int) (n : Nat), ds = [.int c, .int (n : Nat)] ∧ n ≤ 1000 ∧ ∀ is : List Int, is.length = n → Q (.val (.lst (is.map .int))) dr
theorem rng_get {lo hi : Int} {i : Nat} {d : D} (h : (rngL lo hi)[i]? = some d) : d = .int (lo + i) ∧ i < (hi - lo).toNat := by
  unfold rngL at h
  rw [List.getElem?_map] at h
  obtain ⟨j, h1, rfl⟩ := Option.map_eq_some_iff.mp h
  obtain ⟨h2, h3⟩ := List.getElem?_eq_some_iff.mp h1
  rw [List.getElem_range] at h3
  subst h3
  exact ⟨rfl, by simpa using h2⟩
theorem rng_len {lo hi : Int} : (rngL lo hi).length = (hi - lo).toNat := by unfold rngL; simp
theorem numbers_wp (C : PC) : ∀ ds dr Q, sp_numbers ds dr Q (fun _ _ => False) → wpF C nm__law_numbers.length ir__law_numbers ds dr Q := by
  rintro ds dr Q ⟨c, n, rfl, hn, hq⟩
  show wpF C 6 ir__law_numbers _ dr Q
  conv => whnf
  refine ⟨by decide, ?_⟩
  conv => whnf
  refine ⟨_, rfl, ⟨by omega, by omega⟩, ?_⟩
  refine for_inv (fun i ρ => ∃ (is : List Int) (left : Int) (a b : SV), ρ = ⟨[.val (.int c), .val (.int n), .own (is.map .int), .val (.int left), a, b], dr⟩ ∧ is.length = i) _ 0 ⟨[], c, .no, .no, rfl, rfl⟩ ?_ ?_
  · rintro i d ρ hd ⟨is, left, a, b, rfl, hl⟩ Nx hN
    obtain ⟨rfl, hi⟩ := rng_get hd
    conv => whnf
    refine ⟨⟨by decide, by decide, by decide⟩, ?_⟩
    conv => whnf
    refine ⟨_, rfl, ?_⟩
    conv => whnf
    have sz := sizeLine_eq
    have big : ∀ x : Int, 0 ≤ x → x < 2147483647 → -(2 ^ 64 : Int) < x ∧ x < 2 ^ 64 := fun x h0 h1 => by
      have : (2 : Int) ^ 64 = 18446744073709551616 := by decide
      omega
    have fin : ∀ (x l : Int) (a b : SV) (ρ' : PEnv), ρ' = ⟨[.val (.int c), .val (.int n), .own (is.map .int ++ [.int x]), .val (.int l), a, b], dr⟩ → Nx ρ' := fun x l a b ρ' e =>
      hN _ ⟨is ++ [x], l, a, b, by rw [e]; simp, by simp [hl]⟩
    have other : ∀ (ρ' : PEnv) (E' : PEnds), E'.nx = Nx → ρ' = ⟨[.val (.int c), .val (.int n), .own (is.map .int), .val (.int left), .val (.int (0 + i)), b], dr⟩ → 
      wpS C (.seq (.asg (.nm 5) (.bin .mod (.blt .int (.acons (.bin .add (.bin .mul (.bor 0) (.cst (.int 69621))) (.bin .mul (.bin .add (.bor 4) (.cst (.int 1))) (.cst (.int 48271)))) .anil)) (.cst (.int 2147483647))))
  (.seq (.asg (.nm 5) (.bin .mod (.blt .int (.acons (.bin .add (.bin .add (.bin .mul (.bor 5) (.bor 5)) (.bin .mul (.bor 5) (.cst (.int 16807)))) (.bin .mul (.bor 4) (.cst (.int 7919)))) .anil)) (.cst (.int 2147483629))))
  (.seq (.asg (.nm 5) (.bin .mod (.blt .int (.acons (.bin .add (.bin .add (.bin .mul (.bor 5) (.bor 5)) (.bor 0)) (.bin .mul (.cst (.int 17)) (.bor 4))) .anil)) (.cst (.int 2147483587))))
  (.seq (.app 2 (.bin .mod (.bin .fdiv (.bor 5) (.cst (.int 5))) (.cst (.int 4099))))
  .skip)))) ρ' E' := fun ρ' E' eN e => by
      subst e
      conv => whnf
      refine ⟨.inr ⟨by decide, by decide⟩, ?_⟩
      conv => whnf
      refine ⟨.inr ⟨by decide, by decide⟩, ?_⟩
      conv => whnf
      refine ⟨by decide, ?_⟩
      conv => whnf
      refine ⟨.inl (big _ (Int.fmod_nonneg_of_pos _ (by decide)) (Int.lt_of_lt_of_le (Int.fmod_lt_of_pos _ (by decide)) (by decide))), ?_⟩
      conv => whnf
      refine ⟨.inr ⟨by decide, by decide⟩, ?_⟩
      conv => whnf
      refine ⟨.inr ⟨by decide, by decide⟩, ?_⟩
      conv => whnf
      refine ⟨by decide, ?_⟩
      conv => whnf
      refine ⟨.inl (big _ (Int.fmod_nonneg_of_pos _ (by decide)) (Int.lt_of_lt_of_le (Int.fmod_lt_of_pos _ (by decide)) (by decide))), ?_⟩
      conv => whnf
      refine ⟨.inl ⟨by decide, by decide⟩, ?_⟩
      conv => whnf
      refine ⟨by decide, ?_⟩
      conv => whnf
      refine ⟨rfl, ?_⟩
      conv => whnf
      refine ⟨⟨by decide, by decide⟩, ?_⟩
      conv => whnf
      refine ⟨by decide, ?_⟩
      conv => whnf
      refine ⟨_, rfl, by rw [List.length_map]; omega, ?_⟩
      show E'.nx _
      rw [eN]
      exact fin _ _ _ _ _ rfl
    refine ⟨fun h1 => ?_, fun h1 => ?_⟩
    · conv => whnf
      refine ⟨_, rfl, ?_⟩
      conv => whnf
      refine ⟨fun h2 => ?_, fun h2 => ?_⟩
      · conv => whnf
        refine ⟨rfl, ?_⟩
        conv => whnf
        refine ⟨by decide, ?_⟩
        conv => whnf
        refine ⟨_, rfl, by rw [List.length_map]; omega, ?_⟩
        conv => whnf
        refine ⟨⟨by decide, by decide⟩, ?_⟩
        exact fin _ _ _ _ _ rfl
      · exact other _ _ rfl rfl
    · conv => whnf
      refine ⟨_, rfl, ?_⟩
      conv => whnf
      refine ⟨fun h2 => (by cases h2), fun h2 => ?_⟩
      exact other _ _ rfl rfl
  · rintro ρ ⟨is, left, a, b, rfl, hl⟩
    conv => whnf
    exact hq is (by rw [hl, rng_len]; simp)

theorem ints_map : ∀ is : List Int, ints? (is.map D.int) = some is
  | [] => rfl
  | i :: is => by simp [ints?, ints_map is]
/-! ### _law_pool -/
theorem sq_mono {K : PySem.W.Frag} {H H' : Hp} {a : Addr} {xs : List V} (h : SqL K H a xs) (s : Same H H') : SqL K H' a xs := h.imp (fun z => Rd.mono z s) id
def spPool (K : PySem.W.Frag) : Sp := fun vs H Q _ => ∃ a ns, vs = [.ref a] ∧ SqL K H a (List.map V.int ns) ∧ ∀ p r c (rows : List Int) H', Same H H' → c ≠ p → c ≠ r → (rows ≠ [] ∧ rows.length ≤ 1000000) →
  H' p = some (.lst [.ref r, .ref c]) → H' r = some (.lst (rows.map V.int)) → H' c = some (.lst [.int 0]) → Q (.ref p) H'
section
variable {P : Program} {w : World} {K : PySem.W.Frag} {mg : Str → Option Value} {base : Heap}
theorem pool_ok {st : Stmt} {f : Addr} {fd : FuncData} {p1 p2 p3 p4 p5 p6 p7 p8 p9 p10 p11 p12 p13 p14 p15 p16 p17 p18 p19 p20 p21 p22 p23 p24 p25 p26 p27 p28 p29 p30 p31 p32 p33 p34 p35 p36 : Pos} {c1 c2 c3 c4 c5 j i1 i2 : Nat}
    (F : C8.Def K mg "_law_pool" st f fd) (b : Binds K fd ["script"] []) (S : FnScope ["script", "rows", "k"] ["script"] (C8.fnScope st)) (hb : BltOk mg)
    (hc : C8.Cal P w K mg base i1 "_law_cell" (spCell K) []) (hi1 : i1 ≤ j) (hn : C8.Cal P w K mg base i2 "_law_numbers" (lift K w sp_numbers) []) (hi2 : i2 ≤ j)
    (ck : ((⟨["script", "rows", "k"], C8.fnScope st, none, [], []⟩ : CK).var 0 "script" && (⟨["script", "rows", "k"], C8.fnScope st, none, [], []⟩ : CK).var 1 "rows" && (⟨["script", "rows", "k"], C8.fnScope st, none, [], []⟩ : CK).var 2 "k"
      && (⟨["script", "rows", "k"], C8.fnScope st, none, [], []⟩ : CK).sto 1 "rows" && (⟨["script", "rows", "k"], C8.fnScope st, none, [], []⟩ : CK).sto 2 "k" && (["len", "min", "max", "range", "_law_cell", "_law_numbers"] : List Str).all (fun x => (⟨["script", "rows", "k"], C8.fnScope st, none, [], []⟩ : CK).gl x)) = true)
    (hbody : C8.fnBody st = [.Assign [.Name "rows" p1] (.List [] p2) p3,
      .For (.Name "k" p4) (.Call (.Name "range" p5) [.Call (.Name "min" p6) [.Constant (.int 6) c1 p7, .Call (.Name "max" p8) [.Constant (.int 1) c2 p9, .Call (.Name "len" p10) [.Name "script" p11] [] p12] [] p13] [] p14] [] p15)
        [.Assign [.Name "rows" p16] (.BinOp (.Name "rows" p17) .Add (.Call (.Name "_law_numbers" p18) [.BinOp (.Call (.Name "_law_cell" p19) [.Name "script" p20, .Name "k" p21] [] p22) .Add (.BinOp (.Constant (.int 11) c3 p23) .Mult (.Name "k" p24) p25) p26, .Constant (.int 24) c4 p27] [] p28) p29) p30] [] p31,
      .Return (some (.List [.Name "rows" p32, .List [.Constant (.int 0) c5 p33] p34] p35)) p36]) :
    C8.Cal P w K mg base (j + 1) "_law_pool" (spPool K) [] := by
  refine C8.cal0 F b .nil S (fun vs H Q E ⟨a, ns, e, _⟩ => by rw [e]; rfl) fun cdv A outer s H vs Q E hr ⟨a, ns, e, hq, fin⟩ => ?_
  subst e
  simp only [Bool.and_eq_true, List.all_eq_true] at ck
  obtain ⟨⟨⟨⟨⟨k1, k2⟩, k3⟩, k4⟩, k5⟩, k6⟩ := ck
  have h := ck_entry (P := P) (K := K) (w := w) (base := base) (x := "_law_pool") (cs := []) (fs := []) (sps := fun _ _ _ _ _ => False) (P' := none) S hb (fun x d h => by simp at h) (fun f x h => by simp at h) (outer := outer) (H := H) (E := E) hr
  have v0 : ∀ p, PE _ (.Name "script" p) (tVar 0) := fun p => h.var k1
  have v1 : ∀ p, PE _ (.Name "rows" p) (tVar 1) := fun p => h.var k2
  have v2 : ∀ p, PE _ (.Name "k" p) (tVar 2) := fun p => h.var k3
  obtain ⟨a1, a2, a3⟩ := h.sto k4
  obtain ⟨b1, b2, b3⟩ := h.sto k5
  have g : ∀ x ∈ (["len", "min", "max", "range", "_law_cell", "_law_numbers"] : List Str), Gl _ x := fun x hx => h.gl (k6 x hx)
  rw [hbody]
  refine ⟨_, pss_cons (ps_set h.nd a1 a2 (pe_lst pa_nil) (sw_no rfl) a3)
    (pss_cons (ps_for PassesOwn.never rfl (pi_range1 (g _ (by decide +kernel)) (hb _ (by decide +kernel)) (pa_cons (pe_callB (id := "min") (call_min2 rfl) (g _ (by decide +kernel)) (hb _ (by decide +kernel)) (by decide +kernel) (pa_cons pe_int (pa_cons
        (pe_callB (id := "max") (call_max2 rfl) (g _ (by decide +kernel)) (hb _ (by decide +kernel)) (by decide +kernel) (pa_cons pe_int (pa_cons (pe_callB (id := "len") call_len (g _ (by decide +kernel)) (hb _ (by decide +kernel)) boot_len (pa_cons (v0 p11) pa_nil) (by decide +kernel) (by decide +kernel) (star1 rfl) rfl) pa_nil (star1 rfl)) (star1 rfl))
          (by decide +kernel) (by decide +kernel) (star1 rfl) rfl) pa_nil (star1 rfl)) (star1 rfl)) (by decide +kernel) (by decide +kernel) (star1 rfl) rfl) pa_nil (star1 rfl)) (star1 rfl)) (pg_name h.nd b1 b2 b3)
      (pss_one (ps_set h.nd a1 a2 (pe_op op_cat (v1 p17) (C8.pe_c hn hr hi2 (g _ (by decide +kernel)) (pa_cons (pe_op op_add (C8.pe_c hc hr hi1 (g _ (by decide +kernel)) (pa_cons (v0 p20) (pa_cons (v2 p21) pa_nil (star1 rfl)) (star1 rfl)) (by decide +kernel) (star1 rfl) rfl) (pe_op op_mul pe_int (v2 p24)))
        (pa_cons pe_int pa_nil (star1 rfl)) (star1 rfl)) (by decide +kernel) (star1 rfl) rfl)) (sw_no rfl) a3)) (set_ok rfl))
    (pss_one (ps_ret (pe_lst (pa_cons (v1 p32) (pa_cons (pe_lst (pa_cons pe_int pa_nil (star1 rfl))) pa_nil (star1 rfl)) (star1 rfl)))))), ?_⟩
  -- rows = []
  refine ⟨by show 0 ≤ sizeLine; decide, fun r0 hr0 => ?_⟩
  show tSeq _ _ _ (L2.start ["script", "rows", "k"] [V.ref a] |>.set 1 (some (.ref r0))) (upd H r0 (.lst []))
  have hq0 := sq_mono hq (Same.upd_new (o := .lst []) hr0)
  -- how many rows
  obtain ⟨m, hm⟩ : ∃ m : Int, (if (if ((List.map V.int ns).length : Int) > 1 then ((List.map V.int ns).length : Int) else 1) < 6 then (if ((List.map V.int ns).length : Int) > 1 then ((List.map V.int ns).length : Int) else 1) else 6) = m := ⟨_, rfl⟩
  have hm1 : 1 ≤ m ∧ m ≤ 6 := by
    rw [← hm]
    split <;> split <;> omega
  refine ⟨.ref a, rfl, .ref a, _, rfl, .inl ⟨_, hq0, rfl⟩, 1, _, rfl, 6, _, rfl, m, by rw [hm], by omega, by omega, ?_⟩
  refine for_range (fun i σ H' => ∃ (r : Addr) (rows : List Int) (z : Option V), σ = [some (.ref a), some (.ref r), z] ∧ H' r = some (.lst (rows.map V.int)) ∧ rows.length = 24 * i ∧ Same H H') ⟨r0, [], none, rfl, upd_same, rfl, Same.upd_new hr0⟩ ?_ ?_
  · rintro i σ H' hi ⟨r, rows, z, rfl, h1, h2, h3⟩
    have hqa := sq_mono hq h3
    refine ⟨.ref r, rfl, .ref a, rfl, .int (0 + (i : Nat)), rfl, a, ns, i, by simp, hqa, fun cell => ?_⟩
    refine ⟨.int (0 + (i : Nat)), rfl, 11, _, rfl, rfl, .inl ⟨by decide, by decide⟩, cell, _, rfl, rfl, ?_⟩
    refine ⟨none, fun _ => none, [.int _, .int 24], 0, fun r _ => ∃ is : List Int, r = .val (.lst (is.map .int)) ∧ is.length = 24, fun _ _ e => (by cases e), fun _ _ _ e => (by cases e), .cons (.int _) (.cons (.int _) .nil), ⟨_, 24, rfl, by decide, fun is his => ⟨is, rfl, his⟩⟩, ?_⟩
    rintro r2 dr' v F' H2 cp ⟨is, rfl, his⟩
    have s2 : Same H' H2 := fun b o e => cp.heap b o e fun ⟨_, _, z⟩ => by cases z
    have rv : R ⟨K, w, none⟩ F' v (.lst (is.map .int)) := cp.res
    cases rv with
    | @lst a2 vs _ e1 e2 =>
      have ev := ints_vs e2 (ints_map is)
      subst ev
      refine ⟨r, a2, rows.map V.int, is.map V.int, rfl, rfl, s2 _ _ h1, cp.ins _ _ e1, ?_, fun p hp => ?_⟩
      · have := sizeLine_eq
        rw [List.length_map, List.length_map, h2, his]; omega
      · refine ⟨p, rows ++ is, _, rfl, by rw [upd_same, List.map_append], by rw [List.length_append, h2, his]; omega, fun b o e => ?_⟩
        have e3 := s2 b o (h3 b o e)
        rw [upd_ne (ne_of_none e3 hp)]; exact e3
  · rintro σ H' ⟨r, rows, z, rfl, h1, h2, h3⟩
    refine ⟨.ref r, rfl, by show 1 ≤ sizeLine; decide, fun c hc0 => ⟨by show 2 ≤ sizeLine; decide, fun p hp0 => ?_⟩⟩
    have rc : c ≠ r := fun z => by subst z; rw [h1] at hc0; cases hc0
    have hcp : c ≠ p := fun z => by subst z; rw [upd_same] at hp0; cases hp0
    have hrp : r ≠ p := fun z => by subst z; rw [upd_ne rc.symm, h1] at hp0; cases hp0
    refine fin p r c rows _ (fun b o e => ?_) hcp rc ⟨fun z => ?_, ?_⟩ upd_same ((upd_ne hrp).trans ((upd_ne rc.symm).trans h1)) ((upd_ne hcp).trans upd_same)
    · have e1 := h3 b o e
      have e2 : upd H' c (.lst [.int 0]) b = some o := by rw [upd_ne (ne_of_none e1 hc0)]; exact e1
      rw [upd_ne (ne_of_none e2 hp0)]; exact e2
    · rw [z] at h2; simp at h2; omega
    · rw [h2]; omega
end
end PL
/-! PL23: the law itself. -/
namespace PL
open PySem PySem.Spec PyProof.Rows L2
def spLaw (K : PySem.W.Frag) : Sp := fun vs H Q _ => ∃ a ns, vs = [.ref a] ∧ SqL K H a (List.map V.int ns) ∧ ∀ H', Q (.bl true) H'
/-- the slots behind the pool's statement -/
def lawEnv (n : Nat) : PEnv := ⟨[SV.no, SV.val .pool] ++ List.replicate (n - 2) SV.no, 0⟩
section
variable {P : Program} {w : World} {K : PySem.W.Frag} {mg : Str → Option Value} {base : Heap}
theorem law_ok {st : Stmt} {f : Addr} {fd : FuncData} {N : List Str} {rest : List Stmt} {body : IS} {fs : List (Nat × Str)} {cs : List (Str × D)} {sps : Nat → Spec} {p1 p2 p3 p4 p5 : Pos} {i j : Nat}
    (F : C8.Fun K "law" "law" st f fd) (S : FnScope N ["script"] (C8.fnScope st)) (hN : 2 ≤ N.length) (hb : BltOk mg) (hcs : CsOk K mg cs) (hf : FnsOk P w K mg base j fs sps)
    (hp : C8.Cal P w K mg base i "_law_pool" (spPool K) []) (hij : i ≤ j)
    (hbody : C8.fnBody st = .Assign [.Name "pool" p1] (.Call (.Name "_law_pool" p2) [.Name "script" p3] [] p4) p5 :: rest)
    (ck2 : ((⟨N, C8.fnScope st, none, fs, cs⟩ : CK).var 0 "script" && (⟨N, C8.fnScope st, none, fs, cs⟩ : CK).sto 1 "pool" && (⟨N, C8.fnScope st, none, fs, cs⟩ : CK).gl "_law_pool") = true)
    (ck : okB body ⟨N, C8.fnScope st, none, fs, cs⟩ rest = true)
    (hw : wpS ⟨sps, fun _ _ => False⟩ body (lawEnv N.length) ⟨fun _ => False, fun r _ => r = .val (.bl true), fun _ => False, fun _ => False⟩) :
    FnOk P w K mg base C8.CX0 (j + 1) f fd ["script"] (spLaw K) := by
  refine C8.fn0 F S (fun vs H Q E ⟨a, ns, e, _⟩ => by rw [e]; rfl) fun cdv A outer s H vs Q E hr ⟨a, ns, e, hq, fin⟩ => ?_
  subst e
  simp only [Bool.and_eq_true] at ck2
  have h := fun P' => ck_entry (P := P) (K := K) (w := w) (base := base) (x := "law") (cs := cs) (fs := fs) (sps := sps) (P' := P') S hb hcs hf (outer := outer) (H := H) (E := E) hr
  obtain ⟨a1, a2, a3⟩ := (h none).sto ck2.1.2
  have hrest : PSs _ rest (fun D σ H => ∃ P', tS ⟨sps, fun _ _ => False⟩ ⟨K, w, P'⟩ body D σ H) := ⟨fun pins s σ H D I ⟨P', q⟩ => (snd_B body (h P') ck).run pins s σ H D I q⟩
  rw [hbody]
  refine ⟨_, pss_cons (ps_set (h none).nd a1 a2 (C8.pe_c hp hr hij ((h none).gl ck2.2) (pa_cons ((h none).var ck2.1.1) pa_nil (star1 rfl)) (by decide +kernel) (star1 rfl) rfl) (sw_no rfl) a3) hrest, ?_⟩
  refine ⟨.ref a, ?_, a, ns, rfl, hq, fun p r c rows H' sH hcp hcr hrows e1 e2 e3 => ?_⟩
  · rw [start_get]; rfl
  refine ⟨some (p, r, c), lawEnv N.length, fun _ => none, fun _ => none, H', fun _ => none, _, ?_, ?_, hw, ?_⟩
  · have gt : ∀ i, (lawEnv N.length).get i = if i = 1 then .val .pool else .no := fun i => by
      unfold PEnv.get lawEnv
      rw [List.getD_eq_getElem?_getD]
      match i with
      | 0 => rfl
      | 1 => rfl
      | i + 2 =>
        rw [if_neg (by omega)]
        show ((List.replicate (N.length - 2) SV.no)[i]?).getD .no = _
        rw [List.getElem?_replicate]
        split <;> rfl
    refine ⟨?_, fun _ _ e => (by cases e), fun i => ?_, fun i j b ⟨x, _⟩ => ?_, fun p' r' c' e => ?_⟩
    · unfold lawEnv L2.start
      simp only [List.length_append, List.length_cons, List.length_nil, List.length_replicate, List.length_set, List.length_map]
      omega
    · rw [gt]
      by_cases z : i = 1
      · subst z
        rw [if_pos rfl]
        refine ⟨.ref p, ?_, .pool rfl⟩
        rw [List.getElem?_set_self]
        unfold L2.start
        simp only [List.length_append, List.length_map, List.length_replicate, List.length_cons, List.length_nil]
        omega
      · rw [if_neg z]; trivial
    · rw [gt] at x
      split at x <;> cases x
    · cases e
      exact ⟨⟨rfl, rfl, rfl⟩, ⟨hcp, hcr⟩, e1, ⟨rows, hrows, e2⟩, 0, Int.le_refl _, Int.natCast_nonneg _, e3⟩
  · refine ⟨fun _ _ e => e, .refl, fun _ h => h, fun _ _ => rfl, fun i b ⟨x, _⟩ => ?_, fun _ _ e => e⟩
    exfalso
    have gt : (lawEnv N.length).get i = .no ∨ (lawEnv N.length).get i = .val .pool := by
      unfold PEnv.get lawEnv
      rw [List.getD_eq_getElem?_getD]
      match i with
      | 0 => exact .inl rfl
      | 1 => exact .inr rfl
      | i + 2 =>
        left
        show ((List.replicate (N.length - 2) SV.no)[i]?).getD .no = _
        rw [List.getElem?_replicate]
        split <;> rfl
    rcases gt with g | g <;> rw [g] at x <;> cases x
  · refine ⟨fun _ _ _ _ _ _ q => q.elim, fun _ _ _ _ _ _ q => q.elim, fun _ _ _ _ _ _ q => q.elim, fun r dr v F1 H1 cp q => ?_⟩
    subst q
    have z : R _ F1 v (.bl true) := cp.res
    cases z
    exact fin _
end
end PL
/-! PL24: shared defs of the laws: their contracts. -/
namespace PL
open PySem PySem.Spec PyProof.Rows L2
/-- tuples of whole numbers -/
def dI (xs : List Int) : D := .tup (xs.map .int)
def dN (xs : List Nat) : D := .tup (xs.map fun n => D.int (n : Nat))
def lN (xs : List Nat) : D := .lst (xs.map fun n => D.int (n : Nat))
theorem mem_N {xs : List Nat} {d : D} (h : d ∈ xs.map fun n => D.int (n : Nat)) : ∃ n ∈ xs, d = .int (n : Nat) := by
  obtain ⟨n, h1, rfl⟩ := List.mem_map.mp h
  exact ⟨n, h1, rfl⟩
theorem ints_mapf {α : Type} (f : α → Int) : ∀ xs : List α, ints? (xs.map fun x => D.int (f x)) = some (xs.map f)
  | [] => rfl
  | x :: xs => by simp [ints?, ints_mapf f xs]
theorem at_dI {rk : List Int} {w : Nat} (h : w < rk.length) : atI (rk.map D.int) ((w : Nat) : Int) = some (.int (rk.getD w 0)) := by
  rw [atI_nat (v := D.int rk[w]) (by simp [h])]
  simp [List.getD_eq_getElem?_getD, h]
end PL
/-! PL25: plain laws of lists: distinct items, places in order. -/
namespace PL
open PySem PySem.Spec PyProof.Rows L2
section
variable {α : Type} [DecidableEq α]
/-- the distinct items, in the order of their first places -/
def ded : List α → List α → List α
  | ks, [] => ks
  | ks, a :: xs => ded (if a ∈ ks then ks else ks ++ [a]) xs
theorem mem_ded {a : α} : ∀ {xs ks : List α}, a ∈ ded ks xs ↔ a ∈ ks ∨ a ∈ xs
  | [], ks => by simp [ded]
  | b :: xs, ks => by
    rw [ded, mem_ded]
    by_cases h : b ∈ ks
    · rw [if_pos h, List.mem_cons]
      constructor
      · rintro (h | h)
        · exact .inl h
        · exact .inr (.inr h)
      · rintro (h | rfl | h)
        · exact .inl h
        · exact .inl (by assumption)
        · exact .inr h
    · rw [if_neg h, List.mem_append, List.mem_singleton, List.mem_cons, or_assoc]
theorem nodup_ded : ∀ {xs ks : List α}, ks.Nodup → (ded ks xs).Nodup
  | [], ks, h => h
  | b :: xs, ks, h => by
    rw [ded]
    refine nodup_ded ?_
    by_cases hb : b ∈ ks
    · rw [if_pos hb]; exact h
    · rw [if_neg hb, List.nodup_append]
      exact ⟨h, by simp, fun x hx y hy => by rw [List.mem_singleton.mp hy]; rintro rfl; exact hb hx⟩
theorem ded_len : ∀ {xs ks : List α}, (ded ks xs).length ≤ ks.length + xs.length
  | [], ks => by simp [ded]
  | b :: xs, ks => by
    rw [ded]
    have := @ded_len xs (if b ∈ ks then ks else ks ++ [b])
    by_cases hb : b ∈ ks
    · rw [if_pos hb] at this ⊢; simp; omega
    · rw [if_neg hb] at this ⊢; simp at this ⊢; omega
/-- a strict total order -/
structure Lin (lt : α → α → Bool) : Prop where
  ir : ∀ a, lt a a = false
  tr : ∀ a b c, lt a b = true → lt b c = true → lt a c = true
  tot : ∀ a b, a ≠ b → lt a b = true ∨ lt b a = true
theorem Lin.asym {lt : α → α → Bool} (L : Lin lt) {a b : α} (h : lt a b = true) : lt b a = false := by
  cases e : lt b a with
  | false => rfl
  | true => have := L.tr _ _ _ h e; rw [L.ir] at this; cases this
/-- the number of items below -/
def below (lt : α → α → Bool) (xs : List α) (p : α) : Nat := (xs.filter fun q => lt q p).length
theorem below_perm {lt : α → α → Bool} {xs ys : List α} (h : xs.Perm ys) (p : α) : below lt xs p = below lt ys p := (h.filter _).length_eq
theorem idx_below {lt : α → α → Bool} (L : Lin lt) : ∀ {xs : List α} {p : α}, xs.Pairwise (fun a b => lt a b = true) → p ∈ xs → xs.findIdx? (fun z => decide (z = p)) = some (below lt xs p)
  | [], p, _, h => by simp at h
  | a :: xs, p, hs, h => by
    obtain ⟨h1, h2⟩ := List.pairwise_cons.mp hs
    rw [List.findIdx?_cons]
    by_cases e : a = p
    · subst e
      rw [decide_eq_true rfl, if_pos rfl]
      unfold below
      rw [List.filter_cons, if_neg (by rw [L.ir]; simp)]
      have : xs.filter (fun q => lt q a) = [] := List.filter_eq_nil_iff.mpr fun q hq => by rw [L.asym (h1 q hq)]; simp
      rw [this]; rfl
    · rw [decide_eq_false e, if_neg (by simp)]
      have hp : p ∈ xs := (List.mem_cons.mp h).resolve_left fun z => e z.symm
      rw [idx_below L h2 hp]
      unfold below
      rw [List.filter_cons, if_pos (h1 p hp)]
      rfl
theorem below_lt {lt : α → α → Bool} (L : Lin lt) {xs : List α} (nd : xs.Nodup) {p q : α} (hp : p ∈ xs) (hq : q ∈ xs) : below lt xs p < below lt xs q ↔ lt p q = true := by
  have key : ∀ {p q : α}, p ∈ xs → lt p q = true → below lt xs p < below lt xs q := fun {p q} hp h => by
    have sub : (xs.filter fun z => lt z p) ⊆ (xs.filter fun z => lt z q).erase p := fun z hz => by
      obtain ⟨z1, z2⟩ := List.mem_filter.mp hz
      have ne : z ≠ p := fun e => by rw [e, L.ir] at z2; cases z2
      exact (List.mem_erase_of_ne ne).mpr (List.mem_filter.mpr ⟨z1, L.tr _ _ _ z2 h⟩)
    have mem : p ∈ xs.filter fun z => lt z q := List.mem_filter.mpr ⟨hp, h⟩
    have l1 := List.Nodup.length_le_of_subset (nd.sublist List.filter_sublist) sub
    have l2 := List.length_erase_of_mem mem
    have l3 : 0 < (xs.filter fun z => lt z q).length := List.length_pos_of_mem mem
    unfold below
    omega
  constructor
  · intro h
    by_cases e : p = q
    · subst e; omega
    · rcases L.tot p q e with z | z
      · exact z
      · have := key hq z; omega
  · exact key hp
end
theorem linI : Lin (fun a b : Int => decide (a < b)) := ⟨fun a => by simp, fun a b c h1 h2 => by simp at *; omega, fun a b h => by simp; omega⟩
def ltPP (p q : Int × Int) : Bool := decide (p.1 < q.1 ∨ (p.1 = q.1 ∧ p.2 < q.2))
theorem linP : Lin ltPP := by
  refine ⟨fun a => ?_, fun a b c h1 h2 => ?_, fun a b h => ?_⟩
  · simp [ltPP]
  · simp only [ltPP, decide_eq_true_eq] at *; omega
  · simp only [ltPP, decide_eq_true_eq]
    have : a.1 ≠ b.1 ∨ a.2 ≠ b.2 := by
      by_cases e : a.1 = b.1
      · right; intro e2; exact h (Prod.ext e e2)
      · exact .inl e
    omega
/-! ### sorted of such things -/
/-- things told by f are put in order by lt -/
theorem sortD_map {α : Type} [DecidableEq α] {f : α → D} {lt : α → α → Bool} (L : Lin lt) (hle : ∀ a b, leB (f a) (f b) = !lt b a) {xs : List α} (nd : xs.Nodup) :
    ∃ ys : List α, sortD (xs.map f) = ys.map f ∧ ys.Perm xs ∧ ys.Pairwise (fun a b => lt a b = true) := by
  refine ⟨xs.mergeSort fun a b => !lt b a, ?_, List.mergeSort_perm .., ?_⟩
  · unfold sortD
    rw [List.map_mergeSort (s := leB)]
    exact fun a _ b _ => (hle a b).symm
  · have h1 := List.pairwise_mergeSort (le := fun a b => !lt b a) (fun a b c h1 h2 => ?_) (fun a b => ?_) xs
    · have h2 : (xs.mergeSort fun a b => !lt b a).Nodup := (List.mergeSort_perm xs _).nodup_iff.mpr nd
      refine (h1.and h2).imp fun {a b} ⟨h, ne⟩ => ?_
      rcases L.tot a b ne with z | z
      · exact z
      · rw [z] at h; cases h
    · cases e1 : lt c a with
      | false => rfl
      | true =>
        simp only [Bool.not_eq_true'] at h1 h2
        by_cases e : a = b
        · subst e; rw [h2] at e1; cases e1
        · have z := (L.tot a b e).resolve_right (by rw [h1]; simp)
          rw [L.tr _ _ _ e1 z] at h2; cases h2
    · cases e : lt b a with
      | false => simp
      | true => simp [L.asym e]
theorem leB_int (a b : Int) : leB (.int a) (.int b) = !decide (b < a) := by
  have := congrFun (congrFun (PySem.W.dataLe_int (β := Int) id) a) b
  show PySem.W.dataLe false D.py (.int a) (.int b) = _
  have e : PySem.W.dataLe false D.py (.int a) (.int b) = PySem.W.dataLe false (fun b : Int => PyData.int (id b)) a b := rfl
  rw [e, this]
  show decide (a ≤ b) = _
  by_cases h : a ≤ b
  · rw [decide_eq_true h, decide_eq_false (by omega)]; rfl
  · rw [decide_eq_false h, decide_eq_true (by omega)]; rfl
def dP (p : Int × Int) : D := .tup [.int p.1, .int p.2]
theorem leB_pair (a b : Int × Int) : leB (dP a) (dP b) = !ltPP b a := by
  have := congrFun (congrFun (PySem.W.dataLe_ii (β := Int × Int) (fun p => p.1) (fun p => p.2)) a) b
  have e : leB (dP a) (dP b) = PySem.W.dataLe false (fun p : Int × Int => PyData.tuple [.int p.1, .int p.2]) a b := rfl
  rw [e, this]
  simp only [ltPP]
  by_cases h : a.1 < b.1 ∨ (a.1 = b.1 ∧ a.2 ≤ b.2)
  · rw [decide_eq_true h, decide_eq_false (by omega)]; rfl
  · rw [decide_eq_false h, decide_eq_true (by omega)]; rfl
/-! ### a dict of keys, each told to be the same thing -/
theorem put_ded {α : Type} [DecidableEq α] {f : α → D} {v : D} (hf : ∀ a b, deq (f a) (f b) = decide (a = b)) (ks : List α) (a : α) : putD (ks.map fun b => (f b, v)) (f a) v = (if a ∈ ks then ks else ks ++ [a]).map fun b => (f b, v) := by
  have e : (ks.map fun b => (f b, v)).any (fun p => deq p.1 (f a)) = decide (a ∈ ks) := by
    rw [List.any_map, Bool.eq_iff_iff, List.any_eq_true, decide_eq_true_eq]
    constructor
    · rintro ⟨b, hb, h⟩
      have h : deq (f b) (f a) = true := h
      rw [hf, decide_eq_true_eq] at h
      exact h ▸ hb
    · intro h
      exact ⟨a, h, by show deq (f a) (f a) = true; rw [hf]; simp⟩
  unfold putD
  rw [e]
  by_cases h : a ∈ ks
  · rw [if_pos (by simpa using h), if_pos h, List.map_map]
    refine List.map_congr_left fun b _ => ?_
    show (if deq (f b) (f a) = true then ((f b, v) : D × D) else (f b, v)) = (f b, v)
    split <;> rfl
  · rw [if_neg (by simpa using h), if_neg h, List.map_append]; rfl
theorem dcomp_ded {α : Type} [DecidableEq α] {vs : List Nat} {tg : Tg} {fc fk fv : PEnv → RK → Prop} {ρ : PEnv} {Q : List (D × D) → PEnv → Prop} {f g : α → D} {v : D} (hf : ∀ a b, deq (f a) (f b) = decide (a = b)) (hk : ∀ (ks : List α) (a : α), keyOk (ks.map fun b => (f b, v)) (f a) = true) :
    ∀ (xs ks : List α), ks.length + xs.length ≤ sizeLine →
    (∀ a ∈ xs, ∀ (K : D → D → PEnv → Prop) (Z : PEnv → Prop), K (f a) v ρ → tgP tg (g a) ρ fun ρ1 => fc ρ1 fun c ρ2 => ∃ b, c = .val (.bl b) ∧ brn b (fk ρ2 fun k ρ3 => k.kept fun kd => fv ρ3 fun r ρ4 => r.kept fun vd => K kd vd (ρ4.wipe vs)) (Z (ρ2.wipe vs))) →
    Q ((ded ks xs).map fun b => (f b, v)) ρ → dcompL vs tg fc fk fv (xs.map g) ρ (ks.map fun b => (f b, v)) Q
  | [], ks, _, _, q => q
  | a :: xs, ks, hz, h, q => by
    have hz' : ks.length + (xs.length + 1) ≤ sizeLine := hz
    refine h a (List.mem_cons_self ..) (fun kd vd ρ' => keyOk (ks.map fun b => (f b, v)) kd = true ∧ (ks.map fun b => (f b, v)).length < sizeLine ∧ dcompL vs tg fc fk fv (xs.map g) ρ' (putD (ks.map fun b => (f b, v)) kd vd) Q) (fun ρ' => dcompL vs tg fc fk fv (xs.map g) ρ' (ks.map fun b => (f b, v)) Q) ⟨hk ks a, by rw [List.length_map]; omega, ?_⟩
    rw [put_ded hf]
    refine dcomp_ded hf hk xs _ ?_ (fun d hd => h d (List.mem_cons_of_mem _ hd)) q
    split
    · omega
    · rw [List.length_append, List.length_singleton]; omega
/-! ### data that == reads -/
theorem lay_all : ∀ {xs : List D}, (∀ x ∈ xs, x.py.canLay0 = true) → PyData.canLayAll0 (D.pys xs) = true
  | [], _ => rfl
  | x :: xs, h => by
    simp only [D.pys, PyData.canLayAll0, Bool.and_eq_true]
    exact ⟨h x (List.mem_cons_self ..), lay_all fun y hy => h y (List.mem_cons_of_mem _ hy)⟩
theorem dep_all {n : Nat} : ∀ {xs : List D}, (∀ x ∈ xs, x.py.depth ≤ n) → PyData.depthAll (D.pys xs) ≤ n
  | [], _ => Nat.zero_le _
  | x :: xs, h => by
    simp only [D.pys, PyData.depthAll]
    exact Nat.max_le.mpr ⟨h x (List.mem_cons_self ..), dep_all fun y hy => h y (List.mem_cons_of_mem _ hy)⟩
theorem shp_lst {xs : List D} (h : ∀ x ∈ xs, x.py.canLay0 = true ∧ x.py.depth ≤ 60) : shp (.lst xs) = true := by
  unfold shp SeqAt.shaped
  rw [Bool.and_eq_true, decide_eq_true_eq]
  refine ⟨?_, ?_⟩
  · simp only [D.py, PyData.canLay0]; exact lay_all fun x hx => (h x hx).1
  · have := dep_all (n := 60) fun x hx => (h x hx).2
    simp only [D.py, PyData.depth]
    omega
theorem shp_tup {xs : List D} (h : ∀ x ∈ xs, x.py.canLay0 = true ∧ x.py.depth ≤ 60) : shp (.tup xs) = true := by
  unfold shp SeqAt.shaped
  rw [Bool.and_eq_true, decide_eq_true_eq]
  refine ⟨?_, ?_⟩
  · simp only [D.py, PyData.canLay0]; exact lay_all fun x hx => (h x hx).1
  · have := dep_all (n := 60) fun x hx => (h x hx).2
    simp only [D.py, PyData.depth]
    omega
theorem lay_int (i : Int) : (D.int i).py.canLay0 = true ∧ (D.int i).py.depth ≤ 60 := ⟨rfl, by simp [D.py, PyData.depth]⟩
theorem deq_int (a b : Int) : deq (.int a) (.int b) = decide (a = b) := by
  simp only [deq, D.py, PyData.eqv]
  rw [Bool.eq_iff_iff, beq_iff_eq, decide_eq_true_eq]
theorem idx_map {α : Type} [DecidableEq α] {f : α → D} (hf : ∀ a b, deq (f a) (f b) = decide (a = b)) (xs : List α) (a : α) : idxOfD (xs.map f) (f a) = xs.findIdx? (fun z => decide (z = a)) := by
  unfold idxOfD
  rw [List.findIdx?_map]
  congr 1
  funext z
  exact hf z a
theorem any_map {α : Type} [DecidableEq α] {f : α → D} (hf : ∀ a b, deq (f a) (f b) = decide (a = b)) (xs : List α) (a : α) : ((xs.map f).any fun z => deq z (f a)) = decide (a ∈ xs) := by
  rw [List.any_map, Bool.eq_iff_iff, List.any_eq_true, decide_eq_true_eq]
  constructor
  · rintro ⟨b, hb, h⟩
    have h : deq (f b) (f a) = true := h
    rw [hf, decide_eq_true_eq] at h
    exact h ▸ hb
  · intro h
    exact ⟨a, h, by show deq (f a) (f a) = true; rw [hf]; simp⟩
theorem deq_nat (a b : Nat) : deq (.int (a : Nat)) (.int (b : Nat)) = decide (a = b) := by
  rw [deq_int]
  congr 1
  exact propext Int.ofNat_inj
theorem shp_nats (xs : List Nat) : shp (.tup (xs.map fun n => D.int (n : Nat))) = true := shp_tup fun x hx => by
  obtain ⟨n, _, rfl⟩ := List.mem_map.mp hx
  exact lay_int _
theorem shp_int (i : Int) : shp (.int i) = true := rfl
end PL
/-! KH: what the head's facts give. -/
namespace PL
open PySem PySem.Spec PyProof.Rows L2
section
variable {P : Program} {w : World} {K : PySem.W.Frag} {mg : Str → Option Value} {base h : Heap}
/-- a def as the top has written it -/
def DF (K : PySem.W.Frag) (x : Str) (st : Stmt) : Prop := ∃ (f : Addr) (oc : Value) (od : Option Addr) (kV doc pm : Value) (an : Option Addr) (cdv ct : Value) (osl : Array (Option Value)),
  PySem.W.nsIn K mainGlobals x = some (some (.ref f)) ∧ K.lookup f = some ⟨oc, od, .func (PySem.W.fnOf x x (C8.fnArgs st) (C8.fnBody st) (C8.fnScope st) .none kV doc pm an cdv ct), osl⟩ ∧ PySem.W.codeIn K cdv x = true ∧ PySem.W.keepIn K (.ref f) = true
theorem df_mk {x : Str} {st : Stmt} {f : Addr} {oc : Value} {od : Option Addr} {kV doc pm : Value} {an : Option Addr} {cdv ct : Value} {osl : Array (Option Value)} (a : PySem.W.nsIn K mainGlobals x = some (some (.ref f)))
    (l : K.lookup f = some ⟨oc, od, .func (PySem.W.fnOf x x (C8.fnArgs st) (C8.fnBody st) (C8.fnScope st) .none kV doc pm an cdv ct), osl⟩) (c : PySem.W.codeIn K cdv x = true) (k : PySem.W.keepIn K (.ref f) = true) : DF K x st :=
  ⟨f, oc, od, kV, doc, pm, an, cdv, ct, osl, a, l, c, k⟩
/-- .. as the rules want it -/
theorem df_ok (X : K.In h) (G : h.Ns mainGlobals mg) {x : Str} {st : Stmt} (d : DF K x st) (ps : List Str)
    (hb : ∀ (kV doc pm : Value) (an : Option Addr) (cdv ct : Value) (us : List Value), us.length = ps.length → bindArgs (PySem.W.fnOf x x (C8.fnArgs st) (C8.fnBody st) (C8.fnScope st) .none kV doc pm an cdv ct) ⟨us, []⟩ = pure (ps.zip us)) :
    ∃ f fd, C8.Def K mg x st f fd ∧ Binds K fd ps [] := by
  obtain ⟨f, oc, od, kV, doc, pm, an, cdv, ct, osl, a, l, c, k⟩ := d
  have F : C8.Fun K x x st f (PySem.W.fnOf x x (C8.fnArgs st) (C8.fnBody st) (C8.fnScope st) .none kV doc pm an cdv ct) := ⟨⟨oc, od, .none, kV, doc, pm, an, cdv, ct, osl, rfl, l, c⟩⟩
  exact ⟨f, _, ⟨F, PySem.W.mg_of X G a, k⟩, F.binds rfl hb⟩
theorem fns_nil {j : Nat} {sps : Nat → Spec} : FnsOk P w K mg base j [] sps := fun f x h => by cases h
theorem fns_cons {i j f : Nat} {x : Str} {fs : List (Nat × Str)} {sps : Nat → Spec} (c : C8.Cal P w K mg base i x (lift K w (sps f)) []) (hi : i ≤ j) (r : FnsOk P w K mg base j fs sps) : FnsOk P w K mg base j ((f, x) :: fs) sps := fun g y h => by
  rcases List.mem_cons.mp h with e | h
  · cases e; exact ⟨i, hi, c⟩
  · exact r g y h
theorem cs_nil : CsOk K mg [] := fun x d h => by cases h
theorem cs_str (X : K.In h) (G : h.Ns mainGlobals mg) {x z : Str} {cs : List (Str × D)} {t : Tok} (a : PySem.W.nsIn K mainGlobals x = some (some (.str z t))) (r : CsOk K mg cs) : CsOk K mg ((x, .str z) :: cs) := fun y d h => by
  rcases List.mem_cons.mp h with e | h
  · cases e; exact ⟨.str z, _, PySem.W.mg_of X G a, ⟨_, rfl⟩, fun _ _ _ => .str _⟩
  · exact r y d h
theorem cs_int (X : K.In h) (G : h.Ns mainGlobals mg) {x : Str} {i : Int} {cs : List (Str × D)} {t : Tok} (a : PySem.W.nsIn K mainGlobals x = some (some (.int i t))) (r : CsOk K mg cs) : CsOk K mg ((x, .int i) :: cs) := fun y d h => by
  rcases List.mem_cons.mp h with e | h
  · cases e; exact ⟨.int i, _, PySem.W.mg_of X G a, ⟨_, rfl⟩, fun _ _ _ => .int _⟩
  · exact r y d h
theorem blt_mk (X : K.In h) (G : h.Ns mainGlobals mg)
    (z1 : PySem.W.nsIn K mainGlobals "len" = some none) (z2 : PySem.W.nsIn K mainGlobals "int" = some none) (z3 : PySem.W.nsIn K mainGlobals "str" = some none) (z4 : PySem.W.nsIn K mainGlobals "tuple" = some none) (z5 : PySem.W.nsIn K mainGlobals "list" = some none)
    (z6 : PySem.W.nsIn K mainGlobals "sorted" = some none) (z7 : PySem.W.nsIn K mainGlobals "min" = some none) (z8 : PySem.W.nsIn K mainGlobals "max" = some none) (z9 : PySem.W.nsIn K mainGlobals "sum" = some none) (z10 : PySem.W.nsIn K mainGlobals "any" = some none)
    (z11 : PySem.W.nsIn K mainGlobals "all" = some none) (z12 : PySem.W.nsIn K mainGlobals "abs" = some none) (z13 : PySem.W.nsIn K mainGlobals "range" = some none) (z14 : PySem.W.nsIn K mainGlobals "isinstance" = some none) (z15 : PySem.W.nsIn K mainGlobals "bool" = some none)
    (z16 : PySem.W.nsIn K mainGlobals "dict" = some none) (z17 : PySem.W.nsIn K mainGlobals "zip" = some none) (z18 : PySem.W.nsIn K mainGlobals "enumerate" = some none) : BltOk mg := by
  intro x hx
  simp only [List.mem_cons, List.not_mem_nil, or_false] at hx
  rcases hx with rfl | rfl | rfl | rfl | rfl | rfl | rfl | rfl | rfl | rfl | rfl | rfl | rfl | rfl | rfl | rfl | rfl | rfl
  all_goals exact PySem.W.mg_none_of X G (by assumption)
/-- a promise that nobody can ask for -/
theorem never_ok {x : Str} {st : Stmt} {f : Addr} {fd : FuncData} {N ps : List Str} {j : Nat} (F : C8.Def K mg x st f fd) (b : Binds K fd ps []) (S : FnScope N ps (C8.fnScope st)) : C8.Cal P w K mg base (j + 1) x (lift K w (fun _ _ _ _ => False)) [] :=
  C8.cal0 F b .nil S (fun vs H Q E ⟨P', F', ds, dr, QQ, _, _, rs, hs, _⟩ => hs.elim) fun cdv A outer s H vs Q E hr ⟨P', F', ds, dr, QQ, sub, pool, rs, hs, fin⟩ => hs.elim
theorem ends {l : PySem.W.OpenLaw} {q : Program} {loose : List Str} {XP : (Str → Option Value) → Heap → Prop} {YP : World → Heap → Prop} {d : DefRec} {K : Params → PySem.W.Frag} {k : Nat} (hn : l.most = some 63) (hdf : d.params.defaults = []) (hr : Room k callerA)
    (hY : ∀ (w : World) (h : Heap), YP w h → (K w.params).In h)
    (F : ∀ (w : World) (mg : Str → Option Value) (fa : Addr) (h : Heap), (K w.params).In h → h.Ns mainGlobals mg → mg d.name = some (.ref fa) →
      ∃ fd : FuncData, (∀ (s : Shared) (u : Value), BindsTo s fd ⟨[u], []⟩ [("script", u)]) ∧ ∀ base : Heap, (K w.params).In base → base.Ns mainGlobals mg → FnOk l.prog w (K w.params) mg base C8.CX0 k fa fd ["script"] (spLaw (K w.params))) :
    PySem.W.WalkO q loose XP YP l.row.toRowW d [] (fun f vs => PySem.call f vs) :=
  L2.walk_of (n := 63) (k := k) (x := "script") (CX := fun _ => C8.CX0) (sp := fun w => spLaw (K w.params)) hn (by decide) hdf hr hY F (fun _ _ a ns hl _ hS => ⟨a, ns, rfl, hS, fun _ => rfl⟩) fun _ _ _ _ _ z => z
end
end PL
/-! TL1: typed data. -/
namespace PL
open PySem PySem.Spec PyProof.Rows L2
class En (α : Type) where
  enc : α → D
open En
instance iEnInt : En Int := ⟨D.int⟩
instance iEnNat : En Nat := ⟨fun n => .int (n : Nat)⟩
instance iEnBool : En Bool := ⟨D.bl⟩
instance iEnStr : En Str := ⟨D.str⟩
instance iEnList {α : Type} [En α] : En (List α) := ⟨fun xs => .tup (xs.map enc)⟩
instance iEnProd {α β : Type} [En α] [En β] : En (α × β) := ⟨fun p => .tup [enc p.1, enc p.2]⟩
/-- Python's lists -/
structure Ls (α : Type) where
  l : List α
  deriving DecidableEq
instance iEnLs {α : Type} [En α] : En (Ls α) := ⟨fun xs => .lst (xs.l.map enc)⟩
instance iEnD : En D := ⟨id⟩
/-- data of a type: how deep, == tells them apart -/
class Dt (α : Type) [En α] [DecidableEq α] where
  dep : Nat
  lay : ∀ a : α, (enc a).py.canLay0 = true ∧ (enc a).py.depth ≤ dep
  eqv : ∀ a b : α, deq (enc a) (enc b) = decide (a = b)
theorem pys_mapE {α : Type} (f : α → D) : ∀ xs : List α, D.pys (xs.map f) = xs.map fun x => (f x).py
  | [] => rfl
  | x :: xs => by rw [List.map_cons, D.pys, pys_mapE f xs]; rfl
section
variable {α β : Type} [En α] [DecidableEq α] [Dt α] [En β] [DecidableEq β] [Dt β]
theorem eqvAll_map : ∀ xs ys : List α, PyData.eqvAll (D.pys (xs.map enc)) (D.pys (ys.map enc)) = decide (xs = ys)
  | [], [] => rfl
  | [], _ :: _ => rfl
  | _ :: _, [] => rfl
  | x :: xs, y :: ys => by
    have h : PyData.eqv (enc x).py (enc y).py = decide (x = y) := Dt.eqv x y
    simp only [List.map_cons, D.pys, PyData.eqvAll, eqvAll_map xs ys, h]
    rw [← Bool.decide_and]
    congr 1
    exact propext (by rw [List.cons.injEq])
theorem lay_map {n : Nat} (h : Dt.dep α ≤ n) (xs : List α) : ∀ x ∈ xs.map (enc : α → D), x.py.canLay0 = true ∧ x.py.depth ≤ n := fun x hx => by
  obtain ⟨a, _, rfl⟩ := List.mem_map.mp hx
  exact ⟨(Dt.lay a).1, Nat.le_trans (Dt.lay a).2 h⟩
theorem lay_tup {n : Nat} {xs : List D} (h : ∀ x ∈ xs, x.py.canLay0 = true ∧ x.py.depth ≤ n) : (D.tup xs).py.canLay0 = true ∧ (D.tup xs).py.depth ≤ n + 1 := by
  refine ⟨?_, ?_⟩
  · simp only [D.py, PyData.canLay0]; exact lay_all fun x hx => (h x hx).1
  · have := dep_all (n := n) fun x hx => (h x hx).2
    simp only [D.py, PyData.depth]
    omega
theorem lay_lst {n : Nat} {xs : List D} (h : ∀ x ∈ xs, x.py.canLay0 = true ∧ x.py.depth ≤ n) : (D.lst xs).py.canLay0 = true ∧ (D.lst xs).py.depth ≤ n + 1 := by
  refine ⟨?_, ?_⟩
  · simp only [D.py, PyData.canLay0]; exact lay_all fun x hx => (h x hx).1
  · have := dep_all (n := n) fun x hx => (h x hx).2
    simp only [D.py, PyData.depth]
    omega
end
instance iDtInt : Dt Int where
  dep := 0
  lay a := ⟨rfl, Nat.le_refl _⟩
  eqv a b := deq_int a b
instance iDtNat : Dt Nat where
  dep := 0
  lay a := ⟨rfl, Nat.le_refl _⟩
  eqv a b := deq_nat a b
instance iDtBool : Dt Bool where
  dep := 0
  lay a := ⟨rfl, Nat.le_refl _⟩
  eqv a b := by cases a <;> cases b <;> rfl
instance iDtList {α : Type} [En α] [DecidableEq α] [Dt α] : Dt (List α) where
  dep := Dt.dep α + 1
  lay a := lay_tup (lay_map (Nat.le_refl _) a)
  eqv a b := eqvAll_map a b
instance iDtLs {α : Type} [En α] [DecidableEq α] [Dt α] : Dt (Ls α) where
  dep := Dt.dep α + 1
  lay a := lay_lst (lay_map (Nat.le_refl _) a.l)
  eqv a b := by
    have : deq (enc a) (enc b) = decide (a.l = b.l) := eqvAll_map a.l b.l
    rw [this]
    congr 1
    cases a; cases b
    simp
instance iDtProd {α β : Type} [En α] [DecidableEq α] [Dt α] [En β] [DecidableEq β] [Dt β] : Dt (α × β) where
  dep := max (Dt.dep α) (Dt.dep β) + 1
  lay a := lay_tup fun x hx => by
    rcases List.mem_cons.mp hx with rfl | hx
    · exact ⟨(Dt.lay a.1).1, Nat.le_trans (Dt.lay a.1).2 (Nat.le_max_left ..)⟩
    · rw [List.mem_singleton.mp hx]
      exact ⟨(Dt.lay a.2).1, Nat.le_trans (Dt.lay a.2).2 (Nat.le_max_right ..)⟩
  eqv a b := by
    have h1 : PyData.eqv (enc a.1).py (enc b.1).py = decide (a.1 = b.1) := Dt.eqv a.1 b.1
    have h2 : PyData.eqv (enc a.2).py (enc b.2).py = decide (a.2 = b.2) := Dt.eqv a.2 b.2
    have : deq (enc a) (enc b) = (PyData.eqv (enc a.1).py (enc b.1).py && (PyData.eqv (enc a.2).py (enc b.2).py && true)) := by
      simp only [deq, enc, D.py, D.pys, PyData.eqv, PyData.eqvAll]
    rw [this, h1, h2, Bool.and_true, ← Bool.decide_and]
    congr 1
    exact propext Prod.ext_iff.symm
section
variable {α : Type} [En α] [DecidableEq α] [Dt α]
theorem shp_of {d : D} {n : Nat} (h : d.py.canLay0 = true ∧ d.py.depth ≤ n) (hn : n ≤ 60) : shp d = true := by
  unfold shp SeqAt.shaped
  rw [Bool.and_eq_true, decide_eq_true_eq]
  exact ⟨h.1, by have := h.2; omega⟩
theorem shp_enc (a : α) (h : Dt.dep α ≤ 50 := by decide) : shp (enc a) = true := shp_of (Dt.lay a) (by omega)
theorem shp_tupE (xs : List α) (h : Dt.dep α ≤ 50 := by decide) : shp (.tup (xs.map enc)) = true := shp_of (lay_tup (lay_map (Nat.le_refl _) xs)) (by omega)
theorem shp_lstE (xs : List α) (h : Dt.dep α ≤ 50 := by decide) : shp (.lst (xs.map enc)) = true := shp_of (lay_lst (lay_map (Nat.le_refl _) xs)) (by omega)
theorem anyE (xs : List α) (a : α) : ((xs.map enc).any fun z => deq z (enc a)) = decide (a ∈ xs) := any_map Dt.eqv xs a
theorem idxE (xs : List α) (a : α) : idxOfD (xs.map enc) (enc a) = xs.findIdx? (fun z => decide (z = a)) := idx_map Dt.eqv xs a
end
/-- == of data that it can read -/
theorem eqP_of {a b : D} {Q : Bool → Prop} (ha : shp a = true) (hb : shp b = true) (q : Q (deq a b)) : eqP a b Q := by
  unfold eqP
  split
  · rw [deq_int] at q; exact q
  · rename_i x y
    have this : deq (.str x) (.str y) = (x == y) := by simp only [deq, D.py, PyData.eqv]
    rw [this] at q
    have e : (x == y) = decide (x = y) := by
      by_cases h : x = y
      · subst h; simp
      · rw [decide_eq_false h]; exact beq_false_of_ne h
    rw [e] at q; exact q
  · rename_i x y
    have e : deq (.bl x) (.bl y) = decide (x = y) := by cases x <;> cases y <;> rfl
    rw [e] at q; exact q
  · exact q
  · exact q
  · exact q
  · exact ⟨⟨ha, hb⟩, q⟩
/-! ### order -/
class Od (α : Type) [En α] [DecidableEq α] [Dt α] where
  lt : α → α → Bool
  lin : Lin lt
  dlt : ∀ a b : α, PySem.W.dataLt (enc a).py (enc b).py = lt a b
  al : ∀ a b : α, PySem.W.alike (enc a).py (enc b).py = true
  nn : ∀ a : α, (enc a).py ≠ .none
  ltd : ∀ a b : α, ltD (enc a) (enc b) = some (lt a b)
instance iOdInt : Od Int where
  lt a b := decide (a < b)
  lin := linI
  dlt a b := PySem.W.dataLt_int a b
  al a b := by simp [enc, D.py, PySem.W.alike]
  nn a := by simp [enc, D.py]
  ltd a b := rfl
theorem linN : Lin (fun a b : Nat => decide (a < b)) := ⟨fun a => by simp, fun a b c h1 h2 => by simp at *; omega, fun a b h => by simp; omega⟩
instance iOdNat : Od Nat where
  lt a b := decide (a < b)
  lin := linN
  dlt a b := by
    have := PySem.W.dataLt_int a b
    show PySem.W.dataLt (.int a) (.int b) = _
    rw [this]
    congr 1
    exact propext Int.ofNat_lt
  al a b := by simp [enc, D.py, PySem.W.alike]
  nn a := by simp [enc, D.py]
  ltd a b := by
    show some (decide ((a : Int) < (b : Int))) = _
    congr 2
    exact propext Int.ofNat_lt
section
variable {α β : Type} [En α] [DecidableEq α] [Dt α] [Od α] [En β] [DecidableEq β] [Dt β] [Od β]
def ltL : List α → List α → Bool
  | [], [] => false
  | [], _ :: _ => true
  | _ :: _, [] => false
  | x :: xs, y :: ys => if x = y then ltL xs ys else Od.lt x y
theorem ltL_irrefl : ∀ a : List α, ltL a a = false
  | [] => rfl
  | x :: xs => by rw [ltL, if_pos rfl, ltL_irrefl xs]
theorem ltL_trans : ∀ a b c : List α, ltL a b = true → ltL b c = true → ltL a c = true
  | [], [], _, h, _ => by cases h
  | [], _ :: _, [], _, h => by cases h
  | [], _ :: _, _ :: _, _, _ => rfl
  | _ :: _, [], _, h, _ => by cases h
  | _ :: _, _ :: _, [], _, h => by cases h
  | x :: xs, y :: ys, z :: zs, h1, h2 => by
    rw [ltL] at *
    by_cases e1 : x = y
    · subst e1
      rw [if_pos rfl] at h1
      by_cases e2 : x = z
      · subst e2
        rw [if_pos rfl] at *
        exact ltL_trans _ _ _ h1 h2
      · rw [if_neg e2] at *; exact h2
    · rw [if_neg e1] at h1
      by_cases e2 : y = z
      · subst e2
        rw [if_neg e1]; exact h1
      · rw [if_neg e2] at h2
        have h3 := Od.lin.tr _ _ _ h1 h2
        have e3 : x ≠ z := fun e => by subst e; rw [Od.lin.ir] at h3; cases h3
        rw [if_neg e3]; exact h3
theorem ltL_tot : ∀ a b : List α, a ≠ b → ltL a b = true ∨ ltL b a = true
  | [], [], h => absurd rfl h
  | [], _ :: _, _ => .inl rfl
  | _ :: _, [], _ => .inr rfl
  | x :: xs, y :: ys, h => by
    rw [ltL, ltL]
    by_cases e1 : x = y
    · subst e1
      rw [if_pos rfl, if_pos rfl]
      exact ltL_tot xs ys fun e => h (by rw [e])
    · rw [if_neg e1, if_neg fun e => e1 e.symm]
      exact Od.lin.tot _ _ e1
theorem linL : Lin (ltL (α := α)) := ⟨ltL_irrefl, ltL_trans, ltL_tot⟩
theorem rowE : ∀ xs ys : List α, PySem.W.rowLt (D.pys (xs.map enc)) (D.pys (ys.map enc)) = ltL xs ys
  | [], [] => by
    have e : PySem.W.rowLt [] [] = false := PyProof.Rows.lex_irrefl _
    exact e
  | [], y :: ys => by
    show PySem.W.rowLt [] _ = true
    unfold PySem.W.rowLt
    rw [List.map_cons, D.pys, PySem.W.toks_all_cons]
    simp only [PySem.W.keyToksAll]
    rw [PyProof.Rows.lex_diff (O := itemOrd) (by simp)]
    rfl
  | x :: xs, [] => by
    show PySem.W.rowLt _ [] = false
    unfold PySem.W.rowLt
    rw [List.map_cons, D.pys, PySem.W.toks_all_cons]
    simp only [PySem.W.keyToksAll]
    rw [PyProof.Rows.lex_diff (O := itemOrd) (by simp)]
    rfl
  | x :: xs, y :: ys => by
    have ih := rowE xs ys
    unfold PySem.W.rowLt at ih ⊢
    rw [List.map_cons, List.map_cons, D.pys, D.pys, PySem.W.dataLt_cons (Od.al x y), ih, Od.dlt]
    have h : PyData.eqv (enc x).py (enc y).py = decide (x = y) := Dt.eqv x y
    rw [h, ltL]
    by_cases e : x = y
    · rw [if_pos e, if_pos (by simpa using e)]
    · rw [if_neg e, if_neg (by simpa using e)]
theorem alikeE : ∀ xs ys : List α, PySem.W.alikeAll (D.pys (xs.map enc)) (D.pys (ys.map enc)) = true
  | [], _ => by simp [D.pys, PySem.W.alikeAll]
  | _ :: _, [] => by simp [D.pys, PySem.W.alikeAll]
  | x :: xs, y :: ys => by
    simp only [List.map_cons, D.pys]
    rw [PySem.W.alikeAll, alikeE xs ys, Od.al x y]
    rfl
theorem ltDsE : ∀ xs ys : List α, ltDs (xs.map enc) (ys.map enc) = some (ltL xs ys)
  | [], [] => rfl
  | [], _ :: _ => rfl
  | _ :: _, [] => rfl
  | x :: xs, y :: ys => by
    simp only [List.map_cons, ltDs, ltDsE xs ys, Dt.eqv, Od.ltd, ltL]
    by_cases e : x = y
    · simp [e]
    · simp [e]
def ltPr (a b : α × β) : Bool := if a.1 = b.1 then Od.lt a.2 b.2 else Od.lt a.1 b.1
theorem linPr : Lin (ltPr (α := α) (β := β)) := by
  refine ⟨fun a => ?_, fun a b c h1 h2 => ?_, fun a b h => ?_⟩
  · unfold ltPr; rw [if_pos rfl]; exact Od.lin.ir _
  · unfold ltPr at *
    by_cases e1 : a.1 = b.1
    · rw [if_pos e1] at h1
      by_cases e2 : b.1 = c.1
      · rw [if_pos e2] at h2; rw [if_pos (e1.trans e2)]; exact Od.lin.tr _ _ _ h1 h2
      · rw [if_neg e2] at h2; rw [e1, if_neg e2]; exact h2
    · rw [if_neg e1] at h1
      by_cases e2 : b.1 = c.1
      · rw [← e2, if_neg e1]; exact h1
      · rw [if_neg e2] at h2
        have h3 := Od.lin.tr _ _ _ h1 h2
        rw [if_neg fun e => by rw [e, Od.lin.ir] at h3; cases h3]; exact h3
  · unfold ltPr
    by_cases e1 : a.1 = b.1
    · rw [if_pos e1, if_pos e1.symm]
      exact Od.lin.tot _ _ fun e => h (Prod.ext e1 e)
    · rw [if_neg e1, if_neg fun e => e1 e.symm]
      exact Od.lin.tot _ _ e1
end
instance iOdList {α : Type} [En α] [DecidableEq α] [Dt α] [Od α] : Od (List α) where
  lt := ltL
  lin := linL
  dlt a b := by
    show PySem.W.dataLt (.tuple (D.pys (a.map enc))) (.tuple (D.pys (b.map enc))) = _
    rw [PySem.W.dataLt_tuple]
    exact rowE a b
  al a b := by
    show PySem.W.alike (.tuple (D.pys (a.map enc))) (.tuple (D.pys (b.map enc))) = true
    rw [PySem.W.alike]; exact alikeE a b
  nn a := by simp [enc, D.py]
  ltd a b := by
    show ltD (.tup (a.map enc)) (.tup (b.map enc)) = _
    rw [ltD]; exact ltDsE a b
instance iOdProd {α β : Type} [En α] [DecidableEq α] [Dt α] [Od α] [En β] [DecidableEq β] [Dt β] [Od β] : Od (α × β) where
  lt := ltPr
  lin := linPr
  dlt a b := by
    show PySem.W.dataLt (.tuple [(enc a.1).py, (enc a.2).py]) (.tuple [(enc b.1).py, (enc b.2).py]) = _
    rw [PySem.W.dataLt_pair (Od.al _ _) (Od.al _ _), Od.dlt, Od.dlt]
    have h1 : PyData.eqv (enc a.1).py (enc b.1).py = decide (a.1 = b.1) := Dt.eqv a.1 b.1
    have h2 : PyData.eqv (enc a.2).py (enc b.2).py = decide (a.2 = b.2) := Dt.eqv a.2 b.2
    rw [h1, h2, ltPr]
    by_cases e : a.1 = b.1
    · rw [if_pos e, if_pos (by simpa using e)]
      by_cases e2 : a.2 = b.2
      · rw [if_pos (by simpa using e2), e2, Od.lin.ir]
      · rw [if_neg (by simpa using e2)]
    · rw [if_neg e, if_neg (by simpa using e)]
  al a b := by
    show PySem.W.alike (.tuple [(enc a.1).py, (enc a.2).py]) (.tuple [(enc b.1).py, (enc b.2).py]) = true
    rw [PySem.W.alike, PySem.W.alikeAll, PySem.W.alikeAll, PySem.W.alikeAll, Od.al, Od.al]; rfl
  nn a := by simp [enc, D.py]
  ltd a b := by
    show ltD (.tup [enc a.1, enc a.2]) (.tup [enc b.1, enc b.2]) = _
    rw [ltD]
    simp only [ltDs, Dt.eqv, Od.ltd, ltPr]
    by_cases e : a.1 = b.1
    · by_cases e2 : a.2 = b.2
      · simp [e, e2, Od.lin.ir]
      · simp [e, e2]
    · by_cases e2 : a.2 = b.2
      · simp [e, e2]
      · simp [e, e2]
section
variable {α : Type} [En α] [DecidableEq α] [Dt α] [Od α]
theorem leB_enc (a b : α) : leB (enc a) (enc b) = !Od.lt b a := by
  have : leB (enc a) (enc b) = !PySem.W.dataLt (enc b).py (enc a).py := rfl
  rw [this, Od.dlt]
/-- sorted -/
def srt (xs : List α) : List α := xs.mergeSort fun a b => !Od.lt b a
theorem sortD_enc (xs : List α) : sortD (xs.map enc) = (srt xs).map enc := by
  unfold sortD srt
  rw [List.map_mergeSort (s := leB)]
  exact fun a _ b _ => (leB_enc a b).symm
theorem sortable_enc (xs : List α) (h : Dt.dep α ≤ 50 := by decide) : sortable (xs.map enc) := by
  refine ⟨fun x hx => ?_, fun x hx y hy => ?_⟩
  · obtain ⟨i, _, rfl⟩ := List.mem_map.mp hx
    exact ⟨shp_enc i h, Od.nn i⟩
  · obtain ⟨i, _, rfl⟩ := List.mem_map.mp hx
    obtain ⟨j, _, rfl⟩ := List.mem_map.mp hy
    exact Od.al i j
theorem srt_perm (xs : List α) : (srt xs).Perm xs := List.mergeSort_perm ..
theorem srt_le (xs : List α) : (srt xs).Pairwise fun a b => Od.lt b a = false := by
  have h1 := List.pairwise_mergeSort (le := fun a b : α => !Od.lt b a) (fun a b c h1 h2 => ?_) (fun a b => ?_) xs
  · exact h1.imp fun {a b} h => by simpa using h
  · cases e1 : Od.lt c a with
    | false => rfl
    | true =>
      simp only [Bool.not_eq_true'] at h1 h2
      by_cases e : a = b
      · subst e; rw [h2] at e1; cases e1
      · have z := (Od.lin.tot a b e).resolve_right (by rw [h1]; simp)
        rw [Od.lin.tr _ _ _ e1 z] at h2; cases h2
  · cases e : Od.lt b a with
    | false => simp
    | true => simp [Od.lin.asym e]
end
/-! ### keys of dicts -/
class Ky (α : Type) [En α] where
  kd : Nat
  sc : Bool
  key : ∀ a : α, ∃ n, nk (enc a) = some n ∧ n.depth ≤ kd
  scl : ∀ a : α, scal (enc a) = sc
instance iKyInt : Ky Int := ⟨0, true, fun a => ⟨.num a, rfl, by simp [NestedKey.depth]⟩, fun _ => rfl⟩
instance iKyNat : Ky Nat := ⟨0, true, fun a => ⟨.num a, rfl, by simp [NestedKey.depth]⟩, fun _ => rfl⟩
instance iKyStr : Ky Str := ⟨0, true, fun a => ⟨.text a, rfl, by simp [NestedKey.depth]⟩, fun _ => rfl⟩
theorem nks_map {α : Type} [En α] [Ky α] : ∀ xs : List α, ∃ ns, nks (xs.map enc) = some ns ∧ NestedKey.depthAll ns ≤ Ky.kd α
  | [] => ⟨[], rfl, by simp [NestedKey.depthAll]⟩
  | x :: xs => by
    obtain ⟨n, h1, h2⟩ := Ky.key x
    obtain ⟨ns, h3, h4⟩ := nks_map xs
    refine ⟨n :: ns, by simp [nks, h1, h3], ?_⟩
    simp only [NestedKey.depthAll]
    exact Nat.max_le.mpr ⟨h2, h4⟩
instance iKyList {α : Type} [En α] [Ky α] : Ky (List α) := ⟨Ky.kd α + 1, false, fun a => by
  obtain ⟨ns, h1, h2⟩ := nks_map a
  exact ⟨.tup ns, by show (nks (a.map enc)).map NestedKey.tup = _; rw [h1]; rfl, by simp only [NestedKey.depth]; omega⟩, fun _ => rfl⟩
instance iKyProd {α β : Type} [En α] [Ky α] [En β] [Ky β] : Ky (α × β) := ⟨max (Ky.kd α) (Ky.kd β) + 1, false, fun a => by
  obtain ⟨n, h1, h2⟩ := Ky.key a.1
  obtain ⟨m, h3, h4⟩ := Ky.key a.2
  refine ⟨.tup [n, m], by show (nks [enc a.1, enc a.2]).map NestedKey.tup = _; simp [nks, h1, h3], ?_⟩
  simp only [NestedKey.depth, NestedKey.depthAll]
  have := Nat.le_max_left (Ky.kd α) (Ky.kd β)
  have := Nat.le_max_right (Ky.kd α) (Ky.kd β)
  simp
  omega, fun _ => rfl⟩
/-- a dict's pairs -/
def encKV {κ ν : Type} [En κ] [En ν] (kvs : List (κ × ν)) : List (D × D) := kvs.map fun p => (enc p.1, enc p.2)
/-- d[k] -/
def lk {κ ν : Type} [DecidableEq κ] (kvs : List (κ × ν)) (k : κ) : Option ν := (kvs.find? fun p => decide (p.1 = k)).map (·.2)
/-- d[k] = v -/
def pt {κ ν : Type} [DecidableEq κ] (kvs : List (κ × ν)) (k : κ) (v : ν) : List (κ × ν) := if kvs.any (fun p => decide (p.1 = k)) then kvs.map (fun p => if p.1 = k then (p.1, v) else p) else kvs ++ [(k, v)]
section
variable {κ ν : Type} [En κ] [DecidableEq κ] [Dt κ] [Ky κ] [En ν]
theorem keyOkE (kvs : List (κ × ν)) (k : κ) (h : Ky.kd κ ≤ 8 := by decide) : keyOk (encKV kvs) (enc k) = true := by
  obtain ⟨n, h1, h2⟩ := Ky.key k
  unfold keyOk encKV
  rw [h1, Bool.and_eq_true]
  refine ⟨by show decide (n.depth ≤ 8) = true; exact decide_eq_true (by omega), ?_⟩
  rw [List.all_map, List.all_eq_true]
  intro p _
  show (scal (enc p.1) == scal (enc k)) = true
  rw [Ky.scl, Ky.scl]
  simp
theorem lookE (kvs : List (κ × ν)) (k : κ) : lookD (encKV kvs) (enc k) = (lk kvs k).map enc := by
  unfold lookD lk encKV
  rw [List.find?_map]
  have : ((fun p : D × D => deq p.1 (enc k)) ∘ fun p : κ × ν => (enc p.1, enc p.2)) = fun p => decide (p.1 = k) := by
    funext p; exact Dt.eqv p.1 k
  rw [this, Option.map_map, Option.map_map]
  rfl
theorem anyKE (kvs : List (κ × ν)) (k : κ) : ((encKV kvs).any fun p => deq p.1 (enc k)) = decide (k ∈ kvs.map (·.1)) := by
  unfold encKV
  rw [List.any_map, Bool.eq_iff_iff, List.any_eq_true, decide_eq_true_eq, List.mem_map]
  constructor
  · rintro ⟨p, hp, h⟩
    have h : deq (enc p.1) (enc k) = true := h
    rw [Dt.eqv, decide_eq_true_eq] at h
    exact ⟨p, hp, h⟩
  · rintro ⟨p, hp, rfl⟩
    exact ⟨p, hp, by show deq (enc p.1) (enc p.1) = true; rw [Dt.eqv]; simp⟩
theorem putE (kvs : List (κ × ν)) (k : κ) (v : ν) : putD (encKV kvs) (enc k) (enc v) = encKV (pt kvs k v) := by
  unfold putD pt
  have e : ((encKV kvs).any fun p => deq p.1 (enc k)) = kvs.any fun p => decide (p.1 = k) := by
    unfold encKV
    rw [List.any_map]
    congr 1
    funext p; exact Dt.eqv p.1 k
  rw [e]
  split
  · unfold encKV
    rw [List.map_map, List.map_map]
    refine List.map_congr_left fun p _ => ?_
    show (if deq (enc p.1) (enc k) = true then ((enc p.1 : D), (enc v : D)) else (enc p.1, enc p.2)) = _
    rw [Dt.eqv]
    by_cases h : p.1 = k
    · simp [h]
    · simp [h]
  · unfold encKV
    rw [List.map_append]; rfl
end
end PL
/-! TL2: how expressions are evaluated, typed. -/
namespace PL
open PySem PySem.Spec PyProof.Rows L2
open En
def Ev (C : PC) (e : IE) (ρ : PEnv) (r : RV) (ρ' : PEnv) : Prop := ∀ Q : RK, Q r ρ' → wpE C e ρ Q
def Kp (r : RV) (d : D) : Prop := ∀ K : D → Prop, K d → r.kept K
def EvK (C : PC) (e : IE) (ρ : PEnv) (d : D) (ρ' : PEnv) : Prop := ∃ r, Ev C e ρ r ρ' ∧ Kp r d
def EvA (C : PC) (b : Bool) (as : IE) (ρ : PEnv) (ds : List D) (ρ' : PEnv) : Prop := ∀ Q : AK, Q ds ρ' → wpA C b as ρ Q
def EvI (C : PC) (b : Bool) (it : IE) (ρ : PEnv) (ds : List D) (ρ' : PEnv) : Prop := ∀ Q : AK, (ds.length ≤ sizeLine → Q ds ρ') → wpI C b it ρ Q
def BinR (o : Op2) (a b : D) (r : RV) : Prop := ∀ Q : RV → Prop, Q r → binP o a b Q
def CmpR (c : Cm) (a b : D) (t : Bool) : Prop := ∀ Q : Bool → Prop, Q t → cmpP c a b Q
def IdxR (a b d : D) : Prop := ∀ Q : D → Prop, Q d → idxP a b Q
def SlcR (a : D) (l h : Option Int) (r : RV) : Prop := ∀ Q : RV → Prop, Q r → slcP a l h Q
def BltR (f : BI) (as : List D) (r : RV) : Prop := ∀ Q : RV → Prop, Q r → bltP f as Q
def MthR (m : MT) (a : D) (as : List D) (r : RV) : Prop := recvOk m a = true ∧ ∀ Q : RV → Prop, Q r → mthP m a as Q
def TruR (d : D) (b : Bool) : Prop := truthD d = some b
def TgR (tg : Tg) (d : D) (ρ ρ' : PEnv) : Prop := ∀ Q : PEnv → Prop, Q ρ' → tgP tg d ρ Q
/-- what is walked over, as data -/
def ItmR (d : D) (ds : List D) : Prop := itemsD d = some ds ∧ (isRng d = true → ds.length ≤ sizeLine)
def SeqR (d : D) (ds : List D) : Prop := seqD d = some ds
def VlR (S : Spec) (ds : List D) (r : RV) : Prop := ∀ dr (Q : RV → Nat → Prop) xe, Q r dr → S ds dr Q xe
variable {C : PC} {ρ ρ' ρ1 ρ2 ρ3 : PEnv} {r s t : RV} {d d' : D}
theorem kp_val : Kp (.val d) d := fun _ h => h
theorem kp_own {xs : List D} : Kp (.own xs) (.lst xs) := fun _ h => h
theorem kp_owd {xs : List (D × D)} : Kp (.owd xs) (.dct xs) := fun _ h => h
theorem evk {e : IE} (h : Ev C e ρ r ρ') (k : Kp r d) : EvK C e ρ d ρ' := ⟨r, h, k⟩
/-! ### atoms -/
theorem ev_cst : Ev C (.cst d) ρ (.val d) ρ := fun _ q => q
theorem ev_var {i : Nat} (h : ρ.get i = .val d) : Ev C (.var i) ρ (.val d) ρ := fun Q q => by show rdV ρ i Q; unfold rdV; rw [h]; exact q
theorem ev_varO {i : Nat} {xs : List D} (h : ρ.get i = .own xs) : Ev C (.var i) ρ (.val (.lst xs)) (ρ.put i (.val (.lst xs))) := fun Q q => by show rdV ρ i Q; unfold rdV; rw [h]; exact q
theorem ev_varD {i : Nat} {xs : List (D × D)} (h : ρ.get i = .owd xs) : Ev C (.var i) ρ (.val (.dct xs)) (ρ.put i (.val (.dct xs))) := fun Q q => by show rdV ρ i Q; unfold rdV; rw [h]; exact q
theorem ev_bor {i : Nat} (h : ρ.get i = .val d) : Ev C (.bor i) ρ (.val d) ρ := fun Q q => by show rdB ρ i Q; unfold rdB; rw [h]; exact q
theorem ev_borO {i : Nat} {xs : List D} (h : ρ.get i = .own xs) : Ev C (.bor i) ρ (.brw (.lst xs)) ρ := fun Q q => by show rdB ρ i Q; unfold rdB; rw [h]; exact q
theorem ev_borD {i : Nat} {xs : List (D × D)} (h : ρ.get i = .owd xs) : Ev C (.bor i) ρ (.brw (.dct xs)) ρ := fun Q q => by show rdB ρ i Q; unfold rdB; rw [h]; exact q
/-! ### operators -/
theorem ev_bin {o : Op2} {a b : IE} (ha : Ev C a ρ r ρ1) (hb : Ev C b ρ1 s ρ2) (h : BinR o r.toD s.toD t) : Ev C (.bin o a b) ρ t ρ2 := fun Q q => ha _ (hb _ (h (fun z => Q z ρ2) q))
theorem ev_neg {a : IE} {i : Int} (ha : Ev C a ρ r ρ1) (h : r.toD = .int i) : Ev C (.neg a) ρ (.val (.int (-i))) ρ1 := fun Q q => ha _ ⟨i, h, q⟩
theorem ev_cmp {c : Cm} {a b : IE} {x : Bool} (ha : Ev C a ρ r ρ1) (hb : Ev C b ρ1 s ρ2) (h : CmpR c r.toD s.toD x) : Ev C (.cmp c a b) ρ (.val (.bl x)) ρ2 := fun Q q => ha _ (hb _ (h (fun z => Q (.val (.bl z)) ρ2) q))
theorem ev_cmp2 {c c' : Cm} {a b e : IE} {x y : Bool} (ha : Ev C a ρ r ρ1) (hb : Ev C b ρ1 s ρ2) (h : CmpR c r.toD s.toD x) (he : Ev C e ρ2 t ρ2) (h' : CmpR c' s.toD t.toD y) : Ev C (.cmp2 c c' a b e) ρ (.val (.bl (x && y))) ρ2 := fun Q q => ha _ (hb _ (h _ ⟨fun hx => he _ (h' (fun z => Q (.val (.bl z)) ρ2) (by rw [hx] at q; exact q)), fun hx => by rw [hx] at q; exact q⟩))
theorem ev_tst {a : IE} {b : Bool} (ha : Ev C a ρ r ρ1) (h : TruR r.toD b) : Ev C (.tst a) ρ (.val (.bl b)) ρ1 := fun Q q => ha _ ⟨b, h, q⟩
theorem ev_and {a b : IE} {x y : Bool} (ha : Ev C a ρ (.val (.bl x)) ρ1) (hb : x = true → Ev C b ρ1 (.val (.bl y)) ρ1) : Ev C (.and a b) ρ (.val (.bl (x && y))) ρ1 := fun Q q => ha _ ⟨x, rfl, fun hx => hb hx _ (by rw [hx] at q; exact q), fun hx => by rw [hx] at q; exact q⟩
theorem ev_or {a b : IE} {x y : Bool} (ha : Ev C a ρ (.val (.bl x)) ρ1) (hb : x = false → Ev C b ρ1 (.val (.bl y)) ρ1) : Ev C (.or a b) ρ (.val (.bl (x || y))) ρ1 := fun Q q => ha _ ⟨x, rfl, fun hx => by rw [hx] at q; exact q, fun hx => hb hx _ (by rw [hx] at q; exact q)⟩
theorem ev_andF {a b : IE} (ha : Ev C a ρ (.val (.bl false)) ρ1) : Ev C (.and a b) ρ (.val (.bl false)) ρ1 := fun Q q => ha _ ⟨false, rfl, (fun h => nomatch h), fun _ => q⟩
theorem ev_orT {a b : IE} (ha : Ev C a ρ (.val (.bl true)) ρ1) : Ev C (.or a b) ρ (.val (.bl true)) ρ1 := fun Q q => ha _ ⟨true, rfl, (fun _ => q), fun h => nomatch h⟩
theorem ev_not {a : IE} {x : Bool} (ha : Ev C a ρ (.val (.bl x)) ρ1) : Ev C (.not a) ρ (.val (.bl (!x))) ρ1 := fun Q q => ha _ ⟨x, rfl, q⟩
theorem ev_ite {c a b : IE} {k : Bool} {x y : D} (hc : Ev C c ρ (.val (.bl k)) ρ1) (ha : k = true → Ev C a ρ1 (.val x) ρ1) (hb : k = false → Ev C b ρ1 (.val y) ρ1) : Ev C (.ite c a b) ρ (.val (if k = true then x else y)) ρ1 := fun Q q => hc _ ⟨k, rfl, fun hx => ha hx _ (by rw [if_pos hx] at q; exact q), fun hx => hb hx _ (by rw [if_neg (by rw [hx]; exact Bool.false_ne_true)] at q; exact q)⟩
theorem ev_tup {as : IE} {ds : List D} (ha : EvA C false as ρ ds ρ1) (hz : ds.length ≤ sizeLine) : Ev C (.tup as) ρ (.val (.tup ds)) ρ1 := fun Q q => ha _ ⟨hz, q⟩
theorem ev_lst {as : IE} {ds : List D} (ha : EvA C false as ρ ds ρ1) (hz : ds.length ≤ sizeLine) : Ev C (.lst as) ρ (.own ds) ρ1 := fun Q q => ha _ ⟨hz, q⟩
theorem ev_dnew : Ev C .dnew ρ (.owd []) ρ := fun _ q => q
theorem ev_idx {a b : IE} (ha : Ev C a ρ r ρ1) (hb : Ev C b ρ1 s ρ2) (h : IdxR r.toD s.toD d) : Ev C (.idx a b) ρ (.val d) ρ2 := fun Q q => ha _ (hb _ (h (fun z => Q (.val z) ρ2) q))
theorem ev_rev {a : IE} (ha : Ev C a ρ r ρ1) (h : ∀ Q : RV → Prop, Q t → revP r.toD Q) : Ev C (.rev a) ρ t ρ1 := fun Q q => ha _ (h (fun z => Q z ρ1) q)
theorem ev_slc0 {a : IE} (ha : Ev C a ρ r ρ1) (h : SlcR r.toD none none t) : Ev C (.slc a (.cst .non) (.cst .non)) ρ t ρ1 := fun Q q => ha _ (h (fun z => Q z ρ1) q)
theorem ev_slcF {a lo : IE} {i : Int} (hm : isMiss lo = false) (ha : Ev C a ρ r ρ1) (hl : Ev C lo ρ1 s ρ2) (hi : s.toD = .int i) (h : SlcR r.toD (some i) none t) : Ev C (.slc a lo (.cst .non)) ρ t ρ2 := fun Q q => ha _ (by
  show optP (isMiss lo) (wpE C lo) ρ1 _
  unfold optP
  rw [hm, if_neg Bool.false_ne_true]
  exact hl _ ⟨i, hi, h (fun z => Q z ρ2) q⟩)
theorem ev_slcT {a hi : IE} {i : Int} (hm : isMiss hi = false) (ha : Ev C a ρ r ρ1) (hl : Ev C hi ρ1 s ρ2) (he : s.toD = .int i) (h : SlcR r.toD none (some i) t) : Ev C (.slc a (.cst .non) hi) ρ t ρ2 := fun Q q => ha _ (by
  show optP (isMiss hi) (wpE C hi) ρ1 (fun h ρ3 => slcP r.toD none h fun r => Q r ρ3)
  unfold optP
  rw [hm, if_neg Bool.false_ne_true]
  exact hl _ ⟨i, he, h (fun z => Q z ρ2) q⟩)
theorem ev_slc2 {a lo hi : IE} {i j : Int} {s' : RV} (hm : isMiss lo = false) (hm' : isMiss hi = false) (ha : Ev C a ρ r ρ1) (hl : Ev C lo ρ1 s ρ2) (hi' : s.toD = .int i) (hh : Ev C hi ρ2 s' ρ3) (hj : s'.toD = .int j) (h : SlcR r.toD (some i) (some j) t) : Ev C (.slc a lo hi) ρ t ρ3 := fun Q q => ha _ (by
  show optP (isMiss lo) (wpE C lo) ρ1 _
  unfold optP
  rw [hm, if_neg Bool.false_ne_true]
  refine hl _ ⟨i, hi', ?_⟩
  show optP (isMiss hi) (wpE C hi) ρ2 (fun h ρ3 => slcP r.toD (some i) h fun r => Q r ρ3)
  unfold optP
  rw [hm', if_neg Bool.false_ne_true]
  exact hh _ ⟨j, hj, h (fun z => Q z ρ3) q⟩)
theorem ev_call {f : Nat} {as : IE} {ds : List D} {S : Spec} (hS : C.sp f = S) (ha : EvA C false as ρ ds ρ1) (h : VlR S ds r) : Ev C (.call f as) ρ r ρ1 := fun Q q => ha _ (by rw [hS]; exact h _ _ _ q)
theorem ev_blt {f : BI} {as : IE} {ds : List D} (ha : EvA C true as ρ ds ρ1) (h : BltR f ds r) : Ev C (.blt f as) ρ r ρ1 := fun Q q => ha _ (h (fun z => Q z ρ1) q)
theorem ev_isi {a : IE} {ty : Ty} {b : Bool} (ha : Ev C a ρ r ρ1) (h : hasTy r.toD = true) (hb : isTy ty r.toD = b) : Ev C (.isi a ty) ρ (.val (.bl b)) ρ1 := fun Q q => ha _ ⟨h, by rw [hb]; exact q⟩
theorem ev_mth {m : MT} {a as : IE} {ds : List D} (ha : Ev C a ρ r ρ1) (hs : EvA C (lends m) as ρ1 ds ρ2) (h : MthR m r.toD ds t) : Ev C (.mth m a as) ρ t ρ2 := fun Q q => ha _ ⟨h.1, hs _ (h.2 (fun z => Q z ρ2) q)⟩
/-! ### lists of expressions -/
theorem eva_nil {b : Bool} : EvA C b .anil ρ [] ρ := fun _ q => q
theorem eva_T {a as : IE} {ds : List D} (ha : Ev C a ρ r ρ1) (hd : r.toD = d) (hs : EvA C true as ρ1 ds ρ2) : EvA C true (.acons a as) ρ (d :: ds) ρ2 := fun Q q => ha _ (by show wpA C true as ρ1 _; rw [hd]; exact hs _ q)
theorem eva_F {a as : IE} {ds : List D} (ha : Ev C a ρ r ρ1) (hd : Kp r d) (hs : EvA C false as ρ1 ds ρ2) : EvA C false (.acons a as) ρ (d :: ds) ρ2 := fun Q q => ha _ (hd _ (hs _ q))
/-! ### what is walked -/
theorem evi_T {a : IE} {ds : List D} (ha : Ev C a ρ r ρ1) (h : ItmR r.toD ds) : EvI C true (.itSeq a) ρ ds ρ1 := fun Q q => ha _ ⟨ds, h.1, fun hz => q (by
  cases e : isRng r.toD with
  | true => exact h.2 e
  | false => exact hz e)⟩
theorem evi_F {a : IE} {ds : List D} (ha : Ev C a ρ r ρ1) (hd : Kp r d) (h : ItmR d ds) : EvI C false (.itSeq a) ρ ds ρ1 := fun Q q => ha _ (hd _ ⟨ds, h.1, fun hz => q (by
  cases e : isRng d with
  | true => exact h.2 e
  | false => exact hz e)⟩)
theorem evi_r1 {b : Bool} {a : IE} {n : Nat} (ha : Ev C a ρ r ρ1) (h : r.toD = .int (n : Nat)) (hz : n ≤ 16777216) : EvI C b (.itR1 a) ρ ((List.range n).map enc) ρ1 := fun Q q => ha _ ⟨n, h, ⟨by omega, by omega⟩, by
  have : rngL 0 (n : Nat) = (List.range n).map enc := by
    unfold rngL
    rw [Int.sub_zero, Int.toNat_natCast]
    exact List.map_congr_left fun i _ => by rw [Int.zero_add]; rfl
  rw [this]
  exact q (by rw [List.length_map, List.length_range, sizeLine_eq]; exact hz)⟩
theorem evi_r2 {b : Bool} {a e : IE} {n m : Nat} (ha : Ev C a ρ r ρ1) (he : Ev C e ρ1 s ρ2) (h : r.toD = .int (n : Nat)) (h' : s.toD = .int (m : Nat)) (hz : m ≤ 16777216) (hz' : n ≤ 16777216) : EvI C b (.itR2 a e) ρ ((List.range' n (m - n)).map enc) ρ2 := fun Q q => ha _ (he _ ⟨n, m, h, h', ⟨⟨by omega, by omega⟩, by omega, by omega⟩, by
  have : rngL (n : Nat) (m : Nat) = (List.range' n (m - n)).map enc := by
    unfold rngL
    rw [show ((m : Int) - (n : Int)).toNat = m - n by omega, List.range'_eq_map_range, List.map_map]
    exact List.map_congr_left fun i _ => by show D.int _ = D.int _; congr 1
  rw [this]
  exact q (by rw [List.length_map, List.length_range', sizeLine_eq]; omega)⟩)
theorem evi_r21 {b : Bool} {a e : IE} {m : Nat} (ha : Ev C a ρ r ρ1) (he : Ev C e ρ1 s ρ2) (h : r.toD = .int 1) (h' : s.toD = .int (m : Nat)) (hz : m ≤ 16777216) : EvI C b (.itR2 a e) ρ ((List.range' 1 (m - 1)).map enc) ρ2 := evi_r2 (n := 1) ha he h h' hz (by decide)
theorem evi_zipT {α β : Type} {_ : En α} {_ : En β} {a c : IE} {xs : List α} {ys : List β} (ha : Ev C a ρ r ρ1) (hc : Ev C c ρ1 s ρ2) (h1 : SeqR r.toD (xs.map enc)) (h2 : SeqR s.toD (ys.map enc)) : EvI C true (.itZip a c) ρ ((xs.zip ys).map enc) ρ2 := fun Q q => ha _ (hc _ ⟨_, _, h1, h2, fun hz => by
  rw [List.zip_map, List.map_map]
  refine q ?_
  rw [List.length_map, List.length_zip]; rw [List.length_map] at hz; omega⟩)
theorem evi_zipF {α β : Type} {_ : En α} {_ : En β} {a c : IE} {d e : D} {xs : List α} {ys : List β} (ha : Ev C a ρ r ρ1) (k1 : Kp r d) (hc : Ev C c ρ1 s ρ2) (k2 : Kp s e) (h1 : SeqR d (xs.map enc)) (h2 : SeqR e (ys.map enc)) : EvI C false (.itZip a c) ρ ((xs.zip ys).map enc) ρ2 := fun Q q => ha _ (k1 _ (hc _ (k2 _ ⟨_, _, h1, h2, fun hz => by
  rw [List.zip_map, List.map_map]
  refine q ?_
  rw [List.length_map, List.length_zip]; rw [List.length_map] at hz; omega⟩)))
/-- triples -/
def enc3 {α β γ : Type} [En α] [En β] [En γ] (p : α × β × γ) : D := .tup [enc p.1, enc p.2.1, enc p.2.2]
theorem evi_zip3T {α β γ : Type} {_ : En α} {_ : En β} {_ : En γ} {a c e : IE} {xs : List α} {ys : List β} {zs : List γ} (ha : Ev C a ρ r ρ1) (hc : Ev C c ρ1 s ρ2) (he : Ev C e ρ2 t ρ3) (h1 : SeqR r.toD (xs.map enc)) (h2 : SeqR s.toD (ys.map enc)) (h3 : SeqR t.toD (zs.map enc)) : EvI C true (.itZip3 a c e) ρ ((xs.zip (ys.zip zs)).map enc3) ρ3 := fun Q q => ha _ (hc _ (he _ ⟨_, _, _, h1, h2, h3, fun hz => by
  rw [List.zip_map, List.zip_map, List.map_map]
  refine q ?_
  rw [List.length_map, List.length_zip]; rw [List.length_map] at hz; omega⟩))
theorem evi_enumT {α : Type} {_ : En α} {a : IE} {xs : List α} (ha : Ev C a ρ r ρ1) (h1 : SeqR r.toD (xs.map enc)) : EvI C true (.itEnum a) ρ ((xs.mapIdx fun k x => (k, x)).map enc) ρ1 := fun Q q => ha _ ⟨_, h1, fun hz => by
  have : (xs.map enc).mapIdx (fun k d => D.tup [.int (k : Nat), d]) = (xs.mapIdx fun k x => (k, x)).map enc := by
    apply List.ext_getElem
    · simp
    · intro i h1 h2; simp [enc]
  rw [this]
  refine q ?_
  rw [List.length_map, List.length_mapIdx]; rw [List.length_map] at hz; exact hz⟩
theorem evi_itemsT {κ ν : Type} {_ : En κ} {_ : En ν} {a : IE} {kvs : List (κ × ν)} (ha : Ev C a ρ r ρ1) (h1 : r.toD = .dct (encKV kvs)) : EvI C true (.itItems a) ρ (kvs.map enc) ρ1 := fun Q q => ha _ ⟨_, h1, fun hz => by
  unfold encKV at *
  rw [List.map_map]
  refine q ?_
  rw [List.length_map]; rw [List.length_map] at hz; exact hz⟩
theorem evi_itemsF {κ ν : Type} {_ : En κ} {_ : En ν} {a : IE} {d : D} {kvs : List (κ × ν)} (ha : Ev C a ρ r ρ1) (k : Kp r d) (h1 : d = .dct (encKV kvs)) : EvI C false (.itItems a) ρ (kvs.map enc) ρ1 := fun Q q => ha _ (k _ ⟨_, h1, fun hz => by
  unfold encKV at *
  rw [List.map_map]
  refine q ?_
  rw [List.length_map]; rw [List.length_map] at hz; exact hz⟩)
theorem itm_tup {ds : List D} : ItmR (.tup ds) ds := ⟨rfl, fun h => by cases h⟩
theorem itm_lst {ds : List D} : ItmR (.lst ds) ds := ⟨rfl, fun h => by cases h⟩
theorem itm_dct {κ ν : Type} [En κ] [En ν] {kvs : List (κ × ν)} : ItmR (.dct (encKV kvs)) ((kvs.map (·.1)).map enc) := ⟨by unfold encKV; show some _ = _; rw [List.map_map, List.map_map]; rfl, fun h => by cases h⟩
theorem itm_rng {n : Nat} (hz : n ≤ 16777216) : ItmR (.rng 0 (n : Nat)) ((List.range n).map enc) := ⟨by
  show some (rngL 0 (n : Nat)) = _
  congr 1
  unfold rngL
  rw [Int.sub_zero, Int.toNat_natCast]
  exact List.map_congr_left fun i _ => by rw [Int.zero_add]; rfl, fun _ => by rw [List.length_map, List.length_range, sizeLine_eq]; exact hz⟩
theorem sq_tup {ds : List D} : SeqR (.tup ds) ds := rfl
theorem sq_lst {ds : List D} : SeqR (.lst ds) ds := rfl
/-! ### targets -/
theorem tg_nm {i : Nat} : TgR (.nm i) d ρ (ρ.put i (.val d)) := fun _ q => q
theorem tg_tp1 {i : Nat} {a : D} : TgR (.tp [i]) (.tup [a]) ρ (ρ.put i (.val a)) := fun _ q => ⟨_, _, rfl, rfl, q⟩
theorem tg_tp2 {i j : Nat} {a b : D} : TgR (.tp [i, j]) (.tup [a, b]) ρ ((ρ.put i (.val a)).put j (.val b)) := fun _ q => ⟨_, _, rfl, rfl, q⟩
theorem tg_tp3 {i j k : Nat} {a b c : D} : TgR (.tp [i, j, k]) (.tup [a, b, c]) ρ (((ρ.put i (.val a)).put j (.val b)).put k (.val c)) := fun _ q => ⟨_, _, rfl, rfl, q⟩
theorem tg_tp4 {i j k l : Nat} {a b c e : D} : TgR (.tp [i, j, k, l]) (.tup [a, b, c, e]) ρ ((((ρ.put i (.val a)).put j (.val b)).put k (.val c)).put l (.val e)) := fun _ q => ⟨_, _, rfl, rfl, q⟩
/-! ### comprehensions -/
theorem ev_compG {α β : Type} {_ : En β} {vs : List Nat} {tg : Tg} {it c e : IE} {xs : List α} {f : α → D} {p : α → Bool} {g : α → β} {T : α → PEnv} (hp : ρ.plainAt vs = true) (hi : EvI C true it ρ (xs.map f) ρ1)
    (ht : ∀ x, TgR tg (f x) (ρ1.wipe vs) (T x)) (hw : ∀ x, (T x).wipe vs = ρ1.wipe vs) (hb : ρ1.back (ρ1.wipe vs) vs = ρ1) (hc : ∀ x ∈ xs, Ev C c (T x) (.val (.bl (p x))) (T x)) (he : ∀ x ∈ xs, p x = true → EvK C e (T x) (enc (g x)) (T x)) :
    Ev C (.comp vs tg it c e) ρ (.own (((xs.filter p).map g).map enc)) ρ1 := fun Q q => ⟨hp, hi _ fun hz => by
  rw [List.length_map] at hz
  refine comp_fm p (fun x => enc (g x)) xs [] (by simpa using hz) (fun a ha K k1 k2 => ?_) (by rw [hb, List.nil_append]; rw [List.map_map] at q; exact q)
  refine ht a _ (hc a ha _ ⟨p a, rfl, fun hx => ?_, fun hx => ?_⟩)
  · obtain ⟨r, h1, h2⟩ := he a ha hx
    refine h1 _ (h2 _ ?_)
    rw [hw]; exact k1 hx
  · rw [hw]; exact k2 hx⟩
theorem ev_comp {α β : Type} {_ : En α} {_ : En β} {vs : List Nat} {tg : Tg} {it c e : IE} {xs : List α} {p : α → Bool} {g : α → β} {T : α → PEnv} (hp : ρ.plainAt vs = true) (hi : EvI C true it ρ (xs.map enc) ρ1)
    (ht : ∀ x, TgR tg (enc x) (ρ1.wipe vs) (T x)) (hw : ∀ x, (T x).wipe vs = ρ1.wipe vs) (hb : ρ1.back (ρ1.wipe vs) vs = ρ1) (hc : ∀ x ∈ xs, Ev C c (T x) (.val (.bl (p x))) (T x)) (he : ∀ x ∈ xs, p x = true → EvK C e (T x) (enc (g x)) (T x)) :
    Ev C (.comp vs tg it c e) ρ (.own (((xs.filter p).map g).map enc)) ρ1 := ev_compG hp hi ht hw hb hc he
theorem ev_compAG {α β : Type} {_ : En β} {vs : List Nat} {tg : Tg} {it e : IE} {xs : List α} {f : α → D} {g : α → β} {T : α → PEnv} (hp : ρ.plainAt vs = true) (hi : EvI C true it ρ (xs.map f) ρ1)
    (ht : ∀ x, TgR tg (f x) (ρ1.wipe vs) (T x)) (hw : ∀ x, (T x).wipe vs = ρ1.wipe vs) (hb : ρ1.back (ρ1.wipe vs) vs = ρ1) (he : ∀ x ∈ xs, EvK C e (T x) (enc (g x)) (T x)) :
    Ev C (.comp vs tg it (.cst (.bl true)) e) ρ (.own ((xs.map g).map enc)) ρ1 := by
  have := ev_compG (p := fun _ => true) hp hi ht hw hb (fun x _ => ev_cst) (fun x hx _ => he x hx)
  rw [List.filter_eq_self.mpr (fun _ _ => rfl)] at this
  exact this
theorem ev_compA {α β : Type} {_ : En α} {_ : En β} {vs : List Nat} {tg : Tg} {it e : IE} {xs : List α} {g : α → β} {T : α → PEnv} (hp : ρ.plainAt vs = true) (hi : EvI C true it ρ (xs.map enc) ρ1)
    (ht : ∀ x, TgR tg (enc x) (ρ1.wipe vs) (T x)) (hw : ∀ x, (T x).wipe vs = ρ1.wipe vs) (hb : ρ1.back (ρ1.wipe vs) vs = ρ1) (he : ∀ x ∈ xs, EvK C e (T x) (enc (g x)) (T x)) :
    Ev C (.comp vs tg it (.cst (.bl true)) e) ρ (.own ((xs.map g).map enc)) ρ1 := ev_compAG hp hi ht hw hb he
/-- the element is the item itself -/
theorem ev_compI {α : Type} {_ : En α} {vs : List Nat} {i j : Nat} {it c : IE} {xs : List α} {p : α → Bool} {T : α → PEnv} (hp : ρ.plainAt vs = true) (hi : EvI C true it ρ (xs.map enc) ρ1)
    (ht : ∀ x, TgR (.nm i) (enc x) (ρ1.wipe vs) (T x)) (he : ∀ x, (T x).get j = .val (enc x)) (hw : ∀ x, (T x).wipe vs = ρ1.wipe vs) (hb : ρ1.back (ρ1.wipe vs) vs = ρ1) (hc : ∀ x ∈ xs, Ev C c (T x) (.val (.bl (p x))) (T x)) :
    Ev C (.comp vs (.nm i) it c (.var j)) ρ (.own ((xs.filter p).map enc)) ρ1 := by
  have := ev_compG (g := fun x => x) (e := .var j) hp hi ht hw hb hc (fun x _ _ => evk (ev_var (he x)) kp_val)
  rw [List.map_id'] at this
  exact this
/-! {k: v for ..} -/
theorem dcomp_G {α : Type} {vs : List Nat} {tg : Tg} {fc fk fv : PEnv → RK → Prop} {Q : List (D × D) → PEnv → Prop} {f : α → D} (p : α → Bool) (gk gv : α → D) : ∀ (xs : List α) (acc : List (D × D)), acc.length + xs.length ≤ sizeLine → (∀ a ∈ xs, ∀ l : List (D × D), (∀ q ∈ l, (∃ b ∈ xs, q.1 = gk b) ∨ ∃ q' ∈ acc, q.1 = q'.1) → keyOk l (gk a) = true) →
    (∀ a ∈ xs, ∀ (K : Option (D × D) → PEnv → Prop), (p a = true → K (some (gk a, gv a)) ρ) → (p a = false → K none ρ) → tgP tg (f a) ρ fun ρ1 => fc ρ1 fun c ρ2 => ∃ b, c = .val (.bl b) ∧ brn b (fk ρ2 fun k ρ3 => k.kept fun kd => fv ρ3 fun r ρ4 => r.kept fun vd => K (some (kd, vd)) (ρ4.wipe vs)) (K none (ρ2.wipe vs))) →
    Q ((xs.filter p).foldl (fun l a => putD l (gk a) (gv a)) acc) ρ → dcompL vs tg fc fk fv (xs.map f) ρ acc Q
  | [], acc, _, _, _, q => q
  | a :: xs, acc, hz, hk, h, q => by
    have hz' : acc.length + (xs.length + 1) ≤ sizeLine := hz
    have pl : ∀ (l : List (D × D)) (k v : D), (putD l k v).length ≤ l.length + 1 := fun l k v => by
      unfold putD
      split
      · rw [List.length_map]; omega
      · rw [List.length_append]; simp
    have pk : ∀ (l : List (D × D)) (k v : D) (q : D × D), q ∈ putD l k v → q.1 = k ∨ ∃ q' ∈ l, q.1 = q'.1 := fun l k v q hq => by
      unfold putD at hq
      split at hq
      · obtain ⟨q', h1, h2⟩ := List.mem_map.mp hq
        refine .inr ⟨q', h1, ?_⟩
        rw [← h2]; split <;> rfl
      · rcases List.mem_append.mp hq with h | h
        · exact .inr ⟨q, h, rfl⟩
        · rw [List.mem_singleton.mp h]; exact .inl rfl
    refine h a List.mem_cons_self (fun o ρ' => match o with | some (kd, vd) => keyOk acc kd = true ∧ acc.length < sizeLine ∧ dcompL vs tg fc fk fv (xs.map f) ρ' (putD acc kd vd) Q | none => dcompL vs tg fc fk fv (xs.map f) ρ' acc Q) (fun e => ?_) (fun e => ?_)
    · refine ⟨hk a List.mem_cons_self acc fun q hq => .inr ⟨q, hq, rfl⟩, by omega, ?_⟩
      refine dcomp_G p gk gv xs _ (by have := pl acc (gk a) (gv a); omega) (fun b hb l hl => hk b (List.mem_cons_of_mem _ hb) l fun q hq => ?_) (fun b hb => h b (List.mem_cons_of_mem _ hb)) (by rw [List.filter_cons, e] at q; exact q)
      rcases hl q hq with ⟨c, h1, h2⟩ | ⟨q', h1, h2⟩
      · exact .inl ⟨c, List.mem_cons_of_mem _ h1, h2⟩
      · rcases pk acc (gk a) (gv a) q' h1 with h3 | ⟨q2, h3, h4⟩
        · exact .inl ⟨a, List.mem_cons_self, h2.trans h3⟩
        · exact .inr ⟨q2, h3, h2.trans h4⟩
    · exact dcomp_G p gk gv xs acc (by omega) (fun b hb l hl => hk b (List.mem_cons_of_mem _ hb) l fun q hq => (hl q hq).imp (fun ⟨c, h1, h2⟩ => ⟨c, List.mem_cons_of_mem _ h1, h2⟩) id) (fun b hb => h b (List.mem_cons_of_mem _ hb)) (by rw [List.filter_cons, e] at q; exact q)
/-- a dict filled -/
def ptAll {κ ν : Type} [DecidableEq κ] (kvs : List (κ × ν)) : List (κ × ν) := kvs.foldl (fun l p => pt l p.1 p.2) []
theorem encKV_foldl {κ ν : Type} [En κ] [DecidableEq κ] [Dt κ] [Ky κ] [En ν] : ∀ (xs acc : List (κ × ν)), (xs.map fun p => (enc p.1, enc p.2)).foldl (fun l q => putD l q.1 q.2) (encKV acc) = encKV (xs.foldl (fun l p => pt l p.1 p.2) acc)
  | [], acc => rfl
  | p :: xs, acc => by
    rw [List.map_cons, List.foldl_cons, List.foldl_cons, putE]
    exact encKV_foldl xs _
theorem ev_dcompAG {α κ ν : Type} [En κ] [DecidableEq κ] [Dt κ] [Ky κ] [En ν] {vs : List Nat} {tg : Tg} {it ek ev : IE} {xs : List α} {f : α → D} {gk : α → κ} {gv : α → ν} {T : α → PEnv} (hp : ρ.plainAt vs = true) (hi : EvI C true it ρ (xs.map f) ρ1)
    (ht : ∀ x, TgR tg (f x) (ρ1.wipe vs) (T x)) (hw : ∀ x, (T x).wipe vs = ρ1.wipe vs) (hb : ρ1.back (ρ1.wipe vs) vs = ρ1) (he : ∀ x ∈ xs, EvK C ek (T x) (enc (gk x)) (T x)) (hv : ∀ x ∈ xs, EvK C ev (T x) (enc (gv x)) (T x)) (hd : Ky.kd κ ≤ 8 := by decide) :
    Ev C (.dcomp vs tg it (.cst (.bl true)) ek ev) ρ (.owd (encKV (ptAll (xs.map fun x => (gk x, gv x))))) ρ1 := fun Q q => ⟨hp, hi _ fun hz => by
  rw [List.length_map] at hz
  refine dcomp_G (ρ := ρ1.wipe vs) (fun _ => true) (fun x => enc (gk x)) (fun x => enc (gv x)) xs [] (by simpa using hz) (fun a ha l hl => ?_) (fun a ha K k1 k2 => ?_) ?_
  · obtain ⟨n, h1, h2⟩ := Ky.key (gk a)
    unfold keyOk
    rw [h1, Bool.and_eq_true]
    refine ⟨by show decide (n.depth ≤ 8) = true; exact decide_eq_true (by omega), ?_⟩
    rw [List.all_eq_true]
    intro q hq
    rcases hl q hq with ⟨b, _, e⟩ | ⟨q', h, _⟩
    · rw [e, Ky.scl, Ky.scl]; simp
    · cases h
  · refine ht a _ ⟨true, rfl, fun _ => ?_, fun h => by cases h⟩
    obtain ⟨r, h1, h2⟩ := he a ha
    obtain ⟨s, h3, h4⟩ := hv a ha
    refine h1 _ (h2 _ (h3 _ (h4 _ ?_)))
    rw [hw]; exact k1 rfl
  · rw [hb, List.filter_eq_self.mpr (fun _ _ => rfl)]
    have : xs.foldl (fun l a => putD l (enc (gk a)) (enc (gv a))) [] = encKV (ptAll (xs.map fun x => (gk x, gv x))) := by
      have := encKV_foldl (xs.map fun x => (gk x, gv x)) []
      rw [List.map_map, List.foldl_map] at this
      exact this
    rw [this]; exact q⟩
theorem ev_dcompA {α κ ν : Type} {_ : En α} {_ : En κ} {_ : En ν} {vs : List Nat} {tg : Tg} {it ek ev : IE} {xs : List α} {gk : α → κ} {gv : α → ν} {T : α → PEnv} (i1 : DecidableEq κ) (i2 : Dt κ) (i3 : Ky κ) (hp : ρ.plainAt vs = true) (hi : EvI C true it ρ (xs.map enc) ρ1)
    (ht : ∀ x, TgR tg (enc x) (ρ1.wipe vs) (T x)) (hw : ∀ x, (T x).wipe vs = ρ1.wipe vs) (hb : ρ1.back (ρ1.wipe vs) vs = ρ1) (he : ∀ x ∈ xs, EvK C ek (T x) (enc (gk x)) (T x)) (hv : ∀ x ∈ xs, EvK C ev (T x) (enc (gv x)) (T x)) (hd : Ky.kd κ ≤ 8) :
    Ev C (.dcomp vs tg it (.cst (.bl true)) ek ev) ρ (.owd (encKV (ptAll (xs.map fun x => (gk x, gv x))))) ρ1 := ev_dcompAG hp hi ht hw hb he hv hd
/-! two clauses -/
theorem compL_app {α : Type} {vs : List Nat} {tg : Tg} {fc fe : PEnv → RK → Prop} {Q : List D → PEnv → Prop} {f : α → D} (p : α → Bool) (g : α → D) : ∀ (xs : List α) (acc : List D), acc.length + xs.length ≤ sizeLine →
    (∀ a ∈ xs, ∀ K : Option D → PEnv → Prop, (p a = true → K (some (g a)) ρ) → (p a = false → K none ρ) → tgP tg (f a) ρ fun ρ1 => fc ρ1 fun c ρ2 => ∃ b, c = .val (.bl b) ∧ brn b (fe ρ2 fun r ρ3 => r.kept fun x => K (some x) (ρ3.wipe vs)) (K none (ρ2.wipe vs))) →
    Q (acc ++ (xs.filter p).map g) ρ → compL vs tg fc fe (xs.map f) ρ acc Q := comp_fm p g
theorem comp2_G {α β : Type} {vs vs1 : List Nat} {tg tg1 : Tg} {fc fc1 fe : PEnv → RK → Prop} {fi : PEnv → (List D → PEnv → Prop) → Prop} {Q : List D → PEnv → Prop} {f : α → D} {f1 : α → β → D} (p : α → Bool) (ys : α → List β) (G : α → List D) (N : Nat) : ∀ (xs : List α) (acc : List D),
    (∀ a ∈ xs, (G a).length ≤ N) → acc.length + N * xs.length ≤ sizeLine →
    (∀ a ∈ xs, ∀ K : PEnv → List D → Prop, ∀ acc : List D, acc.length + N ≤ sizeLine → (p a = true → K ρ (acc ++ G a)) → (p a = false → K ρ acc) → tgP tg (f a) ρ fun ρ1 => fc ρ1 fun c ρ2 => ∃ b, c = .val (.bl b) ∧
      brn b (fi ρ2 fun es ρ3 => compL vs1 tg1 fc1 fe es (ρ3.wipe vs1) acc fun acc' ρ4 => K (ρ4.wipe vs) acc') (K (ρ2.wipe vs) acc)) →
    Q (acc ++ ((xs.filter p).map G).flatten) ρ → compL2 vs vs1 tg fc fi tg1 fc1 fe (xs.map f) ρ acc Q
  | [], acc, _, _, _, q => by simpa [compL2] using q
  | a :: xs, acc, hG, hz, h, q => by
    have hm : N * (a :: xs).length = N * xs.length + N := by rw [List.length_cons, Nat.mul_add, Nat.mul_one]
    rw [hm] at hz
    have hga := hG a List.mem_cons_self
    refine h a List.mem_cons_self (fun ρ' acc' => compL2 vs vs1 tg fc fi tg1 fc1 fe (xs.map f) ρ' acc' Q) acc (by omega) (fun e => ?_) (fun e => ?_)
    · refine comp2_G (f1 := f1) p ys G N xs _ (fun b hb => hG b (List.mem_cons_of_mem _ hb)) (by rw [List.length_append]; omega) (fun b hb => h b (List.mem_cons_of_mem _ hb)) ?_
      rw [List.filter_cons, e] at q
      simpa [List.append_assoc] using q
    · refine comp2_G (f1 := f1) p ys G N xs acc (fun b hb => hG b (List.mem_cons_of_mem _ hb)) (by omega) (fun b hb => h b (List.mem_cons_of_mem _ hb)) ?_
      rw [List.filter_cons, e] at q
      exact q
/-- [g x y for x in xs if p x for y in ys x if p1 x y] -/
theorem ev_comp2 {α β γ : Type} {_ : En α} {_ : En β} {_ : En γ} {vs vs1 : List Nat} {tg tg1 : Tg} {it c it1 c1 e : IE} {xs : List α} {p : α → Bool} {ys : α → List β} {p1 : α → β → Bool} {g : α → β → γ} {T : α → PEnv} {T1 : α → β → PEnv} (N : Nat) (hp : ρ.plainAt vs = true) (hi : EvI C true it ρ (xs.map enc) ρ1)
    (ht : ∀ x, TgR tg (enc x) (ρ1.wipe vs) (T x)) (hw : ∀ x, (T x).wipe vs = ρ1.wipe vs) (hb : ρ1.back (ρ1.wipe vs) vs = ρ1) (hc : ∀ x ∈ xs, Ev C c (T x) (.val (.bl (p x))) (T x)) (hi1 : ∀ x ∈ xs, p x = true → EvI C false it1 (T x) ((ys x).map enc) (T x))
    (ht1 : ∀ x y, TgR tg1 (enc y) ((T x).wipe vs1) (T1 x y)) (hw1 : ∀ x y, (T1 x y).wipe vs1 = (T x).wipe vs1) (hw2 : ∀ x, ((T x).wipe vs1).wipe vs = ρ1.wipe vs)
    (hc1 : ∀ x ∈ xs, p x = true → ∀ y ∈ ys x, Ev C c1 (T1 x y) (.val (.bl (p1 x y))) (T1 x y)) (he : ∀ x ∈ xs, p x = true → ∀ y ∈ ys x, p1 x y = true → EvK C e (T1 x y) (enc (g x y)) (T1 x y)) (hN : ∀ x ∈ xs, (ys x).length ≤ N) (hz : N * xs.length ≤ sizeLine) :
    Ev C (.comp2 vs vs1 tg it c tg1 it1 c1 e) ρ (.own ((((xs.filter p).map fun x => ((ys x).filter (p1 x)).map (g x)).flatten).map enc)) ρ1 := fun Q q => ⟨hp, hi _ fun _ => by
  refine comp2_G (ρ := ρ1.wipe vs) (f1 := fun _ y => enc y) p ys (fun x => ((ys x).filter (p1 x)).map fun y => enc (g x y)) N xs [] (fun a ha => by rw [List.length_map]; exact Nat.le_trans (List.length_filter_le ..) (hN a ha)) (by simpa using hz) (fun a ha K acc hacc k1 k2 => ?_) ?_
  · refine ht a _ (hc a ha _ ⟨p a, rfl, fun hx => ?_, fun hx => ?_⟩)
    · refine hi1 a ha hx _ fun _ => ?_
      refine comp_fm (p1 a) (fun y => enc (g a y)) (ys a) acc (by have := hN a ha; omega) (fun b hb' K' k1' k2' => ?_) ?_
      · refine ht1 a b _ (hc1 a ha hx b hb' _ ⟨p1 a b, rfl, fun hy => ?_, fun hy => ?_⟩)
        · obtain ⟨r, h1, h2⟩ := he a ha hx b hb' hy
          refine h1 _ (h2 _ ?_)
          rw [hw1]; exact k1' hy
        · rw [hw1]; exact k2' hy
      · rw [hw2]; exact k1 hx
    · rw [hw]; exact k2 hx
  · rw [hb, List.nil_append]
    have : ((xs.filter p).map fun x => ((ys x).filter (p1 x)).map fun y => enc (g x y)).flatten = (((xs.filter p).map fun x => ((ys x).filter (p1 x)).map (g x)).flatten).map enc := by
      rw [List.map_flatten, List.map_map]
      congr 1
      refine List.map_congr_left fun x _ => ?_
      show _ = (((ys x).filter (p1 x)).map (g x)).map enc
      rw [List.map_map]
      rfl
    rw [this]; exact q⟩
end PL
/-! TL3: what operators give, typed. -/
namespace PL
open PySem PySem.Spec PyProof.Rows L2
open En
section
variable {α β : Type} [En α] [DecidableEq α] [Dt α]
/-! ### + - * // % -/
theorem bin_add {i j : Int} : BinR .add (.int i) (.int j) (.val (.int (i + j))) := fun _ q => q
theorem bin_sub {i j : Int} : BinR .sub (.int i) (.int j) (.val (.int (i - j))) := fun _ q => q
theorem bin_mul {i j : Int} (h : CMul i j) : BinR .mul (.int i) (.int j) (.val (.int (i * j))) := fun _ q => ⟨h, q⟩
theorem bin_fdiv {i j : Int} (h : CDivN i j) : BinR .fdiv (.int i) (.int j) (.val (.int (i.fdiv j))) := fun _ q => ⟨h, q⟩
theorem bin_mod {i j : Int} (h : j ≠ 0) : BinR .mod (.int i) (.int j) (.val (.int (i.fmod j))) := fun _ q => ⟨h, q⟩
theorem bin_addT {β : Type} [En β] {xs ys : List β} (h : xs.length + ys.length ≤ sizeLine) : BinR .add (.tup (xs.map enc)) (.tup (ys.map enc)) (.val (.tup ((xs ++ ys).map enc))) := fun _ q => ⟨by rw [List.length_map, List.length_map]; exact h, by rw [List.map_append] at q; exact q⟩
theorem bin_addT1 {β : Type} [En β] {xs : List β} {y : β} (h : xs.length + 1 ≤ sizeLine) : BinR .add (.tup (xs.map enc)) (.tup [enc y]) (.val (.tup ((xs ++ [y]).map enc))) := fun _ q => ⟨by rw [List.length_map]; exact h, by rw [List.map_append] at q; exact q⟩
theorem bin_add0T {β : Type} [En β] {ys : List β} (h : ys.length ≤ sizeLine) : BinR .add (.tup []) (.tup (ys.map enc)) (.val (.tup (ys.map enc))) := fun _ q => ⟨by rw [List.length_map, List.length_nil]; omega, q⟩
theorem bin_addL {β : Type} [En β] {xs ys : List β} (h : xs.length + ys.length ≤ sizeLine) : BinR .add (.lst (xs.map enc)) (.lst (ys.map enc)) (.own ((xs ++ ys).map enc)) := fun _ q => ⟨by rw [List.length_map, List.length_map]; exact h, by rw [List.map_append] at q; exact q⟩
theorem bin_addL0 {β : Type} [En β] {xs : List β} (h : xs.length ≤ sizeLine) : BinR .add (.lst (xs.map enc)) (.lst []) (.own (xs.map enc)) := fun _ q => ⟨by rw [List.length_map, List.length_nil]; exact h, by rw [List.append_nil]; exact q⟩
theorem bin_addL1 {β : Type} [En β] {xs : List β} {y : β} (h : xs.length + 1 ≤ sizeLine) : BinR .add (.lst (xs.map enc)) (.lst [enc y]) (.own ((xs ++ [y]).map enc)) := fun _ q => ⟨by rw [List.length_map]; exact h, by rw [List.map_append] at q; exact q⟩
theorem bin_repL {β : Type} [En β] {x : β} {k : Nat} (h : k ≤ 1000) : BinR .mul (.lst [enc x]) (.int (k : Nat)) (.own ((List.replicate k x).map enc)) := fun _ q => by
  refine ⟨⟨by omega, by omega, ?_⟩, ?_⟩
  · have := sizeLine_eq
    simp; omega
  · have e : (List.replicate (k : Int).toNat [enc x]).flatten = (List.replicate k x).map enc := by
      simp [List.map_replicate, List.flatten_replicate_singleton]
    rw [e]; exact q
/-! ### comparisons -/
theorem cmp_lt {i j : Int} : CmpR .lt (.int i) (.int j) (decide (i < j)) := fun _ q => q
theorem cmp_le {i j : Int} : CmpR .le (.int i) (.int j) (decide (i ≤ j)) := fun _ q => q
theorem cmp_gt {i j : Int} : CmpR .gt (.int i) (.int j) (decide (j < i)) := fun _ q => q
theorem cmp_ge {i j : Int} : CmpR .ge (.int i) (.int j) (decide (j ≤ i)) := fun _ q => q
theorem bin_addN {i j : Nat} : BinR .add (.int (i : Nat)) (.int (j : Nat)) (.val (.int ((i + j : Nat) : Int))) := fun _ q => q
theorem dec_iff {p q : Prop} [Decidable p] [Decidable q] (h : p ↔ q) : decide p = decide q := by
  by_cases hp : p
  · rw [decide_eq_true hp, decide_eq_true (h.mp hp)]
  · rw [decide_eq_false hp, decide_eq_false fun hq => hp (h.mpr hq)]
theorem cmp_ltN {i j : Nat} : CmpR .lt (.int (i : Nat)) (.int (j : Nat)) (decide (i < j)) := fun Q q => by show Q _; rw [dec_iff (Int.ofNat_lt (n := i) (m := j))]; exact q
theorem cmp_leN {i j : Nat} : CmpR .le (.int (i : Nat)) (.int (j : Nat)) (decide (i ≤ j)) := fun Q q => by show Q _; rw [dec_iff (Int.ofNat_le (m := i) (n := j))]; exact q
theorem cmp_gtN {i j : Nat} : CmpR .gt (.int (i : Nat)) (.int (j : Nat)) (decide (j < i)) := fun Q q => by show Q _; rw [dec_iff (Int.ofNat_lt (n := j) (m := i))]; exact q
theorem cmp_geN {i j : Nat} : CmpR .ge (.int (i : Nat)) (.int (j : Nat)) (decide (j ≤ i)) := fun Q q => by show Q _; rw [dec_iff (Int.ofNat_le (m := j) (n := i))]; exact q
theorem cmp_eqN {i j : Nat} : CmpR .eq (.int (i : Nat)) (.int (j : Nat)) (decide (i = j)) := fun Q q => by show Q _; rw [dec_iff (Int.ofNat_inj (m := i) (n := j))]; exact q
theorem cmp_neN {i j : Nat} : CmpR .ne (.int (i : Nat)) (.int (j : Nat)) (!decide (i = j)) := fun Q q => by show Q _; rw [dec_iff (Int.ofNat_inj (m := i) (n := j))]; exact q
theorem cmp_eqN0 {i : Nat} : CmpR .eq (.int (i : Nat)) (.int 0) (decide (i = 0)) := fun Q q => by show Q (decide ((i : Int) = 0)); rw [dec_iff (show ((i : Int) = 0) ↔ (i = 0) by omega)]; exact q
theorem cmp_ltN0 {i : Nat} : CmpR .lt (.int (i : Nat)) (.int 0) (decide (i < 0)) := fun Q q => by show Q (decide ((i : Int) < 0)); rw [dec_iff (show ((i : Int) < 0) ↔ (i < 0) by omega)]; exact q
theorem cmp_leN0 {i : Nat} : CmpR .le (.int (i : Nat)) (.int 0) (decide (i ≤ 0)) := fun Q q => by show Q (decide ((i : Int) ≤ 0)); rw [dec_iff (show ((i : Int) ≤ 0) ↔ (i ≤ 0) by omega)]; exact q
theorem cmp_gtN0 {i : Nat} : CmpR .gt (.int (i : Nat)) (.int 0) (decide (0 < i)) := fun Q q => by show Q (decide ((0 : Int) < (i : Int))); rw [dec_iff (show ((0 : Int) < (i : Int)) ↔ (0 < i) by omega)]; exact q
theorem cmp_geN0 {i : Nat} : CmpR .ge (.int (i : Nat)) (.int 0) (decide (0 ≤ i)) := fun Q q => by show Q (decide ((0 : Int) ≤ (i : Int))); rw [dec_iff (show ((0 : Int) ≤ (i : Int)) ↔ (0 ≤ i) by omega)]; exact q
theorem cmp_neN0 {i : Nat} : CmpR .ne (.int (i : Nat)) (.int 0) (!decide (i = 0)) := fun Q q => by show Q (!(decide ((i : Int) = 0))); rw [dec_iff (show ((i : Int) = 0) ↔ (i = 0) by omega)]; exact q
theorem cmp_eqN1 {i : Nat} : CmpR .eq (.int (i : Nat)) (.int 1) (decide (i = 1)) := fun Q q => by show Q (decide ((i : Int) = 1)); rw [dec_iff (show ((i : Int) = 1) ↔ (i = 1) by omega)]; exact q
theorem cmp_ltN1 {i : Nat} : CmpR .lt (.int (i : Nat)) (.int 1) (decide (i < 1)) := fun Q q => by show Q (decide ((i : Int) < 1)); rw [dec_iff (show ((i : Int) < 1) ↔ (i < 1) by omega)]; exact q
theorem cmp_leN1 {i : Nat} : CmpR .le (.int (i : Nat)) (.int 1) (decide (i ≤ 1)) := fun Q q => by show Q (decide ((i : Int) ≤ 1)); rw [dec_iff (show ((i : Int) ≤ 1) ↔ (i ≤ 1) by omega)]; exact q
theorem cmp_gtN1 {i : Nat} : CmpR .gt (.int (i : Nat)) (.int 1) (decide (1 < i)) := fun Q q => by show Q (decide ((1 : Int) < (i : Int))); rw [dec_iff (show ((1 : Int) < (i : Int)) ↔ (1 < i) by omega)]; exact q
theorem cmp_geN1 {i : Nat} : CmpR .ge (.int (i : Nat)) (.int 1) (decide (1 ≤ i)) := fun Q q => by show Q (decide ((1 : Int) ≤ (i : Int))); rw [dec_iff (show ((1 : Int) ≤ (i : Int)) ↔ (1 ≤ i) by omega)]; exact q
theorem cmp_neN1 {i : Nat} : CmpR .ne (.int (i : Nat)) (.int 1) (!decide (i = 1)) := fun Q q => by show Q (!(decide ((i : Int) = 1))); rw [dec_iff (show ((i : Int) = 1) ↔ (i = 1) by omega)]; exact q
theorem cmp_eqN2 {i : Nat} : CmpR .eq (.int (i : Nat)) (.int 2) (decide (i = 2)) := fun Q q => by show Q (decide ((i : Int) = 2)); rw [dec_iff (show ((i : Int) = 2) ↔ (i = 2) by omega)]; exact q
theorem cmp_ltN2 {i : Nat} : CmpR .lt (.int (i : Nat)) (.int 2) (decide (i < 2)) := fun Q q => by show Q (decide ((i : Int) < 2)); rw [dec_iff (show ((i : Int) < 2) ↔ (i < 2) by omega)]; exact q
theorem cmp_leN2 {i : Nat} : CmpR .le (.int (i : Nat)) (.int 2) (decide (i ≤ 2)) := fun Q q => by show Q (decide ((i : Int) ≤ 2)); rw [dec_iff (show ((i : Int) ≤ 2) ↔ (i ≤ 2) by omega)]; exact q
theorem cmp_gtN2 {i : Nat} : CmpR .gt (.int (i : Nat)) (.int 2) (decide (2 < i)) := fun Q q => by show Q (decide ((2 : Int) < (i : Int))); rw [dec_iff (show ((2 : Int) < (i : Int)) ↔ (2 < i) by omega)]; exact q
theorem cmp_geN2 {i : Nat} : CmpR .ge (.int (i : Nat)) (.int 2) (decide (2 ≤ i)) := fun Q q => by show Q (decide ((2 : Int) ≤ (i : Int))); rw [dec_iff (show ((2 : Int) ≤ (i : Int)) ↔ (2 ≤ i) by omega)]; exact q
theorem cmp_neN2 {i : Nat} : CmpR .ne (.int (i : Nat)) (.int 2) (!decide (i = 2)) := fun Q q => by show Q (!(decide ((i : Int) = 2))); rw [dec_iff (show ((i : Int) = 2) ↔ (i = 2) by omega)]; exact q
theorem cmp_eqN3 {i : Nat} : CmpR .eq (.int (i : Nat)) (.int 3) (decide (i = 3)) := fun Q q => by show Q (decide ((i : Int) = 3)); rw [dec_iff (show ((i : Int) = 3) ↔ (i = 3) by omega)]; exact q
theorem cmp_ltN3 {i : Nat} : CmpR .lt (.int (i : Nat)) (.int 3) (decide (i < 3)) := fun Q q => by show Q (decide ((i : Int) < 3)); rw [dec_iff (show ((i : Int) < 3) ↔ (i < 3) by omega)]; exact q
theorem cmp_leN3 {i : Nat} : CmpR .le (.int (i : Nat)) (.int 3) (decide (i ≤ 3)) := fun Q q => by show Q (decide ((i : Int) ≤ 3)); rw [dec_iff (show ((i : Int) ≤ 3) ↔ (i ≤ 3) by omega)]; exact q
theorem cmp_gtN3 {i : Nat} : CmpR .gt (.int (i : Nat)) (.int 3) (decide (3 < i)) := fun Q q => by show Q (decide ((3 : Int) < (i : Int))); rw [dec_iff (show ((3 : Int) < (i : Int)) ↔ (3 < i) by omega)]; exact q
theorem cmp_geN3 {i : Nat} : CmpR .ge (.int (i : Nat)) (.int 3) (decide (3 ≤ i)) := fun Q q => by show Q (decide ((3 : Int) ≤ (i : Int))); rw [dec_iff (show ((3 : Int) ≤ (i : Int)) ↔ (3 ≤ i) by omega)]; exact q
theorem cmp_neN3 {i : Nat} : CmpR .ne (.int (i : Nat)) (.int 3) (!decide (i = 3)) := fun Q q => by show Q (!(decide ((i : Int) = 3))); rw [dec_iff (show ((i : Int) = 3) ↔ (i = 3) by omega)]; exact q
theorem cmp_eqN4 {i : Nat} : CmpR .eq (.int (i : Nat)) (.int 4) (decide (i = 4)) := fun Q q => by show Q (decide ((i : Int) = 4)); rw [dec_iff (show ((i : Int) = 4) ↔ (i = 4) by omega)]; exact q
theorem cmp_ltN4 {i : Nat} : CmpR .lt (.int (i : Nat)) (.int 4) (decide (i < 4)) := fun Q q => by show Q (decide ((i : Int) < 4)); rw [dec_iff (show ((i : Int) < 4) ↔ (i < 4) by omega)]; exact q
theorem cmp_leN4 {i : Nat} : CmpR .le (.int (i : Nat)) (.int 4) (decide (i ≤ 4)) := fun Q q => by show Q (decide ((i : Int) ≤ 4)); rw [dec_iff (show ((i : Int) ≤ 4) ↔ (i ≤ 4) by omega)]; exact q
theorem cmp_gtN4 {i : Nat} : CmpR .gt (.int (i : Nat)) (.int 4) (decide (4 < i)) := fun Q q => by show Q (decide ((4 : Int) < (i : Int))); rw [dec_iff (show ((4 : Int) < (i : Int)) ↔ (4 < i) by omega)]; exact q
theorem cmp_geN4 {i : Nat} : CmpR .ge (.int (i : Nat)) (.int 4) (decide (4 ≤ i)) := fun Q q => by show Q (decide ((4 : Int) ≤ (i : Int))); rw [dec_iff (show ((4 : Int) ≤ (i : Int)) ↔ (4 ≤ i) by omega)]; exact q
theorem cmp_neN4 {i : Nat} : CmpR .ne (.int (i : Nat)) (.int 4) (!decide (i = 4)) := fun Q q => by show Q (!(decide ((i : Int) = 4))); rw [dec_iff (show ((i : Int) = 4) ↔ (i = 4) by omega)]; exact q
theorem cmp_eqN5 {i : Nat} : CmpR .eq (.int (i : Nat)) (.int 5) (decide (i = 5)) := fun Q q => by show Q (decide ((i : Int) = 5)); rw [dec_iff (show ((i : Int) = 5) ↔ (i = 5) by omega)]; exact q
theorem cmp_ltN5 {i : Nat} : CmpR .lt (.int (i : Nat)) (.int 5) (decide (i < 5)) := fun Q q => by show Q (decide ((i : Int) < 5)); rw [dec_iff (show ((i : Int) < 5) ↔ (i < 5) by omega)]; exact q
theorem cmp_leN5 {i : Nat} : CmpR .le (.int (i : Nat)) (.int 5) (decide (i ≤ 5)) := fun Q q => by show Q (decide ((i : Int) ≤ 5)); rw [dec_iff (show ((i : Int) ≤ 5) ↔ (i ≤ 5) by omega)]; exact q
theorem cmp_gtN5 {i : Nat} : CmpR .gt (.int (i : Nat)) (.int 5) (decide (5 < i)) := fun Q q => by show Q (decide ((5 : Int) < (i : Int))); rw [dec_iff (show ((5 : Int) < (i : Int)) ↔ (5 < i) by omega)]; exact q
theorem cmp_geN5 {i : Nat} : CmpR .ge (.int (i : Nat)) (.int 5) (decide (5 ≤ i)) := fun Q q => by show Q (decide ((5 : Int) ≤ (i : Int))); rw [dec_iff (show ((5 : Int) ≤ (i : Int)) ↔ (5 ≤ i) by omega)]; exact q
theorem cmp_neN5 {i : Nat} : CmpR .ne (.int (i : Nat)) (.int 5) (!decide (i = 5)) := fun Q q => by show Q (!(decide ((i : Int) = 5))); rw [dec_iff (show ((i : Int) = 5) ↔ (i = 5) by omega)]; exact q
theorem bin_addN1 {i : Nat} : BinR .add (.int (i : Nat)) (.int 1) (.val (.int ((i + 1 : Nat) : Int))) := fun _ q => q
theorem bin_add1N {i : Nat} : BinR .add (.int 1) (.int (i : Nat)) (.val (.int ((1 + i : Nat) : Int))) := fun Q q => by show Q (.val (.int (1 + (i : Int)))); rw [show (1 + (i : Int)) = ((1 + i : Nat) : Int) by omega]; exact q
theorem cmp_eqI {i j : Int} : CmpR .eq (.int i) (.int j) (decide (i = j)) := fun _ q => q
theorem cmp_neI {i j : Int} : CmpR .ne (.int i) (.int j) (!decide (i = j)) := fun _ q => q
theorem cmp_eqS {i j : Str} : CmpR .eq (.str i) (.str j) (decide (i = j)) := fun _ q => q
theorem cmp_neS {i j : Str} : CmpR .ne (.str i) (.str j) (!decide (i = j)) := fun _ q => q
theorem cmp_eqB {i j : Bool} : CmpR .eq (.bl i) (.bl j) (decide (i = j)) := fun _ q => q
theorem cmp_neB {i j : Bool} : CmpR .ne (.bl i) (.bl j) (!decide (i = j)) := fun _ q => q
theorem cmp_eqE {a b : α} (h : Dt.dep α ≤ 50 := by decide) : CmpR .eq (enc a) (enc b) (decide (a = b)) := fun _ q => eqP_of (shp_enc a h) (shp_enc b h) (by rw [Dt.eqv]; exact q)
theorem cmp_neE {a b : α} (h : Dt.dep α ≤ 50 := by decide) : CmpR .ne (enc a) (enc b) (!decide (a = b)) := fun Q q => eqP_of (Q := fun r => Q (!r)) (shp_enc a h) (shp_enc b h) (by rw [Dt.eqv]; exact q)
theorem cmp_eqT {xs ys : List α} (h : Dt.dep α ≤ 40 := by decide) : CmpR .eq (.tup (xs.map enc)) (.tup (ys.map enc)) (decide (xs = ys)) := cmp_eqE (a := xs) (b := ys) (by show Dt.dep α + 1 ≤ 50; omega)
theorem cmp_neT {xs ys : List α} (h : Dt.dep α ≤ 40 := by decide) : CmpR .ne (.tup (xs.map enc)) (.tup (ys.map enc)) (!decide (xs = ys)) := cmp_neE (a := xs) (b := ys) (by show Dt.dep α + 1 ≤ 50; omega)
theorem cmp_eqT1 {xs : List α} {y : α} (h : Dt.dep α ≤ 40 := by decide) : CmpR .eq (.tup (xs.map enc)) (.tup [enc y]) (decide (xs = [y])) := cmp_eqT (ys := [y]) h
theorem cmp_eqT0 {xs : List α} (h : Dt.dep α ≤ 40 := by decide) : CmpR .eq (.tup (xs.map enc)) (.tup []) (decide (xs = [])) := cmp_eqT (ys := []) h
theorem cmp_eqL {xs ys : List α} (h : Dt.dep α ≤ 40 := by decide) : CmpR .eq (.lst (xs.map enc)) (.lst (ys.map enc)) (decide (xs = ys)) := fun Q q => by
  have := cmp_eqE (a := Ls.mk xs) (b := Ls.mk ys) (by show Dt.dep α + 1 ≤ 50; omega) Q
  refine this ?_
  have e : decide (Ls.mk xs = Ls.mk ys) = decide (xs = ys) := by congr 1; simp
  rw [e]; exact q
theorem cmp_neL {xs ys : List α} (h : Dt.dep α ≤ 40 := by decide) : CmpR .ne (.lst (xs.map enc)) (.lst (ys.map enc)) (!decide (xs = ys)) := fun Q q => cmp_eqL (xs := xs) (ys := ys) h (fun r => Q (!r)) q
theorem dec_any {p : Prop} [i : Decidable p] {j : Decidable p} : @decide p j = @decide p i := by congr
theorem inE {a : α} {xs : List α} [dI : Decidable (a ∈ xs)] (h : Dt.dep α ≤ 40) (Q : Bool → Prop) (q : Q (decide (a ∈ xs))) : inP (enc a) (.tup (xs.map enc)) Q := ⟨⟨shp_enc a (by omega), shp_tupE xs (by omega)⟩, by show Q ((xs.map enc).any fun z => deq z (enc a)); rw [anyE, dec_any]; exact q⟩
theorem inEL {a : α} {xs : List α} [dI : Decidable (a ∈ xs)] (h : Dt.dep α ≤ 40) (Q : Bool → Prop) (q : Q (decide (a ∈ xs))) : inP (enc a) (.lst (xs.map enc)) Q := ⟨⟨shp_enc a (by omega), shp_lstE xs (by omega)⟩, by show Q ((xs.map enc).any fun z => deq z (enc a)); rw [anyE, dec_any]; exact q⟩
theorem cmp_inT {a : α} {xs : List α} [Decidable (a ∈ xs)] (h : Dt.dep α ≤ 40 := by decide) : CmpR .isin (enc a) (.tup (xs.map enc)) (decide (a ∈ xs)) := fun Q q => inE h Q q
theorem cmp_ninT {a : α} {xs : List α} [Decidable (a ∈ xs)] (h : Dt.dep α ≤ 40 := by decide) : CmpR .notin (enc a) (.tup (xs.map enc)) (!decide (a ∈ xs)) := fun Q q => inE h (fun r => Q (!r)) q
theorem cmp_inL {a : α} {xs : List α} [Decidable (a ∈ xs)] (h : Dt.dep α ≤ 40 := by decide) : CmpR .isin (enc a) (.lst (xs.map enc)) (decide (a ∈ xs)) := fun Q q => inEL h Q q
theorem cmp_ninL {a : α} {xs : List α} [Decidable (a ∈ xs)] (h : Dt.dep α ≤ 40 := by decide) : CmpR .notin (enc a) (.lst (xs.map enc)) (!decide (a ∈ xs)) := fun Q q => inEL h (fun r => Q (!r)) q
section
variable {β : Type} [En β] [DecidableEq β] [Dt β]
theorem cmp_inTp {a : α} {b : β} {xs : List (α × β)} [Decidable ((a, b) ∈ xs)] (h : Dt.dep (α × β) ≤ 40 := by decide) : CmpR .isin (.tup [enc a, enc b]) (.tup (xs.map enc)) (decide ((a, b) ∈ xs)) := cmp_inT (a := (a, b)) h
theorem cmp_ninTp {a : α} {b : β} {xs : List (α × β)} [Decidable ((a, b) ∈ xs)] (h : Dt.dep (α × β) ≤ 40 := by decide) : CmpR .notin (.tup [enc a, enc b]) (.tup (xs.map enc)) (!decide ((a, b) ∈ xs)) := cmp_ninT (a := (a, b)) h
theorem cmp_inLp {a : α} {b : β} {xs : List (α × β)} [Decidable ((a, b) ∈ xs)] (h : Dt.dep (α × β) ≤ 40 := by decide) : CmpR .isin (.tup [enc a, enc b]) (.lst (xs.map enc)) (decide ((a, b) ∈ xs)) := cmp_inL (a := (a, b)) h
theorem cmp_ninLp {a : α} {b : β} {xs : List (α × β)} [Decidable ((a, b) ∈ xs)] (h : Dt.dep (α × β) ≤ 40 := by decide) : CmpR .notin (.tup [enc a, enc b]) (.lst (xs.map enc)) (!decide ((a, b) ∈ xs)) := cmp_ninL (a := (a, b)) h
end
theorem dec_nat {i : Int} {xs : List Nat} : ((xs.map enc).any fun z => deq z (.int i)) = decide (0 ≤ i ∧ i.toNat ∈ xs) := by
  rw [List.any_map, Bool.eq_iff_iff, List.any_eq_true, decide_eq_true_eq]
  constructor
  · rintro ⟨x, hx, h⟩
    have h : deq (.int (x : Nat)) (.int i) = true := h
    rw [deq_int, decide_eq_true_eq] at h
    subst h
    exact ⟨by omega, by simpa using hx⟩
  · rintro ⟨h0, h1⟩
    refine ⟨i.toNat, h1, ?_⟩
    show deq (.int (i.toNat : Nat)) (.int i) = true
    rw [deq_int, decide_eq_true_eq]; omega
theorem cmp_inN {i : Int} {xs : List Nat} : CmpR .isin (.int i) (.tup (xs.map enc)) (decide (0 ≤ i ∧ i.toNat ∈ xs)) := fun Q q => ⟨⟨rfl, shp_tupE xs⟩, by show Q ((xs.map enc).any fun z => deq z (.int i)); rw [dec_nat]; exact q⟩
theorem cmp_ninN {i : Int} {xs : List Nat} : CmpR .notin (.int i) (.tup (xs.map enc)) (!decide (0 ≤ i ∧ i.toNat ∈ xs)) := fun Q q => ⟨⟨rfl, shp_tupE xs⟩, by show Q (!((xs.map enc).any fun z => deq z (.int i))); rw [dec_nat]; exact q⟩
section
variable {κ ν : Type} [En κ] [DecidableEq κ] [Dt κ] [Ky κ] [En ν]
theorem cmp_inD {a : κ} {kvs : List (κ × ν)} [Decidable (a ∈ kvs.map (·.1))] (h : Ky.kd κ ≤ 8 := by decide) : CmpR .isin (enc a) (.dct (encKV kvs)) (decide (a ∈ kvs.map (·.1))) := fun Q q => ⟨keyOkE kvs a h, by rw [anyKE, dec_any]; exact q⟩
theorem cmp_ninD {a : κ} {kvs : List (κ × ν)} [Decidable (a ∈ kvs.map (·.1))] (h : Ky.kd κ ≤ 8 := by decide) : CmpR .notin (enc a) (.dct (encKV kvs)) (!decide (a ∈ kvs.map (·.1))) := fun Q q => ⟨keyOkE kvs a h, by rw [anyKE, dec_any]; exact q⟩
theorem idx_D {a : κ} {v : ν} {kvs : List (κ × ν)} (hv : lk kvs a = some v) (h : Ky.kd κ ≤ 8 := by decide) : IdxR (.dct (encKV kvs)) (enc a) (enc v) := fun Q q => ⟨keyOkE kvs a h, enc v, by rw [lookE, hv]; rfl, q⟩
end
theorem cmp_isN {a : D} : CmpR .is a .non (isNon a) := fun _ q => q
theorem cmp_isnN {a : D} : CmpR .isnot a .non (!isNon a) := fun _ q => q
theorem cmp_isB {i j : Bool} : CmpR .is (.bl i) (.bl j) (decide (i = j)) := fun _ q => q
theorem cmp_isnB {i j : Bool} : CmpR .isnot (.bl i) (.bl j) (!decide (i = j)) := fun _ q => q
theorem cmp_ltE [Od α] {a b : α} (h : Dt.dep α ≤ 50 := by decide) : ordP .lt (enc a) (enc b) = ordP .lt (enc a) (enc b) := rfl
theorem cmp_ltT [Od α] {xs ys : List α} (h : Dt.dep α ≤ 40 := by decide) : CmpR .lt (.tup (xs.map enc)) (.tup (ys.map enc)) (ltL xs ys) := fun Q q => ⟨⟨⟨shp_tupE xs (by omega), shp_tupE ys (by omega)⟩, by rw [ltD, ltDsE]; rfl⟩, by rw [ltD, ltDsE]; exact q⟩
theorem cmp_ltP {β : Type} [En β] [DecidableEq β] [Dt β] [Od α] [Od β] {a b : α × β} (h : Dt.dep (α × β) ≤ 50 := by decide) : CmpR .lt (.tup [enc a.1, enc a.2]) (.tup [enc b.1, enc b.2]) (ltPr a b) := fun Q q => by
  have e : ltD (.tup [enc a.1, enc a.2]) (.tup [enc b.1, enc b.2]) = some (ltPr a b) := Od.ltd a b
  exact ⟨⟨⟨shp_enc a h, shp_enc b h⟩, by rw [e]; rfl⟩, by rw [e]; exact q⟩
/-! ### items -/
theorem atI_map {β : Type} (f : β → D) {xs : List β} {i : Nat} {b : β} (h : xs[i]? = some b) : atI (xs.map f) (i : Nat) = some (f b) := atI_nat (by rw [List.getElem?_map, h]; rfl)
theorem getD_some {β : Type} {xs : List β} {i : Nat} {z : β} (h : i < xs.length) : xs[i]? = some (xs.getD i z) := by
  rw [List.getD_eq_getElem?_getD, List.getElem?_eq_getElem h]; rfl
theorem idx_T {β : Type} [En β] [Inhabited β] {xs : List β} {i : Nat} (h : i < xs.length) : IdxR (.tup (xs.map enc)) (.int (i : Nat)) (enc (xs.getD i default)) := fun Q q => ⟨_, atI_map enc (getD_some h), q⟩
theorem idx_L {β : Type} [En β] [Inhabited β] {xs : List β} {i : Nat} (h : i < xs.length) : IdxR (.lst (xs.map enc)) (.int (i : Nat)) (enc (xs.getD i default)) := fun Q q => ⟨_, atI_map enc (getD_some h), q⟩
theorem idx_0T {β : Type} [En β] [Inhabited β] {xs : List β} (h : xs ≠ []) : IdxR (.tup (xs.map enc)) (.int 0) (enc (xs.headD default)) := fun Q q => by
  cases xs with
  | nil => exact absurd rfl h
  | cons x xs => exact ⟨enc x, (atI_nat (j := 0) (show (enc x :: xs.map enc)[0]? = some (enc x) from rfl) : atI (enc x :: xs.map enc) ((0 : Nat) : Int) = some (enc x)), q⟩
theorem idx_0L {β : Type} [En β] [Inhabited β] {xs : List β} (h : xs ≠ []) : IdxR (.lst (xs.map enc)) (.int 0) (enc (xs.headD default)) := fun Q q => by
  cases xs with
  | nil => exact absurd rfl h
  | cons x xs => exact ⟨enc x, (atI_nat (j := 0) (show (enc x :: xs.map enc)[0]? = some (enc x) from rfl) : atI (enc x :: xs.map enc) ((0 : Nat) : Int) = some (enc x)), q⟩
theorem idx_IT {β : Type} [En β] [Inhabited β] {xs : List β} {i : Int} (h : 0 ≤ i ∧ i.toNat < xs.length) : IdxR (.tup (xs.map enc)) (.int i) (enc (xs.getD i.toNat default)) := fun Q q => by
  obtain ⟨n, rfl⟩ : ∃ n : Nat, i = n := ⟨i.toNat, by omega⟩
  exact idx_T (by simpa using h.2) Q q
theorem idx_IL {β : Type} [En β] [Inhabited β] {xs : List β} {i : Int} (h : 0 ≤ i ∧ i.toNat < xs.length) : IdxR (.lst (xs.map enc)) (.int i) (enc (xs.getD i.toNat default)) := fun Q q => by
  obtain ⟨n, rfl⟩ : ∃ n : Nat, i = n := ⟨i.toNat, by omega⟩
  exact idx_L (by simpa using h.2) Q q
theorem atI_last {xs : List D} {d : D} (h : xs.getLast? = some d) : atI xs (-1) = some d := by
  have hn : xs ≠ [] := fun e => by rw [e] at h; cases h
  have hl : 0 < xs.length := List.length_pos_iff.mpr hn
  unfold atI
  have e : ixN xs.length (-1) = some (xs.length - 1) := by
    unfold ixN
    simp
    omega
  rw [e]
  rw [List.getLast?_eq_getElem?] at h
  simpa using h
theorem idx_lastL {β : Type} [En β] [Inhabited β] {xs : List β} (h : xs ≠ []) : IdxR (.lst (xs.map enc)) (.int (-1)) (enc (xs.getLastD default)) := fun Q q => by
  refine ⟨enc (xs.getLastD default), atI_last ?_, q⟩
  rw [List.getLast?_map]
  cases xs with
  | nil => exact absurd rfl h
  | cons x xs => simp [List.getLastD_cons, List.getLast?_cons]
theorem idx_lastT {β : Type} [En β] [Inhabited β] {xs : List β} (h : xs ≠ []) : IdxR (.tup (xs.map enc)) (.int (-1)) (enc (xs.getLastD default)) := fun Q q => by
  refine ⟨enc (xs.getLastD default), atI_last ?_, q⟩
  rw [List.getLast?_map]
  cases xs with
  | nil => exact absurd rfl h
  | cons x xs => simp [List.getLastD_cons, List.getLast?_cons]
/-- a written list at a place -/
theorem idx_litL {xs : List D} {n : Nat} {d : D} (h : xs[n]? = some d) : IdxR (.lst xs) (.int (n : Nat)) d := fun Q q => ⟨d, atI_nat h, q⟩
theorem idx_litT {xs : List D} {n : Nat} {d : D} (h : xs[n]? = some d) : IdxR (.tup xs) (.int (n : Nat)) d := fun Q q => ⟨d, atI_nat h, q⟩
/-! ### slices -/
theorem cutL_map {β γ : Type} (f : β → γ) (xs : List β) (l h : Option Int) : cutL (xs.map f) l h = (cutL xs l h).map f := by
  unfold cutL
  rw [List.length_map, List.map_take, List.map_drop]
theorem slc_T {β : Type} [En β] {xs : List β} {l h : Option Int} : SlcR (.tup (xs.map enc)) l h (.val (.tup ((cutL xs l h).map enc))) := fun Q q => by show Q _; rw [cutL_map]; exact q
theorem slc_L {β : Type} [En β] {xs : List β} {l h : Option Int} : SlcR (.lst (xs.map enc)) l h (.own ((cutL xs l h).map enc)) := fun Q q => by show Q _; rw [cutL_map]; exact q
theorem cut_take {β : Type} (xs : List β) (n : Nat) : cutL xs none (some (n : Int)) = xs.take n := by
  unfold cutL HT.sIx
  have : ¬ ((n : Int) < 0) := by omega
  simp [this]
theorem cut_drop {β : Type} (xs : List β) (n : Nat) : cutL xs (some (n : Int)) none = xs.drop n := by
  unfold cutL HT.sIx
  have : ¬ ((n : Int) < 0) := by omega
  simp [this]
  by_cases h : n ≤ xs.length
  · rw [Nat.min_eq_left h, List.take_of_length_le (by rw [List.length_drop]; omega)]
  · rw [Nat.min_eq_right (by omega), List.drop_of_length_le (Nat.le_refl _), List.drop_of_length_le (by omega)]; simp
theorem rev_T {β : Type} [En β] {xs : List β} : ∀ Q : RV → Prop, Q (.val (.tup (xs.reverse.map enc))) → revP (.tup (xs.map enc)) Q := fun Q q => by show Q _; rw [← List.map_reverse]; exact q
theorem rev_L {β : Type} [En β] {xs : List β} : ∀ Q : RV → Prop, Q (.own (xs.reverse.map enc)) → revP (.lst (xs.map enc)) Q := fun Q q => by show Q _; rw [← List.map_reverse]; exact q
/-! ### truth -/
theorem tru_B {b : Bool} : TruR (.bl b) b := rfl
theorem tru_I {i : Int} : TruR (.int i) (i != 0) := rfl
theorem tru_N : TruR .non false := rfl
theorem tru_T {xs : List D} : TruR (.tup xs) (!xs.isEmpty) := rfl
theorem tru_L {xs : List D} : TruR (.lst xs) (!xs.isEmpty) := rfl
/-! ### built-ins -/
theorem blt_lenT {β : Type} [En β] {xs : List β} : BltR .len [.tup (xs.map enc)] (.val (.int (xs.length : Nat))) := fun Q q => by show Q (.val (.int (xs.map enc).length)); rw [List.length_map]; exact q
theorem blt_lenL {β : Type} [En β] {xs : List β} : BltR .len [.lst (xs.map enc)] (.val (.int (xs.length : Nat))) := fun Q q => by show Q (.val (.int (xs.map enc).length)); rw [List.length_map]; exact q
theorem blt_lenTr {xs : List D} : BltR .len [.tup xs] (.val (.int (xs.length : Nat))) := fun Q q => q
theorem blt_lenLr {xs : List D} : BltR .len [.lst xs] (.val (.int (xs.length : Nat))) := fun Q q => q
theorem blt_lenD {κ ν : Type} [En κ] [En ν] {kvs : List (κ × ν)} : BltR .len [.dct (encKV kvs)] (.val (.int (kvs.length : Nat))) := fun Q q => by show Q (.val (.int (encKV kvs).length)); unfold encKV; rw [List.length_map]; exact q
theorem blt_intI {i : Int} : BltR .int [.int i] (.val (.int i)) := fun _ q => q
theorem blt_intB {b : Bool} : BltR .int [.bl b] (.val (.int (if b then 1 else 0))) := fun _ q => q
theorem blt_tupL {xs : List D} : BltR .tuple [.lst xs] (.val (.tup xs)) := fun _ q => q
theorem blt_tupT {xs : List D} : BltR .tuple [.tup xs] (.val (.tup xs)) := fun _ q => q
theorem blt_tupR {n : Nat} (hz : n ≤ 16777216) : BltR .tuple [.rng 0 (n : Nat)] (.val (.tup ((List.range n).map enc))) := fun Q q => by
  refine ⟨by omega, ?_⟩
  rw [(Option.some.inj (itm_rng hz).1 : rngL 0 (n : Nat) = _)]; exact q
theorem blt_lstR {n : Nat} (hz : n ≤ 16777216) : BltR .list [.rng 0 (n : Nat)] (.own ((List.range n).map enc)) := fun Q q => by
  refine ⟨by omega, ?_⟩
  rw [(Option.some.inj (itm_rng hz).1 : rngL 0 (n : Nat) = _)]; exact q
theorem blt_lstL {xs : List D} : BltR .list [.lst xs] (.own xs) := fun _ q => q
theorem blt_lstT {xs : List D} : BltR .list [.tup xs] (.own xs) := fun _ q => q
theorem blt_lstD {κ ν : Type} [En κ] [En ν] {kvs : List (κ × ν)} : BltR .list [.dct (encKV kvs)] (.own ((kvs.map (·.1)).map enc)) := fun Q q => by show Q _; unfold encKV; rw [List.map_map] at q ⊢; exact q
theorem blt_rng1 {i : Int} (h : rngOk i) : BltR .range [.int i] (.val (.rng 0 i)) := fun Q q => ⟨h, q⟩
theorem blt_rngN {n : Nat} (h : n ≤ 16777216) : BltR .range [.int (n : Nat)] (.val (.rng 0 (n : Nat))) := fun Q q => ⟨⟨by omega, by omega⟩, q⟩
section
variable [Od α]
theorem blt_srtL {xs : List α} (h : Dt.dep α ≤ 50 := by decide) : BltR .sorted [.lst (xs.map enc)] (.own ((srt xs).map enc)) := fun Q q => ⟨sortable_enc xs h, by rw [sortD_enc]; exact q⟩
theorem blt_srtT {xs : List α} (h : Dt.dep α ≤ 50 := by decide) : BltR .sorted [.tup (xs.map enc)] (.own ((srt xs).map enc)) := fun Q q => ⟨sortable_enc xs h, by rw [sortD_enc]; exact q⟩
theorem blt_srtD {ν : Type} [En ν] {kvs : List (α × ν)} (h : Dt.dep α ≤ 50 := by decide) : BltR .sorted [.dct (encKV kvs)] (.own ((srt (kvs.map (·.1))).map enc)) := fun Q q => by
  have e : (encKV kvs).map (·.1) = (kvs.map (·.1)).map enc := by unfold encKV; rw [List.map_map, List.map_map]; rfl
  show sortP ((encKV kvs).map (·.1)) Q
  rw [e]
  exact ⟨sortable_enc _ h, by rw [sortD_enc]; exact q⟩
theorem blt_srtP {a b : α} (h : Dt.dep α ≤ 50 := by decide) : BltR .sorted [.tup [enc a, enc b]] (.own ((srt [a, b]).map enc)) := blt_srtT (xs := [a, b]) h
end
theorem ints_enc (xs : List Int) : ints? (xs.map enc) = some xs := by
  have := ints_mapf (fun x : Int => x) xs
  rw [List.map_id'] at this
  exact this
theorem ints_encN (xs : List Nat) : ints? (xs.map enc) = some (xs.map fun n => ((n : Nat) : Int)) := ints_mapf (fun x : Nat => ((x : Nat) : Int)) xs
theorem blt_minL {xs : List Int} (h : xs ≠ []) : BltR .min [.lst (xs.map enc)] (.val (.int (minL xs))) := fun Q q => ⟨xs, ints_enc xs, h, q⟩
theorem blt_maxL {xs : List Int} (h : xs ≠ []) : BltR .max [.lst (xs.map enc)] (.val (.int (maxL xs))) := fun Q q => ⟨xs, ints_enc xs, h, q⟩
theorem blt_minT {xs : List Int} (h : xs ≠ []) : BltR .min [.tup (xs.map enc)] (.val (.int (minL xs))) := fun Q q => ⟨xs, ints_enc xs, h, q⟩
theorem blt_maxT {xs : List Int} (h : xs ≠ []) : BltR .max [.tup (xs.map enc)] (.val (.int (maxL xs))) := fun Q q => ⟨xs, ints_enc xs, h, q⟩
def castN (xs : List Nat) : List Int := xs.map fun n => ((n : Nat) : Int)
theorem castN_ne {xs : List Nat} (h : xs ≠ []) : castN xs ≠ [] := fun e => h (List.map_eq_nil_iff.mp e)
theorem minL_mem : ∀ {xs : List Int}, xs ≠ [] → minL xs ∈ xs
  | [], h => absurd rfl h
  | x :: xs, _ => by
    show xs.foldl min x ∈ x :: xs
    have : ∀ (ys : List Int) (a : Int), ys.foldl min a = a ∨ ys.foldl min a ∈ ys := fun ys => by
      induction ys with
      | nil => intro a; exact .inl rfl
      | cons y ys ih =>
        intro a
        rw [List.foldl_cons]
        rcases ih (min a y) with h | h
        · rw [h]
          by_cases hh : a ≤ y
          · left; omega
          · right; rw [show min a y = y by omega]; exact List.mem_cons_self
        · exact .inr (List.mem_cons_of_mem _ h)
    rcases this xs x with h | h
    · rw [h]; exact List.mem_cons_self
    · exact List.mem_cons_of_mem _ h
theorem minL_le {xs : List Int} {a : Int} (h : a ∈ xs) : minL xs ≤ a := by
  cases xs with
  | nil => cases h
  | cons x xs =>
    show xs.foldl min x ≤ a
    have : ∀ (ys : List Int) (a : Int), ys.foldl min a ≤ a ∧ ∀ y ∈ ys, ys.foldl min a ≤ y := fun ys => by
      induction ys with
      | nil => intro a; exact ⟨Int.le_refl _, fun y hy => by cases hy⟩
      | cons y ys ih =>
        intro a
        rw [List.foldl_cons]
        obtain ⟨h1, h2⟩ := ih (min a y)
        refine ⟨by omega, fun z hz => ?_⟩
        rcases List.mem_cons.mp hz with rfl | hz
        · omega
        · exact h2 z hz
    obtain ⟨h1, h2⟩ := this xs x
    rcases List.mem_cons.mp h with rfl | h
    · exact h1
    · exact h2 a h
theorem maxL_mem : ∀ {xs : List Int}, xs ≠ [] → maxL xs ∈ xs
  | [], h => absurd rfl h
  | x :: xs, _ => by
    show xs.foldl max x ∈ x :: xs
    have : ∀ (ys : List Int) (a : Int), ys.foldl max a = a ∨ ys.foldl max a ∈ ys := fun ys => by
      induction ys with
      | nil => intro a; exact .inl rfl
      | cons y ys ih =>
        intro a
        rw [List.foldl_cons]
        rcases ih (max a y) with h | h
        · rw [h]
          by_cases hh : y ≤ a
          · left; omega
          · right; rw [show max a y = y by omega]; exact List.mem_cons_self
        · exact .inr (List.mem_cons_of_mem _ h)
    rcases this xs x with h | h
    · rw [h]; exact List.mem_cons_self
    · exact List.mem_cons_of_mem _ h
theorem maxL_ge {xs : List Int} {a : Int} (h : a ∈ xs) : a ≤ maxL xs := by
  cases xs with
  | nil => cases h
  | cons x xs =>
    show a ≤ xs.foldl max x
    have : ∀ (ys : List Int) (a : Int), a ≤ ys.foldl max a ∧ ∀ y ∈ ys, y ≤ ys.foldl max a := fun ys => by
      induction ys with
      | nil => intro a; exact ⟨Int.le_refl _, fun y hy => by cases hy⟩
      | cons y ys ih =>
        intro a
        rw [List.foldl_cons]
        obtain ⟨h1, h2⟩ := ih (max a y)
        refine ⟨by omega, fun z hz => ?_⟩
        rcases List.mem_cons.mp hz with rfl | hz
        · omega
        · exact h2 z hz
    obtain ⟨h1, h2⟩ := this xs x
    rcases List.mem_cons.mp h with rfl | h
    · exact h1
    · exact h2 a h
theorem nat_of_mem {xs : List Nat} {i : Int} (h : i ∈ castN xs) : ∃ n : Nat, n ∈ xs ∧ i = n := by
  obtain ⟨n, h1, h2⟩ := List.mem_map.mp h
  exact ⟨n, h1, h2.symm⟩
/-- the least, the greatest of numbers -/
def minN (xs : List Nat) : Nat := (minL (castN xs)).toNat
def maxN (xs : List Nat) : Nat := (maxL (castN xs)).toNat
theorem minN_cast {xs : List Nat} (h : xs ≠ []) : minL (castN xs) = (minN xs : Nat) := by
  obtain ⟨n, _, e⟩ := nat_of_mem (minL_mem (castN_ne h))
  unfold minN
  rw [e]; simp
theorem maxN_cast {xs : List Nat} (h : xs ≠ []) : maxL (castN xs) = (maxN xs : Nat) := by
  obtain ⟨n, _, e⟩ := nat_of_mem (maxL_mem (castN_ne h))
  unfold maxN
  rw [e]; simp
theorem minN_mem {xs : List Nat} (h : xs ≠ []) : minN xs ∈ xs := by
  obtain ⟨n, h1, e⟩ := nat_of_mem (minL_mem (castN_ne h))
  unfold minN
  rw [e]; simpa using h1
theorem maxN_mem {xs : List Nat} (h : xs ≠ []) : maxN xs ∈ xs := by
  obtain ⟨n, h1, e⟩ := nat_of_mem (maxL_mem (castN_ne h))
  unfold maxN
  rw [e]; simpa using h1
theorem minN_le {xs : List Nat} {a : Nat} (h : a ∈ xs) : minN xs ≤ a := by
  have h1 : ((a : Nat) : Int) ∈ castN xs := List.mem_map.mpr ⟨a, h, rfl⟩
  have h2 := minL_le h1
  rw [minN_cast (fun e => by rw [e] at h; cases h)] at h2
  omega
theorem maxN_ge {xs : List Nat} {a : Nat} (h : a ∈ xs) : a ≤ maxN xs := by
  have h1 : ((a : Nat) : Int) ∈ castN xs := List.mem_map.mpr ⟨a, h, rfl⟩
  have h2 := maxL_ge h1
  rw [maxN_cast (fun e => by rw [e] at h; cases h)] at h2
  omega
theorem blt_minLN {xs : List Nat} (h : xs ≠ []) : BltR .min [.lst (xs.map enc)] (.val (.int (minN xs : Nat))) := fun Q q => ⟨_, ints_encN xs, castN_ne h, by rw [← minN_cast h] at q; exact q⟩
theorem blt_maxLN {xs : List Nat} (h : xs ≠ []) : BltR .max [.lst (xs.map enc)] (.val (.int (maxN xs : Nat))) := fun Q q => ⟨_, ints_encN xs, castN_ne h, by rw [← maxN_cast h] at q; exact q⟩
theorem blt_minTN {xs : List Nat} (h : xs ≠ []) : BltR .min [.tup (xs.map enc)] (.val (.int (minN xs : Nat))) := fun Q q => ⟨_, ints_encN xs, castN_ne h, by rw [← minN_cast h] at q; exact q⟩
theorem blt_maxTN {xs : List Nat} (h : xs ≠ []) : BltR .max [.tup (xs.map enc)] (.val (.int (maxN xs : Nat))) := fun Q q => ⟨_, ints_encN xs, castN_ne h, by rw [← maxN_cast h] at q; exact q⟩
theorem blt_sumL {xs : List Int} : BltR .sum [.lst (xs.map enc)] (.val (.int xs.sum)) := fun Q q => ⟨xs, ints_enc xs, q⟩
theorem sum_cast : ∀ xs : List Nat, (castN xs).sum = ((xs.sum : Nat) : Int)
  | [] => rfl
  | x :: xs => by
    have := sum_cast xs
    unfold castN at *
    rw [List.map_cons, List.sum_cons, List.sum_cons, this]; omega
theorem blt_sumLN {xs : List Nat} : BltR .sum [.lst (xs.map enc)] (.val (.int (xs.sum : Nat))) := fun Q q => ⟨_, ints_encN xs, by rw [← sum_cast] at q; exact q⟩
theorem bls_enc : ∀ xs : List Bool, bls? (xs.map enc) = some xs
  | [] => rfl
  | x :: xs => by show (bls? (xs.map enc)).map (x :: ·) = _; rw [bls_enc xs]; rfl
theorem blt_any {xs : List Bool} : BltR .any [.lst (xs.map enc)] (.val (.bl (xs.any id))) := fun Q q => ⟨xs, bls_enc xs, q⟩
theorem blt_all {xs : List Bool} : BltR .all [.lst (xs.map enc)] (.val (.bl (xs.all id))) := fun Q q => ⟨xs, bls_enc xs, q⟩
theorem blt_abs {i : Int} : BltR .abs [.int i] (.val (.int (if i < 0 then -i else i))) := fun _ q => q
theorem blt_min2 {i j : Int} : BltR .min [.int i, .int j] (.val (.int (if j < i then j else i))) := fun _ q => q
theorem blt_max2 {i j : Int} : BltR .max [.int i, .int j] (.val (.int (if j > i then j else i))) := fun _ q => q
/-! ### index -/
/-- the place of an item -/
def ixo {β : Type} [DecidableEq β] (xs : List β) (a : β) : Nat := xs.findIdx fun z => decide (z = a)
theorem ixo_lt {β : Type} [DecidableEq β] {xs : List β} {a : β} (h : a ∈ xs) : ixo xs a < xs.length := List.findIdx_lt_length_of_exists ⟨a, h, by simp⟩
theorem ixo_get {β : Type} [DecidableEq β] {xs : List β} {a : β} (h : a ∈ xs) : xs[ixo xs a]? = some a := by
  have h1 := ixo_lt h
  rw [List.getElem?_eq_getElem h1]
  have : decide (xs[xs.findIdx (fun z => decide (z = a))] = a) = true := List.findIdx_getElem (w := h1)
  rw [decide_eq_true_eq] at this
  exact congrArg some this
theorem find_ixo {β : Type} [DecidableEq β] {xs : List β} {a : β} (h : a ∈ xs) : xs.findIdx? (fun z => decide (z = a)) = some (ixo xs a) := by
  rw [List.findIdx?_eq_some_iff_findIdx_eq]
  exact ⟨ixo_lt h, rfl⟩
theorem mth_ixT {a : α} {xs : List α} (hm : a ∈ xs) (h : Dt.dep α ≤ 40 := by decide) : MthR .index (.tup (xs.map enc)) [enc a] (.val (.int (ixo xs a : Nat))) := ⟨rfl, fun Q q => ⟨⟨shp_enc a (by omega), shp_tupE xs (by omega)⟩, _, by rw [idxE, find_ixo hm], q⟩⟩
theorem mth_ixL {a : α} {xs : List α} (hm : a ∈ xs) (h : Dt.dep α ≤ 40 := by decide) : MthR .index (.lst (xs.map enc)) [enc a] (.val (.int (ixo xs a : Nat))) := ⟨rfl, fun Q q => ⟨⟨shp_enc a (by omega), shp_lstE xs (by omega)⟩, _, by rw [idxE, find_ixo hm], q⟩⟩
end
end PL
/-! TL4: statements, typed. -/
namespace PL
open PySem PySem.Spec PyProof.Rows L2
open En
/-- the block gives r (n: draws so far) -/
def Rt (C : PC) (b : IS) (ρ : PEnv) (n : Nat) (r : RV) : Prop := ∀ E : PEnds, E.rt r n → wpS C b ρ E
/-- a turn: it gives r, or goes on with P -/
def Bo (C : PC) (b : IS) (ρ : PEnv) (n : Nat) (o : Option RV) (P : PEnv → Prop) : Prop := ∀ E : PEnds, (∀ r, o = some r → E.rt r n) → (o = none → ∀ ρ', P ρ' → E.nx ρ') → (o = none → ∀ ρ', P ρ' → E.ct ρ') → wpS C b ρ E
def SlR (r : RV) (v : SV) : Prop := ∀ K : SV → Prop, K v → r.slot K
/-- data, typed -/
def As {α : Type} [En α] (d : D) (x : α) : Prop := d = enc x
variable {C : PC} {ρ ρ' ρ1 ρ2 ρ3 : PEnv} {r r' s t : RV} {d d' : D} {n : Nat}
theorem sl_val : SlR (.val d) (.val d) := fun _ h => h
theorem sl_own {xs : List D} : SlR (.own xs) (.own xs) := fun _ h => h
theorem sl_owd {xs : List (D × D)} : SlR (.owd xs) (.owd xs) := fun _ h => h
section
variable {α β γ : Type} {_ : En α} {_ : En β} {_ : En γ}
theorem as_enc {x : α} : As (enc x) x := rfl
theorem as_N {x : Nat} : As (.int (x : Nat)) x := rfl
theorem as_I {x : Int} : As (.int x) x := rfl
theorem as_B {x : Bool} : As (.bl x) x := rfl
theorem as_S {x : Str} : As (.str x) x := rfl
theorem as_T {xs : List α} : As (.tup (xs.map enc)) xs := rfl
theorem as_L {xs : List α} : As (.lst (xs.map enc)) (Ls.mk xs) := rfl
theorem as_T1 {x : α} (h : As d x) : As (.tup [d]) [x] := by cases h; rfl
theorem as_P {e : D} {x : α} {y : β} (h : As d x) (h' : As e y) : As (.tup [d, e]) (x, y) := by cases h; cases h'; rfl
theorem as_ite {k : Bool} {e : D} {x y : α} (h : As d x) (h' : As e y) : As (if k = true then d else e) (if k = true then x else y) := by cases h; cases h'; unfold As; split <;> rfl
theorem as_D : As d d := rfl
/-- a slot that is plain -/
def ov : Option D → SV
  | none => .no
  | some d => .val d
theorem evk_val {e : IE} {x : α} (h : Ev C e ρ (.val d) ρ') (a : As d x) : EvK C e ρ (enc x) ρ' := by cases a; exact ⟨_, h, kp_val⟩
theorem evk_own {e : IE} {xs : List α} (h : Ev C e ρ (.own (xs.map enc)) ρ') : EvK C e ρ (enc (Ls.mk xs)) ρ' := ⟨_, h, kp_own⟩
def KpA {α : Type} [En α] (r : RV) (x : α) : Prop := Kp r (enc x)
theorem evk_gen {e : IE} {x : α} (h : Ev C e ρ r ρ') (k : KpA r x) : EvK C e ρ (enc x) ρ' := ⟨_, h, k⟩
theorem kpa_val {x : α} (a : As d x) : KpA (.val d) x := by cases a; exact kp_val
theorem kpa_own {xs : List α} : KpA (.own (xs.map enc)) (Ls.mk xs) := kp_own
theorem evk_D {e : IE} (h : Ev C e ρ (.val d) ρ') : EvK C e ρ (enc (α := D) d) ρ' := ⟨_, h, kp_val⟩
end
theorem rt_ret {e : IE} (h : Ev C e ρ r' ρ') (hd : ρ'.dr = n) (he : r' = r) : Rt C (.ret e) ρ n r := fun E q => h _ (by show E.rt r' ρ'.dr; rw [hd, he]; exact q)
theorem rt_ret0 (hd : ρ.dr = n) : Rt C .ret0 ρ n (.val .non) := fun E q => by show E.rt (.val .non) ρ.dr; rw [hd]; exact q
theorem rt_seqR {a b : IS} (h : Rt C a ρ n r) : Rt C (.seq a b) ρ n r := fun E q => h _ q
theorem rt_skip {b : IS} (h : Rt C b ρ n r) : Rt C (.seq .skip b) ρ n r := h
theorem rt_assoc {a b c : IS} (h : Rt C (.seq a (.seq b c)) ρ n r) : Rt C (.seq (.seq a b) c) ρ n r := h
theorem rt_asg {i : Nat} {e : IE} {b : IS} {v : SV} (h : Ev C e ρ r' ρ1) (hs : SlR r' v) (hb : Rt C b (ρ1.put i v) n r) : Rt C (.seq (.asg (.nm i) e) b) ρ n r := fun E q => h _ (hs _ (hb E q))
theorem rt_asgT {is : List Nat} {e : IE} {b : IS} (h : Ev C e ρ r' ρ1) (hk : Kp r' d) (ht : TgR (.tp is) d ρ1 ρ2) (hb : Rt C b ρ2 n r) : Rt C (.seq (.asg (.tp is) e) b) ρ n r := fun E q => h _ (hk _ (ht _ (hb E q)))
theorem rt_ifs {c : IE} {a a' b : IS} {k : Bool} (h : Ev C c ρ (.val (.bl k)) ρ1) (h1 : k = true → Rt C (.seq a b) ρ1 n r) (h2 : k = false → Rt C (.seq a' b) ρ1 n r) : Rt C (.seq (.ifs c a a') b) ρ n r := fun E q => h _ ⟨k, rfl, fun e => h1 e E q, fun e => h2 e E q⟩
theorem rt_aug {i : Nat} {e : IE} {b : IS} {x y : Int} (hx : ρ.get i = .val (.int x)) (h : Ev C e ρ r' ρ1) (hy : r'.toD = .int y) (hb : Rt C b (ρ1.put i (.val (.int (x + y)))) n r) : Rt C (.seq (.aug i e) b) ρ n r := fun E q => ⟨x, hx, h _ ⟨y, hy, hb E q⟩⟩
theorem rt_app {i : Nat} {e : IE} {b : IS} {xs : List D} (h0 : (ρ.get i).isO = true) (h : EvK C e ρ d ρ1) (hx : ρ1.get i = .own xs) (hz : xs.length < sizeLine) (hb : Rt C b (ρ1.put i (.own (xs ++ [d]))) n r) : Rt C (.seq (.app i e) b) ρ n r := fun E q => by
  obtain ⟨r, h1, h2⟩ := h
  exact ⟨h0, h1 _ (h2 _ ⟨xs, hx, hz, hb E q⟩)⟩
/-- x[j] = v, x an own list -/
theorem rt_asgL {i : Nat} {k e : IE} {b : IS} {xs : List D} {j : Nat} (h : EvK C e ρ d ρ1) (h0 : (ρ1.get i).plain = false) (hk : Ev C k ρ1 r' ρ2) (hj : r'.toD = .int (j : Nat)) (hx : ρ2.get i = .own xs) (hl : j < xs.length) (hb : Rt C b (ρ2.put i (.own (xs.set j d))) n r) : Rt C (.seq (.asgS i k e) b) ρ n r := fun E q => by
  obtain ⟨r, h1, h2⟩ := h
  refine h1 _ (h2 _ ⟨h0, hk _ ?_⟩)
  show match ρ2.get i with | .own xs => _ | .owd kvs => _ | _ => False
  rw [hx]
  exact ⟨(j : Nat), j, hj, by unfold ixN; simp; omega, hb E q⟩
/-- x[k] = v, x an own dict -/
theorem rt_asgD {κ ν : Type} [En κ] [DecidableEq κ] [Dt κ] [Ky κ] [En ν] {i : Nat} {k e : IE} {b : IS} {kvs : List (κ × ν)} {a : κ} {v : ν} (h : EvK C e ρ (enc v) ρ1) (h0 : (ρ1.get i).plain = false) (hk : EvK C k ρ1 (enc a) ρ2) (hx : ρ2.get i = .owd (encKV kvs)) (hl : kvs.length < sizeLine) (hb : Rt C b (ρ2.put i (.owd (encKV (pt kvs a v)))) n r) (hd : Ky.kd κ ≤ 8 := by decide) : Rt C (.seq (.asgS i k e) b) ρ n r := fun E q => by
  obtain ⟨r, h1, h2⟩ := h
  obtain ⟨s, h3, h4⟩ := hk
  refine h1 _ (h2 _ ⟨h0, h3 _ ?_⟩)
  show match ρ2.get i with | .own xs => _ | .owd kvs => _ | _ => False
  rw [hx]
  refine h4 _ ⟨keyOkE kvs a hd, by unfold encKV; rw [List.length_map]; exact hl, ?_⟩
  rw [putE]
  exact hb E q
theorem erase_mapD {α β : Type} (f : α → β) : ∀ (l : List α) (j : Nat), (l.map f).eraseIdx j = (l.eraseIdx j).map f
  | [], j => by simp
  | a :: l, 0 => by simp
  | a :: l, j + 1 => by simp [erase_mapD f l j]
theorem rt_remv {i : Nat} {e : IE} {b : IS} {xs : List Nat} {a : Nat} (h0 : (ρ.get i).isO = true) (h : Ev C e ρ r' ρ1) (ha : r'.toD = .int (a : Nat)) (hx : ρ1.get i = .own (xs.map enc)) (hm : a ∈ xs) (hb : Rt C b (ρ1.put i (.own ((xs.erase a).map enc))) n r) : Rt C (.seq (.remv i e) b) ρ n r := fun E q => by
  refine ⟨h0, h _ ⟨_, ixo xs a, _, (a : Nat), ha, hx, ints_encN xs, ⟨?_, fun m hm' e => ?_⟩, ?_⟩⟩
  · rw [List.getElem?_map, ixo_get hm]; rfl
  · rw [List.getElem?_map] at e
    obtain ⟨y, h1, h2⟩ := Option.map_eq_some_iff.mp e
    have h2 : y = a := by exact Int.ofNat_inj.mp h2
    subst h2
    have := List.not_of_lt_findIdx (p := fun z => decide (z = y)) (xs := xs) hm'
    obtain ⟨h3, h4⟩ := List.getElem?_eq_some_iff.mp h1
    rw [h4] at this
    simp at this
  · have : (xs.map (enc : Nat → D)).eraseIdx (ixo xs a) = (xs.erase a).map enc := by
      rw [erase_mapD]
      congr 1
      have e1 : xs.erase a = xs.eraseIdx (xs.idxOf a) := List.erase_eq_eraseIdx_of_idxOf (by rfl)
      rw [e1]
      rfl
    rw [this]
    exact hb E q
/-! ### turns -/
theorem bo_rt {b : IS} {P : PEnv → Prop} (h : Rt C b ρ n r) : Bo C b ρ n (some r) P := fun E h1 _ _ => h E (h1 r rfl)
theorem bo_skip {P : PEnv → Prop} (h : P ρ) : Bo C .skip ρ n none P := fun E _ h2 _ => h2 rfl ρ h
theorem bo_cnt {P : PEnv → Prop} (h : P ρ) : Bo C .cnt ρ n none P := fun E _ _ h3 => h3 rfl ρ h
theorem bo_seqR {a b : IS} {o : Option RV} {P : PEnv → Prop} (h : Rt C a ρ n r) (ho : o = some r) : Bo C (.seq a b) ρ n o P := fun E h1 _ _ => h _ (h1 r ho)
theorem bo_ret {e : IE} {b : IS} {P : PEnv → Prop} (h : Ev C e ρ r ρ') (hd : ρ'.dr = n) : Bo C (.seq (.ret e) b) ρ n (some r) P := fun E h1 _ _ => h _ (by show E.rt r ρ'.dr; rw [hd]; exact h1 r rfl)
theorem bo_seqC {b : IS} {P : PEnv → Prop} (h : P ρ) : Bo C (.seq .cnt b) ρ n none P := fun E _ _ h3 => h3 rfl ρ h
theorem bo_sk {b : IS} {o : Option RV} {P : PEnv → Prop} (h : Bo C b ρ n o P) : Bo C (.seq .skip b) ρ n o P := h
theorem bo_assoc {a b c : IS} {o : Option RV} {P : PEnv → Prop} (h : Bo C (.seq a (.seq b c)) ρ n o P) : Bo C (.seq (.seq a b) c) ρ n o P := h
theorem bo_asg {i : Nat} {e : IE} {b : IS} {v : SV} {o : Option RV} {P : PEnv → Prop} (h : Ev C e ρ r' ρ1) (hs : SlR r' v) (hb : Bo C b (ρ1.put i v) n o P) : Bo C (.seq (.asg (.nm i) e) b) ρ n o P := fun E q1 q2 q3 => h _ (hs _ (hb E q1 q2 q3))
theorem bo_asgT {is : List Nat} {e : IE} {b : IS} {o : Option RV} {P : PEnv → Prop} (h : Ev C e ρ r' ρ1) (hk : Kp r' d) (ht : TgR (.tp is) d ρ1 ρ2) (hb : Bo C b ρ2 n o P) : Bo C (.seq (.asg (.tp is) e) b) ρ n o P := fun E q1 q2 q3 => h _ (hk _ (ht _ (hb E q1 q2 q3)))
theorem bo_ifs {c : IE} {a a' b : IS} {k : Bool} {o o' : Option RV} {P : PEnv → Prop} (h : Ev C c ρ (.val (.bl k)) ρ1) (h1 : k = true → Bo C (.seq a b) ρ1 n o P) (h2 : k = false → Bo C (.seq a' b) ρ1 n o' P) : Bo C (.seq (.ifs c a a') b) ρ n (if k = true then o else o') P := fun E q1 q2 q3 => h _ ⟨k, rfl, fun e => h1 e E (by rw [if_pos e] at q1; exact q1) (by rw [if_pos e] at q2; exact q2) (by rw [if_pos e] at q3; exact q3), fun e => h2 e E (by rw [if_neg (by rw [e]; exact Bool.false_ne_true)] at q1; exact q1) (by rw [if_neg (by rw [e]; exact Bool.false_ne_true)] at q2; exact q2) (by rw [if_neg (by rw [e]; exact Bool.false_ne_true)] at q3; exact q3)⟩
/-- .. the same end either way -/
theorem bo_ifs' {c : IE} {a a' b : IS} {k : Bool} {o : Option RV} {P : PEnv → Prop} (h : Ev C c ρ (.val (.bl k)) ρ1) (h1 : k = true → Bo C (.seq a b) ρ1 n o P) (h2 : k = false → Bo C (.seq a' b) ρ1 n o P) : Bo C (.seq (.ifs c a a') b) ρ n o P := fun E q1 q2 q3 => h _ ⟨k, rfl, fun e => h1 e E q1 q2 q3, fun e => h2 e E q1 q2 q3⟩
theorem bo_aug {i : Nat} {e : IE} {b : IS} {x y : Int} {o : Option RV} {P : PEnv → Prop} (hx : ρ.get i = .val (.int x)) (h : Ev C e ρ r' ρ1) (hy : r'.toD = .int y) (hb : Bo C b (ρ1.put i (.val (.int (x + y)))) n o P) : Bo C (.seq (.aug i e) b) ρ n o P := fun E q1 q2 q3 => ⟨x, hx, h _ ⟨y, hy, hb E q1 q2 q3⟩⟩
theorem bo_app {i : Nat} {e : IE} {b : IS} {xs : List D} {o : Option RV} {P : PEnv → Prop} (h0 : (ρ.get i).isO = true) (h : EvK C e ρ d ρ1) (hx : ρ1.get i = .own xs) (hz : xs.length < sizeLine) (hb : Bo C b (ρ1.put i (.own (xs ++ [d]))) n o P) : Bo C (.seq (.app i e) b) ρ n o P := fun E q1 q2 q3 => by
  obtain ⟨r, h1, h2⟩ := h
  exact ⟨h0, h1 _ (h2 _ ⟨xs, hx, hz, hb E q1 q2 q3⟩)⟩
theorem bo_asgL {i : Nat} {k e : IE} {b : IS} {xs : List D} {j : Nat} {o : Option RV} {P : PEnv → Prop} (h : EvK C e ρ d ρ1) (h0 : (ρ1.get i).plain = false) (hk : Ev C k ρ1 r' ρ2) (hj : r'.toD = .int (j : Nat)) (hx : ρ2.get i = .own xs) (hl : j < xs.length) (hb : Bo C b (ρ2.put i (.own (xs.set j d))) n o P) : Bo C (.seq (.asgS i k e) b) ρ n o P := fun E q1 q2 q3 => by
  obtain ⟨r, h1, h2⟩ := h
  refine h1 _ (h2 _ ⟨h0, hk _ ?_⟩)
  show match ρ2.get i with | .own xs => _ | .owd kvs => _ | _ => False
  rw [hx]
  exact ⟨(j : Nat), j, hj, by unfold ixN; simp; omega, hb E q1 q2 q3⟩
theorem bo_asgD {κ ν : Type} [En κ] [DecidableEq κ] [Dt κ] [Ky κ] [En ν] {i : Nat} {k e : IE} {b : IS} {kvs : List (κ × ν)} {a : κ} {v : ν} {o : Option RV} {P : PEnv → Prop} (h : EvK C e ρ (enc v) ρ1) (h0 : (ρ1.get i).plain = false) (hk : EvK C k ρ1 (enc a) ρ2) (hx : ρ2.get i = .owd (encKV kvs)) (hl : kvs.length < sizeLine) (hb : Bo C b (ρ2.put i (.owd (encKV (pt kvs a v)))) n o P) (hd : Ky.kd κ ≤ 8 := by decide) : Bo C (.seq (.asgS i k e) b) ρ n o P := fun E q1 q2 q3 => by
  obtain ⟨r, h1, h2⟩ := h
  obtain ⟨s, h3, h4⟩ := hk
  refine h1 _ (h2 _ ⟨h0, h3 _ ?_⟩)
  show match ρ2.get i with | .own xs => _ | .owd kvs => _ | _ => False
  rw [hx]
  refine h4 _ ⟨keyOkE kvs a hd, by unfold encKV; rw [List.length_map]; exact hl, ?_⟩
  rw [putE]
  exact hb E q1 q2 q3
/-! ### loops -/
/-- a loop whose turns only go on: I by the number of the turns done -/
theorem rt_for {α : Type} {tg : Tg} {it : IE} {body rest : IS} {xs : List α} {f : α → D} (I : Nat → PEnv → Prop) (hi : EvI C false it ρ (xs.map f) ρ1) (h0 : I 0 ρ1)
    (ht : ∀ i x ρ, xs[i]? = some x → I i ρ → ∃ ρ2, TgR tg (f x) ρ ρ2 ∧ Bo C body ρ2 n none (I (i + 1))) (hr : xs.length ≤ sizeLine → ∀ ρ, I xs.length ρ → Rt C rest ρ n r) : Rt C (.seq (.fr tg it body) rest) ρ n r := fun E q => hi _ fun hz => by
  rw [List.length_map] at hz
  refine for_inv (E := ⟨fun ρ1 => wpS C rest ρ1 E, E.rt, E.bk, E.ct⟩) I _ 0 h0 (fun i d ρ e hI Nx hN => ?_) (fun ρ hI => hr hz ρ (by simpa using hI) E q)
  rw [List.getElem?_map] at e
  obtain ⟨x, hx, rfl⟩ := Option.map_eq_some_iff.mp e
  obtain ⟨ρ2, h1, h2⟩ := ht i x ρ hx (by simpa using hI)
  exact h1 _ (h2 _ (fun r h => by cases h) (fun _ ρ' hP => hN ρ' (by simpa using hP)) (fun _ ρ' hP => hN ρ' (by simpa using hP)))
/-- a loop that looks for the first turn that gives something -/
theorem for_fs {α : Type} {tg : Tg} {body : IS} {f : α → D} {P : PEnv → Prop} {o : α → Option RV} {E : PEnds} : ∀ (xs : List α) {ρ : PEnv}, P ρ → (∀ x ∈ xs, ∀ ρ, P ρ → ∃ ρ2, TgR tg (f x) ρ ρ2 ∧ Bo C body ρ2 n (o x) P) → (∀ r, xs.findSome? o = some r → E.rt r n) → (xs.findSome? o = none → ∀ ρ, P ρ → E.nx ρ) → forL tg (wpS C body) (xs.map f) ρ E
  | [], ρ, h, _, _, q => q rfl ρ h
  | x :: xs, ρ, h, ht, q1, q2 => by
    obtain ⟨ρ2, h1, h2⟩ := ht x List.mem_cons_self ρ h
    have next : o x = none → ∀ ρ', P ρ' → forL tg (wpS C body) (xs.map f) ρ' E := fun e ρ' h' => for_fs xs h' (fun y hy => ht y (List.mem_cons_of_mem _ hy)) (fun r hr => q1 r (by rw [List.findSome?_cons, e]; exact hr)) (fun hr => q2 (by rw [List.findSome?_cons, e]; exact hr))
    exact h1 _ (h2 _ (fun r hr => q1 r (by rw [List.findSome?_cons, hr])) next next)
theorem rt_find {α : Type} {tg : Tg} {it : IE} {body rest : IS} {xs : List α} {f : α → D} (P : PEnv → Prop) {o : α → Option RV} (hi : EvI C false it ρ (xs.map f) ρ1) (h0 : P ρ1)
    (ht : ∀ x ∈ xs, ∀ ρ, P ρ → ∃ ρ2, TgR tg (f x) ρ ρ2 ∧ Bo C body ρ2 n (o x) P) (h1 : ∀ r', xs.findSome? o = some r' → r' = r) (h2 : xs.findSome? o = none → ∀ ρ, P ρ → Rt C rest ρ n r) : Rt C (.seq (.fr tg it body) rest) ρ n r := fun E q => hi _ fun _ =>
  for_fs xs h0 ht (fun r' hr => by rw [h1 r' hr]; exact q) (fun hr ρ hP => h2 hr ρ hP E q)
/-- for x in xs: if not p x: return False -/
theorem rt_all {α : Type} {tg : Tg} {it : IE} {body rest : IS} {xs : List α} {f : α → D} {p : α → Bool} (P : PEnv → Prop) (hi : EvI C false it ρ (xs.map f) ρ1) (h0 : P ρ1)
    (ht : ∀ x ∈ xs, ∀ ρ, P ρ → ∃ ρ2, TgR tg (f x) ρ ρ2 ∧ Bo C body ρ2 n (if (!p x) = true then some (.val (.bl false)) else none) P) (h1 : xs.all p = false → r = .val (.bl false)) (h2 : xs.all p = true → ∀ ρ, P ρ → Rt C rest ρ n r) : Rt C (.seq (.fr tg it body) rest) ρ n r := by
  refine rt_find P hi h0 ht (fun r' hr => ?_) (fun hr => ?_)
  · obtain ⟨x, hx, e⟩ := List.exists_of_findSome?_eq_some hr
    have hp : p x = false := by
      cases h : p x with
      | false => rfl
      | true => rw [h] at e; cases e
    rw [hp] at e
    cases e
    refine (h1 ?_).symm
    rw [Bool.eq_false_iff]
    intro hh
    rw [List.all_eq_true.mp hh x hx] at hp
    cases hp
  · refine h2 (List.all_eq_true.mpr fun x hx => ?_)
    have := List.findSome?_eq_none_iff.mp hr x hx
    cases h : p x with
    | true => rfl
    | false => rw [h] at this; cases this
theorem bo_find {α : Type} {tg : Tg} {it : IE} {body rest : IS} {xs : List α} {f : α → D} (P : PEnv → Prop) {P' : PEnv → Prop} {o : α → Option RV} {o' : Option RV} (hi : EvI C false it ρ (xs.map f) ρ1) (h0 : P ρ1)
    (ht : ∀ x ∈ xs, ∀ ρ, P ρ → ∃ ρ2, TgR tg (f x) ρ ρ2 ∧ Bo C body ρ2 n (o x) P) (h1 : ∀ r', xs.findSome? o = some r' → o' = some r') (h2 : xs.findSome? o = none → ∀ ρ, P ρ → Bo C rest ρ n o' P') : Bo C (.seq (.fr tg it body) rest) ρ n o' P' := fun E q1 q2 q3 => hi _ fun _ =>
  for_fs xs h0 ht (fun r' hr => q1 r' (h1 r' hr)) (fun hr ρ hP => h2 hr ρ hP E q1 q2 q3)
/-- .. as the last thing of a turn -/
theorem bo_findL {α : Type} {tg : Tg} {it : IE} {body : IS} {xs : List α} {f : α → D} {P : PEnv → Prop} {o : α → Option RV} (hi : EvI C false it ρ (xs.map f) ρ1) (h0 : P ρ1)
    (ht : ∀ x ∈ xs, ∀ ρ, P ρ → ∃ ρ2, TgR tg (f x) ρ ρ2 ∧ Bo C body ρ2 n (o x) P) : Bo C (.seq (.fr tg it body) .skip) ρ n (xs.findSome? o) P := fun E q1 q2 q3 => hi _ fun _ =>
  for_fs xs h0 ht (fun r' hr => q1 r' hr) (fun hr ρ hP => q2 hr ρ hP)
theorem bo_for {α : Type} {tg : Tg} {it : IE} {body rest : IS} {xs : List α} {f : α → D} {o : Option RV} {P : PEnv → Prop} (I : Nat → PEnv → Prop) (hi : EvI C false it ρ (xs.map f) ρ1) (h0 : I 0 ρ1)
    (ht : ∀ i x ρ, xs[i]? = some x → I i ρ → ∃ ρ2, TgR tg (f x) ρ ρ2 ∧ Bo C body ρ2 n none (I (i + 1))) (hr : xs.length ≤ sizeLine → ∀ ρ, I xs.length ρ → Bo C rest ρ n o P) : Bo C (.seq (.fr tg it body) rest) ρ n o P := fun E q1 q2 q3 => hi _ fun hz => by
  rw [List.length_map] at hz
  refine for_inv (E := ⟨fun ρ1 => wpS C rest ρ1 E, E.rt, E.bk, E.ct⟩) I _ 0 h0 (fun i d ρ e hI Nx hN => ?_) (fun ρ hI => hr hz ρ (by simpa using hI) E q1 q2 q3)
  rw [List.getElem?_map] at e
  obtain ⟨x, hx, rfl⟩ := Option.map_eq_some_iff.mp e
  obtain ⟨ρ2, h1, h2⟩ := ht i x ρ hx (by simpa using hI)
  exact h1 _ (h2 _ (fun r h => by cases h) (fun _ ρ' hP => hN ρ' (by simpa using hP)) (fun _ ρ' hP => hN ρ' (by simpa using hP)))
/-- while: I with a measure; a turn may give r -/
theorem whl_m {c : IE} {body : IS} {E : PEnds} (I : Nat → PEnv → Prop) (h : ∀ m ρ, I m ρ → ∃ k ρ1, Ev C c ρ (.val (.bl k)) ρ1 ∧ (k = true → ∃ o, Bo C body ρ1 n o (fun ρ' => ∃ m', m' < m ∧ I m' ρ') ∧ ∀ r, o = some r → E.rt r n) ∧ (k = false → E.nx ρ1)) :
    ∀ m ρ, (∃ m', m' ≤ m ∧ I m' ρ) → whlL (wpE C c) (wpS C body) (m + 1) ρ E := fun m => by
  induction m with
  | zero =>
    rintro ρ ⟨m', hm, hI⟩
    obtain ⟨k, ρ1, h1, h2, h3⟩ := h m' ρ hI
    refine h1 _ ⟨k, rfl, fun e => ?_, h3⟩
    obtain ⟨o, h4, h5⟩ := h2 e
    exact h4 _ h5 (fun _ ρ' ⟨m2, h6, h7⟩ => by omega) (fun _ ρ' ⟨m2, h6, h7⟩ => by omega)
  | succ m ih =>
    rintro ρ ⟨m', hm, hI⟩
    obtain ⟨k, ρ1, h1, h2, h3⟩ := h m' ρ hI
    refine h1 _ ⟨k, rfl, fun e => ?_, h3⟩
    obtain ⟨o, h4, h5⟩ := h2 e
    exact h4 _ h5 (fun _ ρ' ⟨m2, h6, h7⟩ => ih ρ' ⟨m2, by omega, h7⟩) (fun _ ρ' ⟨m2, h6, h7⟩ => ih ρ' ⟨m2, by omega, h7⟩)
theorem rt_whl {c : IE} {body rest : IS} (I : Nat → PEnv → Prop) {m : Nat} (h0 : I m ρ) (h : ∀ m ρ, I m ρ → ∃ k ρ1, Ev C c ρ (.val (.bl k)) ρ1 ∧ (k = true → ∃ o, Bo C body ρ1 n o (fun ρ' => ∃ m', m' < m ∧ I m' ρ') ∧ ∀ r', o = some r' → r' = r) ∧ (k = false → Rt C rest ρ1 n r)) : Rt C (.seq (.whl c body) rest) ρ n r := fun E q =>
  ⟨m + 1, whl_m (E := ⟨fun ρ1 => wpS C rest ρ1 E, E.rt, E.bk, E.ct⟩) I (fun m ρ hI => by
    obtain ⟨k, ρ1, h1, h2, h3⟩ := h m ρ hI
    refine ⟨k, ρ1, h1, fun e => ?_, fun e => h3 e E q⟩
    obtain ⟨o, h4, h5⟩ := h2 e
    exact ⟨o, h4, fun r' hr => by show E.rt r' n; rw [h5 r' hr]; exact q⟩) m ρ ⟨m, Nat.le_refl _, h0⟩⟩
/-! ### defs -/
theorem wpF_of {N : Nat} {b : IS} {as : List D} {dr : Nat} {Q : RV → Nat → Prop} (h : Rt C b ⟨as.map SV.val ++ List.replicate (N - as.length) SV.no, dr⟩ dr r) (q : Q r dr) : wpF C N b as dr Q := h _ q
end PL
/-! TL5: what draws. -/
namespace PL
open PySem PySem.Spec PyProof.Rows L2
open En
variable {C : PC} {ρ ρ' ρ1 ρ2 ρ3 : PEnv} {r r' s t : RV} {d d' : D} {n : Nat} {Q : RK} {E : PEnds}
/-! expressions, one step -/
theorem wp_ev {e : IE} (h : Ev C e ρ r ρ1) (q : Q r ρ1) : wpE C e ρ Q := h Q q
theorem wp_bin {o : Op2} {a b : IE} (h : wpE C a ρ fun x ρ1 => wpE C b ρ1 fun y ρ2 => binP o x.toD y.toD fun r => Q r ρ2) : wpE C (.bin o a b) ρ Q := h
theorem wp_cmp {c : Cm} {a b : IE} (h : wpE C a ρ fun x ρ1 => wpE C b ρ1 fun y ρ2 => cmpP c x.toD y.toD fun r => Q (.val (.bl r)) ρ2) : wpE C (.cmp c a b) ρ Q := h
theorem wp_idx {a b : IE} (h : wpE C a ρ fun x ρ1 => wpE C b ρ1 fun y ρ2 => idxP x.toD y.toD fun d => Q (.val d) ρ2) : wpE C (.idx a b) ρ Q := h
theorem wp_tup {as : IE} (h : wpA C false as ρ fun ds ρ1 => ds.length ≤ sizeLine ∧ Q (.val (.tup ds)) ρ1) : wpE C (.tup as) ρ Q := h
theorem wp_lst {as : IE} (h : wpA C false as ρ fun ds ρ1 => ds.length ≤ sizeLine ∧ Q (.own ds) ρ1) : wpE C (.lst as) ρ Q := h
theorem wp_blt {f : BI} {as : IE} (h : wpA C true as ρ fun ds ρ1 => bltP f ds fun r => Q r ρ1) : wpE C (.blt f as) ρ Q := h
theorem wp_callA {f : Nat} {as : IE} (h : wpA C false as ρ fun ds ρ1 => C.sp f ds ρ1.dr (fun r n => Q r ⟨ρ1.sl, n⟩) C.xe) : wpE C (.call f as) ρ Q := h
theorem wp_call {f : Nat} {as : IE} {ds : List D} {S : Spec} (hS : C.sp f = S) (ha : EvA C false as ρ ds ρ1) (h : S ds ρ1.dr (fun r n => Q r ⟨ρ1.sl, n⟩) C.xe) : wpE C (.call f as) ρ Q := ha _ (by rw [hS]; exact h)
theorem wp_aF {a as : IE} {Q : AK} (h : wpE C a ρ fun x ρ1 => x.kept fun d => wpA C false as ρ1 fun ds ρ2 => Q (d :: ds) ρ2) : wpA C false (.acons a as) ρ Q := h
theorem wp_aT {a as : IE} {Q : AK} (h : wpE C a ρ fun x ρ1 => wpA C true as ρ1 fun ds ρ2 => Q (x.toD :: ds) ρ2) : wpA C true (.acons a as) ρ Q := h
theorem wp_a0 {b : Bool} {Q : AK} (h : Q [] ρ) : wpA C b .anil ρ Q := h
theorem wp_itT {a : IE} {Q : AK} (h : wpE C a ρ fun x ρ1 => ∃ xs, itemsD x.toD = some xs ∧ ((isRng x.toD = false → xs.length ≤ sizeLine) → Q xs ρ1)) : wpI C true (.itSeq a) ρ Q := h
theorem wp_itF {a : IE} {Q : AK} (h : wpE C a ρ fun x ρ1 => x.kept fun d => ∃ xs, itemsD d = some xs ∧ ((isRng d = false → xs.length ≤ sizeLine) → Q xs ρ1)) : wpI C false (.itSeq a) ρ Q := h
/-! a draw -/
theorem wp_draw {f : Nat} {as : IE} {m : Nat} (hS : C.sp f = sp_draw) (ha : EvA C false as ρ [.pool, .int (m : Nat)] ρ1) (hm : 0 < m) (hd : ρ1.dr < 2 ^ 40) (h : ∀ v : Nat, v < m → Q (.val (.int (v : Nat))) ⟨ρ1.sl, ρ1.dr + 1⟩) : wpE C (.call f as) ρ Q := wp_call hS ha ⟨m, rfl, by omega, hd, fun v h0 h1 => by
  obtain ⟨k, rfl⟩ : ∃ k : Nat, v = k := ⟨v.toNat, by omega⟩
  exact h k (by omega)⟩
/-! statements -/
theorem hs_asg {i : Nat} {e : IE} {b : IS} {v : SV} (h : Ev C e ρ r ρ1) (hs : SlR r v) (hb : wpS C b (ρ1.put i v) E) : wpS C (.seq (.asg (.nm i) e) b) ρ E := h _ (hs _ hb)
/-- .. of what may draw -/
theorem hs_asgW {i : Nat} {e : IE} {b : IS} (h : wpE C e ρ fun r ρ1 => r.slot fun v => wpS C b (ρ1.put i v) E) : wpS C (.seq (.asg (.nm i) e) b) ρ E := h
theorem hs_asgT {is : List Nat} {e : IE} {b : IS} (h : Ev C e ρ r ρ1) (hk : Kp r d) (ht : TgR (.tp is) d ρ1 ρ2) (hb : wpS C b ρ2 E) : wpS C (.seq (.asg (.tp is) e) b) ρ E := h _ (hk _ (ht _ hb))
theorem hs_ifs {c : IE} {a a' b : IS} {k : Bool} (h : Ev C c ρ (.val (.bl k)) ρ1) (h1 : k = true → wpS C (.seq a b) ρ1 E) (h2 : k = false → wpS C (.seq a' b) ρ1 E) : wpS C (.seq (.ifs c a a') b) ρ E := h _ ⟨k, rfl, h1, h2⟩
theorem hs_ifsW {c : IE} {a a' b : IS} (h : wpE C c ρ fun x ρ1 => ∃ k, x = .val (.bl k) ∧ (k = true → wpS C (.seq a b) ρ1 E) ∧ (k = false → wpS C (.seq a' b) ρ1 E)) : wpS C (.seq (.ifs c a a') b) ρ E := h
theorem hs_skip {b : IS} (h : wpS C b ρ E) : wpS C (.seq .skip b) ρ E := h
theorem hs_assoc {a b c : IS} (h : wpS C (.seq a (.seq b c)) ρ E) : wpS C (.seq (.seq a b) c) ρ E := h
theorem hs_ret {e : IE} {b : IS} (h : Ev C e ρ r ρ1) (q : E.rt r ρ1.dr) : wpS C (.seq (.ret e) b) ρ E := h _ q
theorem hs_retW {e : IE} {b : IS} (h : wpE C e ρ fun r ρ1 => E.rt r ρ1.dr) : wpS C (.seq (.ret e) b) ρ E := h
theorem hs_end (h : E.nx ρ) : wpS C .skip ρ E := h
theorem hs_cnt {b : IS} (h : E.ct ρ) : wpS C (.seq .cnt b) ρ E := h
theorem hs_app {i : Nat} {e : IE} {b : IS} {xs : List D} (h0 : (ρ.get i).isO = true) (h : EvK C e ρ d ρ1) (hx : ρ1.get i = .own xs) (hz : xs.length < sizeLine) (hb : wpS C b (ρ1.put i (.own (xs ++ [d]))) E) : wpS C (.seq (.app i e) b) ρ E := by
  obtain ⟨r, h1, h2⟩ := h
  exact ⟨h0, h1 _ (h2 _ ⟨xs, hx, hz, hb⟩)⟩
theorem hs_appW {i : Nat} {e : IE} {b : IS} (h0 : (ρ.get i).isO = true) (h : wpE C e ρ fun r ρ1 => r.kept fun d => ∃ xs, ρ1.get i = .own xs ∧ xs.length < sizeLine ∧ wpS C b (ρ1.put i (.own (xs ++ [d]))) E) : wpS C (.seq (.app i e) b) ρ E := ⟨h0, h⟩
theorem hs_asgL {i : Nat} {k e : IE} {b : IS} {xs : List D} {j : Nat} (h : EvK C e ρ d ρ1) (h0 : (ρ1.get i).plain = false) (hk : Ev C k ρ1 r' ρ2) (hj : r'.toD = .int (j : Nat)) (hx : ρ2.get i = .own xs) (hl : j < xs.length) (hb : wpS C b (ρ2.put i (.own (xs.set j d))) E) : wpS C (.seq (.asgS i k e) b) ρ E := by
  obtain ⟨r, h1, h2⟩ := h
  refine h1 _ (h2 _ ⟨h0, hk _ ?_⟩)
  show match ρ2.get i with | .own xs => _ | .owd kvs => _ | _ => False
  rw [hx]
  exact ⟨(j : Nat), j, hj, by unfold ixN; simp; omega, hb⟩
theorem hs_popT {k i : Nat} {e : IE} {b : IS} {ts xs : List D} (ht : ρ.get k = .val (.tup ts)) (h0 : (ρ.get i).isO = true) (h : wpE C e ρ fun r ρ1 => ∃ j : Nat, r.toD = .int (j : Nat) ∧ ρ1.get i = .own xs ∧ j < xs.length ∧ xs.length ≤ 1000000 ∧ ts.length + 1 ≤ sizeLine ∧ ∀ d, xs[j]? = some d → wpS C b ((ρ1.put i (.own (xs.eraseIdx j))).put k (.val (.tup (ts ++ [d])))) E)
    (mono : ∀ (P R : RK), (∀ r ρ, P r ρ → R r ρ) → wpE C e ρ P → wpE C e ρ R) : wpS C (.seq (.popT k i e) b) ρ E := ⟨ts, ht, h0, mono _ _ (fun r ρ1 ⟨j, h1, h2, h3, h4, h5, h6⟩ => ⟨xs, j, j, xs[j], h2, h1, ⟨by omega, by omega⟩, by unfold ixN; simp; omega, List.getElem?_eq_getElem h3, h5, h6 _ (List.getElem?_eq_getElem h3)⟩) h⟩
/-- a loop; I by the number of the turns done -/
theorem hs_for {α : Type} {tg : Tg} {it : IE} {body rest : IS} {xs : List α} {f : α → D} (I : Nat → PEnv → Prop) (hi : EvI C false it ρ (xs.map f) ρ1) (h0 : I 0 ρ1)
    (ht : ∀ i x ρ, xs[i]? = some x → I i ρ → ∃ ρ2, TgR tg (f x) ρ ρ2 ∧ ∀ Nx : PEnv → Prop, (∀ ρ', I (i + 1) ρ' → Nx ρ') → wpS C body ρ2 ⟨Nx, E.rt, fun ρ => wpS C rest ρ E, Nx⟩) (hr : ∀ ρ, I xs.length ρ → wpS C rest ρ E) : wpS C (.seq (.fr tg it body) rest) ρ E := hi _ fun hz => by
  refine for_inv (E := ⟨fun ρ1 => wpS C rest ρ1 E, E.rt, E.bk, E.ct⟩) I _ 0 h0 (fun i d ρ e hI Nx hN => ?_) (fun ρ hI => hr ρ (by simpa using hI))
  rw [List.getElem?_map] at e
  obtain ⟨x, hx, rfl⟩ := Option.map_eq_some_iff.mp e
  obtain ⟨ρ2, h1, h2⟩ := ht i x ρ hx (by simpa using hI)
  exact h1 _ (h2 Nx fun ρ' hP => hN ρ' (by simpa using hP))
/-! comprehensions that draw -/
/-- what may come of each item -/
def Each {α β : Type} (Φ : α → β → Prop) (xs : List α) (ys : List β) : Prop := ys.length = xs.length ∧ ∀ (i : Nat) (x : α) (y : β), xs[i]? = some x → ys[i]? = some y → Φ x y
theorem wp_compD {α β : Type} [En β] {vs : List Nat} {tg : Tg} {it e : IE} {xs : List α} {f : α → D} {sl sl0 : List SV} {dr c : Nat} {T : α → Nat → PEnv} (Φ : α → β → Prop) (hp : ρ.plainAt vs = true) (hi : EvI C true it ρ (xs.map f) ⟨sl, dr⟩) (hw0 : (⟨sl, dr⟩ : PEnv).wipe vs = ⟨sl0, dr⟩) (hb : ∀ m, PEnv.back ⟨sl, dr⟩ ⟨sl0, m⟩ vs = ⟨sl, m⟩)
    (ht : ∀ x m, TgR tg (f x) ⟨sl0, m⟩ (T x m))
    (he : ∀ x ∈ xs, ∀ m, m + c ≤ dr + c * xs.length → ∀ Q : RK, (∀ (y : β) (r : RV) (ρ3 : PEnv), Kp r (enc y) → Φ x y → (∃ m', m' ≤ m + c ∧ ρ3.wipe vs = ⟨sl0, m'⟩) → Q r ρ3) → wpE C e (T x m) Q)
    (q : ∀ (ys : List β) (m : Nat), Each Φ xs ys → m ≤ dr + c * xs.length → Q (.own (ys.map enc)) ⟨sl, m⟩) : wpE C (.comp vs tg it (.cst (.bl true)) e) ρ Q := ⟨hp, hi _ fun hz => by
  rw [List.length_map] at hz
  rw [hw0]
  have key : ∀ (zs : List α) (acc : List β) (m : Nat), acc.length + zs.length ≤ sizeLine → (∀ x ∈ zs, x ∈ xs) → m + c * zs.length ≤ dr + c * xs.length →
      (∀ (ys : List β) (m' : Nat), Each Φ zs ys → m' ≤ m + c * zs.length → Q (.own ((acc ++ ys).map enc)) ⟨sl, m'⟩) →
      compL vs tg (wpE C (.cst (.bl true))) (wpE C e) (zs.map f) ⟨sl0, m⟩ (acc.map enc) fun acc ρ2 => Q (.own acc) (PEnv.back ⟨sl, dr⟩ ρ2 vs) := fun zs => by
    induction zs with
    | nil =>
      intro acc m _ _ _ q
      show Q _ (PEnv.back ⟨sl, dr⟩ ⟨sl0, m⟩ vs)
      rw [hb]
      have := q [] m ⟨rfl, fun i x y e => by simp at e⟩ (by omega)
      rwa [List.append_nil] at this
    | cons x zs ih =>
      intro acc m hz hm hl q
      have hc : c * (x :: zs).length = c * zs.length + c := by rw [List.length_cons, Nat.mul_add, Nat.mul_one]
      rw [hc] at hl
      have hz : acc.length + (zs.length + 1) ≤ sizeLine := hz
      refine ht x m _ ⟨true, rfl, fun _ => ?_, fun h => by cases h⟩
      refine he x (hm x List.mem_cons_self) m (by omega) _ fun y r ρ3 hk hP ⟨m', h1, h2⟩ => hk _ ⟨by rw [List.length_map]; omega, ?_⟩
      rw [h2]
      have := ih (acc ++ [y]) m' (by rw [List.length_append, List.length_singleton]; omega) (fun z hz => hm z (List.mem_cons_of_mem _ hz)) (by omega) fun ys m2 hE hm2 => by
        rw [List.append_assoc]
        refine q (y :: ys) m2 ⟨by rw [List.length_cons, hE.1, List.length_cons], fun i x' y' e1 e2 => ?_⟩ (by rw [hc]; omega)
        cases i with
        | zero => simp at e1 e2; subst e1; subst e2; exact hP
        | succ i => exact hE.2 i x' y' (by simpa using e1) (by simpa using e2)
      rw [List.map_append] at this
      exact this
  have := key xs [] dr (by simpa using hz) (fun _ h => h) (Nat.le_refl _) (fun ys m' hE hm => by rw [List.nil_append]; exact q ys m' hE hm)
  exact this⟩
/-- .. behind the walk's start -/
theorem compL_D {α β : Type} [En β] {vs : List Nat} {tg : Tg} {e : IE} {xs : List α} {f : α → D} {sl0 : List SV} {dr c : Nat} {T : α → Nat → PEnv} {K : List D → PEnv → Prop} (Φ : α → β → Prop) (hz : xs.length ≤ sizeLine) (ht : ∀ x m, TgR tg (f x) ⟨sl0, m⟩ (T x m))
    (he : ∀ x ∈ xs, ∀ m, m + c ≤ dr + c * xs.length → ∀ Q : RK, (∀ (y : β) (r : RV) (ρ3 : PEnv), Kp r (enc y) → Φ x y → (∃ m', m' ≤ m + c ∧ ρ3.wipe vs = ⟨sl0, m'⟩) → Q r ρ3) → wpE C e (T x m) Q)
    (q : ∀ (ys : List β) (m : Nat), Each Φ xs ys → m ≤ dr + c * xs.length → K (ys.map enc) ⟨sl0, m⟩) : compL vs tg (wpE C (.cst (.bl true))) (wpE C e) (xs.map f) ⟨sl0, dr⟩ [] K := by
  have key : ∀ (zs : List α) (acc : List β) (m : Nat), acc.length + zs.length ≤ sizeLine → (∀ x ∈ zs, x ∈ xs) → m + c * zs.length ≤ dr + c * xs.length →
      (∀ (ys : List β) (m' : Nat), Each Φ zs ys → m' ≤ m + c * zs.length → K ((acc ++ ys).map enc) ⟨sl0, m'⟩) →
      compL vs tg (wpE C (.cst (.bl true))) (wpE C e) (zs.map f) ⟨sl0, m⟩ (acc.map enc) K := fun zs => by
    induction zs with
    | nil =>
      intro acc m _ _ _ q
      have := q [] m ⟨rfl, fun i x y e => by simp at e⟩ (by omega)
      rwa [List.append_nil] at this
    | cons x zs ih =>
      intro acc m hz hm hl q
      have hc : c * (x :: zs).length = c * zs.length + c := by rw [List.length_cons, Nat.mul_add, Nat.mul_one]
      rw [hc] at hl
      have hz : acc.length + (zs.length + 1) ≤ sizeLine := hz
      refine ht x m _ ⟨true, rfl, fun _ => ?_, fun h => by cases h⟩
      refine he x (hm x List.mem_cons_self) m (by omega) _ fun y r ρ3 hk hP ⟨m', h1, h2⟩ => hk _ ⟨by rw [List.length_map]; omega, ?_⟩
      rw [h2]
      have := ih (acc ++ [y]) m' (by rw [List.length_append, List.length_singleton]; omega) (fun z hz => hm z (List.mem_cons_of_mem _ hz)) (by omega) fun ys m2 hE hm2 => by
        rw [List.append_assoc]
        refine q (y :: ys) m2 ⟨by rw [List.length_cons, hE.1, List.length_cons], fun i x' y' e1 e2 => ?_⟩ (by rw [hc]; omega)
        cases i with
        | zero => simp at e1 e2; subst e1; subst e2; exact hP
        | succ i => exact hE.2 i x' y' (by simpa using e1) (by simpa using e2)
      rw [List.map_append] at this
      exact this
  exact key xs [] dr (by simpa using hz) (fun _ h => h) (Nat.le_refl _) (fun ys m' hE hm => by rw [List.nil_append]; exact q ys m' hE hm)
/-- a comprehension whose turns keep I -/
theorem compL_I {α β : Type} [En β] {vs : List Nat} {tg : Tg} {e : IE} {xs : List α} {f : α → D} {g : α → β} {K : List D → PEnv → Prop} (I : PEnv → Prop) (hz : xs.length ≤ sizeLine)
    (he : ∀ x ∈ xs, ∀ ρ, I ρ → ∃ ρx, TgR tg (f x) ρ ρx ∧ ∀ Q : RK, (∀ (r : RV) (ρ3 : PEnv), Kp r (enc (g x)) → I (ρ3.wipe vs) → Q r ρ3) → wpE C e ρx Q) (h0 : I ρ)
    (q : ∀ ρ, I ρ → K ((xs.map g).map enc) ρ) : compL vs tg (wpE C (.cst (.bl true))) (wpE C e) (xs.map f) ρ [] K := by
  have key : ∀ (zs : List α) (acc : List D) (ρ : PEnv), acc.length + zs.length ≤ sizeLine → (∀ x ∈ zs, x ∈ xs) → I ρ → (∀ ρ, I ρ → K (acc ++ (zs.map g).map enc) ρ) → compL vs tg (wpE C (.cst (.bl true))) (wpE C e) (zs.map f) ρ acc K := fun zs => by
    induction zs with
    | nil =>
      intro acc ρ _ _ hI q
      have := q ρ hI
      rw [List.map_nil, List.map_nil, List.append_nil] at this
      exact this
    | cons x zs ih =>
      intro acc ρ hz hm hI q
      have hz : acc.length + (zs.length + 1) ≤ sizeLine := hz
      obtain ⟨ρx, h1, h2⟩ := he x (hm x List.mem_cons_self) ρ hI
      refine h1 _ ⟨true, rfl, fun _ => ?_, fun h => by cases h⟩
      refine h2 _ fun r ρ3 hk hI3 => hk _ ⟨by omega, ?_⟩
      exact ih (acc ++ [enc (g x)]) _ (by rw [List.length_append, List.length_singleton]; omega) (fun z hz => hm z (List.mem_cons_of_mem _ hz)) hI3 fun ρ' hI' => by
        have := q ρ' hI'
        simpa using this
  exact key xs [] ρ (by simpa using hz) (fun _ h => h) h0 (fun ρ hI => by rw [List.nil_append]; exact q ρ hI)
theorem rng_map (n : Nat) : rngL 0 (n : Nat) = (List.range n).map enc := by
  unfold rngL
  rw [Int.sub_zero, Int.toNat_natCast]
  exact List.map_congr_left fun i _ => by rw [Int.zero_add]; rfl
/-- those items that a draw takes -/
theorem wp_compF {α : Type} [En α] {vs : List Nat} {i j : Nat} {it c : IE} {xs : List α} {sl sl0 : List SV} {dr k : Nat} (hp : ρ.plainAt vs = true) (hi : EvI C true it ρ (xs.map enc) ⟨sl, dr⟩) (hw0 : (⟨sl, dr⟩ : PEnv).wipe vs = ⟨sl0, dr⟩) (hb : ∀ m, PEnv.back ⟨sl, dr⟩ ⟨sl0, m⟩ vs = ⟨sl, m⟩)
    (hv : ∀ (x : α) m, ((⟨sl0, m⟩ : PEnv).put i (.val (enc x))).get j = .val (enc x)) (hw : ∀ (x : α) m, ((⟨sl0, m⟩ : PEnv).put i (.val (enc x))).wipe vs = ⟨sl0, m⟩)
    (hc : ∀ x ∈ xs, ∀ m, m + k ≤ dr + k * xs.length → ∀ Q : RK, (∀ (b : Bool) (m' : Nat), m' ≤ m + k → Q (.val (.bl b)) ((⟨sl0, m'⟩ : PEnv).put i (.val (enc x)))) → wpE C c ((⟨sl0, m⟩ : PEnv).put i (.val (enc x))) Q)
    (q : ∀ (ys : List α) (m : Nat), ys.Sublist xs → m ≤ dr + k * xs.length → Q (.own (ys.map enc)) ⟨sl, m⟩) : wpE C (.comp vs (.nm i) it c (.var j)) ρ Q := ⟨hp, hi _ fun hz => by
  rw [List.length_map] at hz
  rw [hw0]
  have key : ∀ (zs : List α) (acc : List α) (m : Nat), acc.length + zs.length ≤ sizeLine → (∀ x ∈ zs, x ∈ xs) → m + k * zs.length ≤ dr + k * xs.length →
      (∀ (ys : List α) (m' : Nat), ys.Sublist zs → m' ≤ m + k * zs.length → Q (.own ((acc ++ ys).map enc)) ⟨sl, m'⟩) →
      compL vs (.nm i) (wpE C c) (wpE C (.var j)) (zs.map enc) ⟨sl0, m⟩ (acc.map enc) fun acc ρ2 => Q (.own acc) (PEnv.back ⟨sl, dr⟩ ρ2 vs) := fun zs => by
    induction zs with
    | nil =>
      intro acc m _ _ _ q
      show Q _ (PEnv.back ⟨sl, dr⟩ ⟨sl0, m⟩ vs)
      rw [hb]
      have := q [] m (List.Sublist.refl _) (by omega)
      rwa [List.append_nil] at this
    | cons x zs ih =>
      intro acc m hz hm hl q
      have hcc : k * (x :: zs).length = k * zs.length + k := by rw [List.length_cons, Nat.mul_add, Nat.mul_one]
      rw [hcc] at hl
      have hz : acc.length + (zs.length + 1) ≤ sizeLine := hz
      show wpE C c ((⟨sl0, m⟩ : PEnv).put i (.val (enc x))) _
      refine hc x (hm x List.mem_cons_self) m (by omega) _ fun b m' h1 => ⟨b, rfl, fun hb' => ?_, fun hb' => ?_⟩
      · refine ev_var (hv x m') _ ⟨by rw [List.length_map]; omega, ?_⟩
        rw [hw]
        have := ih (acc ++ [x]) m' (by rw [List.length_append, List.length_singleton]; omega) (fun z hz => hm z (List.mem_cons_of_mem _ hz)) (by omega) fun ys m2 hE hm2 => by
          rw [List.append_assoc]
          exact q (x :: ys) m2 (hE.cons_cons x) (by rw [hcc]; omega)
        rw [List.map_append] at this
        exact this
      · rw [hw]
        exact ih acc m' (by omega) (fun z hz => hm z (List.mem_cons_of_mem _ hz)) (by omega) fun ys m2 hE hm2 => q ys m2 (hE.cons x) (by rw [hcc]; omega)
  have := key xs [] dr (by simpa using hz) (fun _ h => h) (Nat.le_refl _) (fun ys m' hE hm => by rw [List.nil_append]; exact q ys m' hE hm)
  exact this⟩
end PL
/-! KA -/
namespace PL
open PySem PySem.Spec PyProof.Rows L2
open En
local macro_rules | `(tactic| walk_at "side") => `(tactic| first
  | assumption | trivial | decide | omega
  | (simp only [List.length_map, List.length_range, List.length_append, List.length_cons, List.length_nil, List.length_singleton, sizeLine_eq] at *; omega)
  | (simp_all; done) | skip)
local macro_rules | `(tactic| walk_at "vl") => `(tactic| skip)
local macro_rules | `(tactic| walk_at "kp") => `(tactic| first | exact kp_val | exact kp_own | exact kp_owd)
local macro_rules | `(tactic| walk_at "as") => `(tactic| first
  | exact as_enc | exact as_N | exact as_I | exact as_B | exact as_S | exact as_T | exact as_L
  | (refine' as_T1 ?_; walk_at "as") | (refine' as_P ?_ ?_ <;> walk_at "as") | exact as_D | skip)
local macro_rules | `(tactic| walk_at "op") => `(tactic| first
  | exact cmp_eqN0 | exact cmp_ltN0 | exact cmp_leN0 | exact cmp_gtN0 | exact cmp_geN0 | exact cmp_neN0 | exact cmp_eqN1 | exact cmp_ltN1 | exact cmp_leN1 | exact cmp_gtN1 | exact cmp_geN1 | exact cmp_neN1 | exact cmp_eqN2 | exact cmp_ltN2 | exact cmp_leN2 | exact cmp_gtN2 | exact cmp_geN2 | exact cmp_neN2 | exact cmp_eqN3 | exact cmp_ltN3 | exact cmp_leN3 | exact cmp_gtN3 | exact cmp_geN3 | exact cmp_neN3 | exact cmp_eqN4 | exact cmp_ltN4 | exact cmp_leN4 | exact cmp_gtN4 | exact cmp_geN4 | exact cmp_neN4 | exact cmp_eqN5 | exact cmp_ltN5 | exact cmp_leN5 | exact cmp_gtN5 | exact cmp_geN5 | exact cmp_neN5 | exact bin_addN1 | exact bin_add1N
  | exact cmp_eqN | exact cmp_neN | exact cmp_ltN | exact cmp_leN | exact cmp_gtN | exact cmp_geN | exact bin_addN
  | exact cmp_eqI | exact cmp_eqS | exact cmp_eqB | exact cmp_eqT | exact cmp_eqT1 | exact cmp_eqT0 | exact cmp_eqL | exact cmp_eqE
  | exact cmp_neI | exact cmp_neS | exact cmp_neB | exact cmp_neT | exact cmp_neL | exact cmp_neE
  | exact cmp_lt | exact cmp_le | exact cmp_gt | exact cmp_ge | exact cmp_ltT
  | exact cmp_inT | exact cmp_ninT | exact cmp_inL | exact cmp_ninL | exact cmp_inTp | exact cmp_ninTp | exact cmp_inLp | exact cmp_ninLp | exact cmp_inD | exact cmp_ninD | exact cmp_inN | exact cmp_ninN
  | exact cmp_isN | exact cmp_isnN | exact cmp_isB | exact cmp_isnB
  | exact bin_add | exact bin_sub | (refine' bin_mul ?_; walk_at "side") | (refine' bin_fdiv ?_; walk_at "side") | (refine' bin_mod ?_; walk_at "side")
  | (refine' bin_addT ?_; walk_at "side") | (refine' bin_addT1 ?_; walk_at "side") | (refine' bin_addL ?_; walk_at "side") | (refine' bin_addL1 ?_; walk_at "side") | (refine' bin_repL ?_; walk_at "side")
  | (refine' idx_T ?_; walk_at "side") | (refine' idx_L ?_; walk_at "side") | (refine' idx_D ?_; walk_at "side") | (refine' idx_0T ?_; walk_at "side") | (refine' idx_0L ?_; walk_at "side") | (refine' idx_lastL ?_; walk_at "side") | (refine' idx_lastT ?_; walk_at "side")
  | (refine' idx_IT ?_; walk_at "side") | (refine' idx_IL ?_; walk_at "side")
  | exact slc_T | exact slc_L | exact rev_T | exact rev_L
  | exact tru_B | exact tru_I | exact tru_N | exact tru_T | exact tru_L
  | exact blt_lenT | exact blt_lenL | exact blt_lenD | exact blt_lenTr | exact blt_lenLr | exact blt_intI | exact blt_intB | exact blt_tupL | exact blt_tupT | (refine' blt_tupR ?_; walk_at "side")
  | exact blt_lstL | exact blt_lstT | exact blt_lstD | (refine' blt_lstR ?_; walk_at "side") | (refine' blt_rngN ?_; walk_at "side") | (refine' blt_rng1 ?_; walk_at "side")
  | exact blt_srtL | exact blt_srtT | exact blt_srtD | exact blt_srtP
  | (refine' blt_minLN ?_; walk_at "side") | (refine' blt_maxLN ?_; walk_at "side") | (refine' blt_minTN ?_; walk_at "side") | (refine' blt_maxTN ?_; walk_at "side")
  | (refine' blt_minL ?_; walk_at "side") | (refine' blt_maxL ?_; walk_at "side") | (refine' blt_minT ?_; walk_at "side") | (refine' blt_maxT ?_; walk_at "side")
  | exact blt_sumLN | exact blt_sumL | exact blt_any | exact blt_all | exact blt_abs | exact blt_min2 | exact blt_max2
  | (refine' mth_ixT ?_; walk_at "side") | (refine' mth_ixL ?_; walk_at "side")
  | exact itm_tup | exact itm_lst | exact itm_dct | (refine' itm_rng ?_; walk_at "side")
  | exact sq_tup | exact sq_lst
  | skip)
local macro_rules | `(tactic| walk_at "tg") => `(tactic| first | exact fun _ => tg_nm | exact fun _ => tg_tp2 | exact fun _ => tg_tp3 | exact fun _ => tg_tp1 | skip)
local macro_rules | `(tactic| walk_at "ek") => `(tactic| first
  | (refine' evk_gen ?e ?k; (case' e => walk_at "ev"); (case' k => first | exact kpa_own | (refine' kpa_val ?_; walk_at "as")))
  | skip)
local macro_rules | `(tactic| walk_at "ea") => `(tactic| first
  | exact eva_nil
  | (refine' eva_T ?e ?d ?r; (case' e => walk_at "ev"); (case' d => first | rfl | skip); (case' r => walk_at "ea"))
  | (refine' eva_F ?e ?d ?r; (case' e => walk_at "ev"); (case' d => first | walk_at "kp" | skip); (case' r => walk_at "ea"))
  | skip)
local macro_rules | `(tactic| walk_at "ei") => `(tactic| first
  | (refine' evi_r1 ?e ?h ?z; (case' e => walk_at "ev"); (case' h => first | rfl | skip); (case' z => walk_at "side"))
  | (refine' evi_r21 ?e ?e2 ?h ?h2 ?z; (case' e => walk_at "ev"); (case' e2 => walk_at "ev"); (case' h => rfl); (case' h2 => rfl); (case' z => walk_at "side"))
  | (refine' evi_r2 ?e ?e2 ?h ?h2 ?z ?z2; (case' e => walk_at "ev"); (case' e2 => walk_at "ev"); (case' h => first | rfl | skip); (case' h2 => first | rfl | skip); (case' z => walk_at "side"); (case' z2 => walk_at "side"))
  | (refine' evi_T ?e ?h; (case' e => walk_at "ev"); (case' h => walk_at "op"))
  | (refine' evi_F ?e ?k ?h; (case' e => walk_at "ev"); (case' k => first | walk_at "kp" | skip); (case' h => walk_at "op"))
  | (refine' evi_zipT ?e ?e2 ?h ?h2; (case' e => walk_at "ev"); (case' e2 => walk_at "ev"); (case' h => walk_at "op"); (case' h2 => walk_at "op"))
  | (refine' evi_zipF ?e ?k ?e2 ?k2 ?h ?h2; (case' e => walk_at "ev"); (case' k => walk_at "kp"); (case' e2 => walk_at "ev"); (case' k2 => walk_at "kp"); (case' h => walk_at "op"); (case' h2 => walk_at "op"))
  | (refine' evi_zip3T ?e ?e2 ?e3 ?h ?h2 ?h3; (case' e => walk_at "ev"); (case' e2 => walk_at "ev"); (case' e3 => walk_at "ev"); (case' h => walk_at "op"); (case' h2 => walk_at "op"); (case' h3 => walk_at "op"))
  | (refine' evi_enumT ?e ?h; (case' e => walk_at "ev"); (case' h => walk_at "op"))
  | (refine' evi_itemsT ?e ?h; (case' e => walk_at "ev"); (case' h => first | rfl | skip))
  | (refine' evi_itemsF ?e ?k ?h; (case' e => walk_at "ev"); (case' k => walk_at "kp"); (case' h => first | rfl | skip))
  | skip)
local macro_rules | `(tactic| walk_at "ev") => `(tactic| first
  | exact ev_cst
  | exact ev_bor rfl | exact ev_borO rfl | exact ev_borD rfl
  | exact ev_var rfl | exact ev_varO rfl | exact ev_varD rfl
  | (refine' ev_bin ?a ?b ?o; (case' a => walk_at "ev"); (case' b => walk_at "ev"); (case' o => walk_at "op"))
  | (refine' ev_cmp ?a ?b ?o; (case' a => walk_at "ev"); (case' b => walk_at "ev"); (case' o => walk_at "op"))
  | (refine' ev_cmp2 ?a ?b ?o ?c ?o2; (case' a => walk_at "ev"); (case' b => walk_at "ev"); (case' o => walk_at "op"); (case' c => walk_at "ev"); (case' o2 => walk_at "op"))
  | (refine' ev_tst ?a ?o; (case' a => walk_at "ev"); (case' o => walk_at "op"))
  | (refine' ev_and ?a ?b; (case' a => walk_at "ev"); (case' b => (intro _; walk_at "ev")))
  | (refine' ev_or ?a ?b; (case' a => walk_at "ev"); (case' b => (intro _; walk_at "ev")))
  | (refine' ev_not ?a; (case' a => walk_at "ev"))
  | (refine' ev_ite ?a ?b ?c; (case' a => walk_at "ev"); (case' b => (intro _; walk_at "ev")); (case' c => (intro _; walk_at "ev")))
  | (refine' ev_idx ?a ?b ?o; (case' a => walk_at "ev"); (case' b => walk_at "ev"); (case' o => walk_at "op"))
  | (refine' ev_blt ?a ?o; (case' a => walk_at "ea"); (case' o => walk_at "op"))
  | (refine' ev_call ?h ?a ?o; (case' h => first | assumption | skip); (case' a => walk_at "ea"); (case' o => walk_at "vl"))
  | (refine' ev_tup ?a ?z; (case' a => walk_at "ea"); (case' z => walk_at "side"))
  | (refine' ev_lst ?a ?z; (case' a => walk_at "ea"); (case' z => walk_at "side"))
  | exact ev_dnew
  | (refine' ev_neg ?a ?o; (case' a => walk_at "ev"); (case' o => first | rfl | skip))
  | (refine' ev_mth ?a ?b ?o; (case' a => walk_at "ev"); (case' b => walk_at "ea"); (case' o => walk_at "op"))
  | (refine' ev_slc0 ?a ?o; (case' a => walk_at "ev"); (case' o => walk_at "op"))
  | (refine' ev_slcF rfl ?a ?b ?h ?o; (case' a => walk_at "ev"); (case' b => walk_at "ev"); (case' h => first | rfl | skip); (case' o => walk_at "op"))
  | (refine' ev_slcT rfl ?a ?b ?h ?o; (case' a => walk_at "ev"); (case' b => walk_at "ev"); (case' h => first | rfl | skip); (case' o => walk_at "op"))
  | (refine' ev_slc2 rfl rfl ?a ?b ?h ?c ?i ?o; (case' a => walk_at "ev"); (case' b => walk_at "ev"); (case' h => first | rfl | skip); (case' c => walk_at "ev"); (case' i => first | rfl | skip); (case' o => walk_at "op"))
  | (refine' ev_rev ?a ?o; (case' a => walk_at "ev"); (case' o => walk_at "op"))
  | (refine' ev_isi ?a ?t ?b; (case' a => walk_at "ev"); (case' t => first | rfl | skip); (case' b => first | rfl | skip))
  | (refine' ev_compI rfl ?hi ?ht ?he ?hw ?hb ?hc; (case' hi => walk_at "ei"); (case' ht => exact fun _ => tg_nm); (case' he => exact fun _ => rfl); (case' hw => exact fun _ => rfl); (case' hb => rfl); (case' hc => (intro _ _; walk_at "ev")))
  | (refine' ev_compA rfl ?hi ?ht ?hw ?hb ?he; (case' hi => walk_at "ei"); (case' ht => walk_at "tg"); (case' hw => exact fun _ => rfl); (case' hb => rfl); (case' he => (intro _ _; walk_at "ek")))
  | (refine' ev_compAG rfl ?hi ?ht ?hw ?hb ?he; (case' hi => walk_at "ei"); (case' ht => walk_at "tg"); (case' hw => exact fun _ => rfl); (case' hb => rfl); (case' he => (intro _ _; walk_at "ek")))
  | (refine' ev_comp rfl ?hi ?ht ?hw ?hb ?hc ?he; (case' hi => walk_at "ei"); (case' ht => walk_at "tg"); (case' hw => exact fun _ => rfl); (case' hb => rfl); (case' hc => (intro _ _; walk_at "ev")); (case' he => (intro _ _ _; walk_at "ek")))
  | (refine' ev_dcompA ?i1 ?i2 ?i3 rfl ?hi ?ht ?hw ?hb ?he ?hv ?hd; (case' hi => walk_at "ei"); (case' ht => walk_at "tg"); (case' hw => exact fun _ => rfl); (case' hb => rfl); (case' he => (intro _ _; walk_at "ek")); (case' hv => (intro _ _; walk_at "ek")); (case' i1 => infer_instance); (case' i2 => infer_instance); (case' i3 => infer_instance); (case' hd => decide))
  | skip)
local macro_rules | `(tactic| walk_at "st") => `(tactic| first
  | (refine' rt_seqR (rt_ret ?e ?d ?q); (case' e => walk_at "ev"); (case' d => rfl))
  | (refine' rt_ret ?e ?d ?q; (case' e => walk_at "ev"); (case' d => rfl))
  | (refine' rt_asg ?e ?s ?b; (case' e => walk_at "ev"); (case' s => first | exact sl_val | exact sl_own | exact sl_owd | skip); (case' b => walk_at "st"))
  | (refine' rt_asgT ?e ?s ?t ?b; (case' e => walk_at "ev"); (case' s => walk_at "kp"); (case' t => first | exact tg_tp2 | exact tg_tp3 | exact tg_tp4 | skip); (case' b => walk_at "st"))
  | (refine' rt_ifs ?e ?a ?b; (case' e => walk_at "ev"); (case' a => (intro _; walk_at "st")); (case' b => (intro _; walk_at "st")))
  | (refine' rt_app rfl ?e ?x ?z ?b; (case' e => walk_at "ek"); (case' x => rfl); (case' z => walk_at "side"); (case' b => walk_at "st"))
  | (refine' rt_asgL ?e ?p ?k ?j ?x ?l ?b; (case' e => walk_at "ek"); (case' p => rfl); (case' k => walk_at "ev"); (case' j => first | rfl | skip); (case' x => rfl); (case' l => walk_at "side"); (case' b => walk_at "st"))
  | (refine' rt_aug rfl ?e ?y ?b; (case' e => walk_at "ev"); (case' y => first | rfl | skip); (case' b => walk_at "st"))
  | (refine' rt_assoc ?_; walk_at "st")
  | (refine' rt_skip ?_; walk_at "st")
  | skip)
local macro_rules | `(tactic| walk_at "bo") => `(tactic| first
  | (refine' bo_asg ?e ?s ?b; (case' e => walk_at "ev"); (case' s => first | exact sl_val | exact sl_own | exact sl_owd | skip); (case' b => walk_at "bo"))
  | (refine' bo_asgT ?e ?s ?t ?b; (case' e => walk_at "ev"); (case' s => walk_at "kp"); (case' t => first | exact tg_tp2 | exact tg_tp3 | exact tg_tp4 | skip); (case' b => walk_at "bo"))
  | (refine' bo_app rfl ?e ?x ?z ?b; (case' e => walk_at "ek"); (case' x => rfl); (case' z => walk_at "side"); (case' b => walk_at "bo"))
  | (refine' bo_asgL ?e ?p ?k ?j ?x ?l ?b; (case' e => walk_at "ek"); (case' p => rfl); (case' k => walk_at "ev"); (case' j => first | rfl | skip); (case' x => rfl); (case' l => walk_at "side"); (case' b => walk_at "bo"))
  | (refine' bo_aug rfl ?e ?y ?b; (case' e => walk_at "ev"); (case' y => first | rfl | skip); (case' b => walk_at "bo"))
  | (refine' bo_ret ?e ?d; (case' e => walk_at "ev"); (case' d => rfl))
  | (refine' bo_ifs' ?e ?a ?b; (case' e => walk_at "ev"); (case' a => (intro _; walk_at "bo")); (case' b => (intro _; walk_at "bo")))
  | (refine' bo_assoc ?_; walk_at "bo")
  | (refine' bo_sk ?_; walk_at "bo")
  | refine' bo_skip ?_ | refine' bo_seqC ?_ | refine' bo_cnt ?_
  | skip)
local macro_rules | `(tactic| walk_at "bof") => `(tactic| first
  | (refine' bo_asg ?e ?s ?b; (case' e => walk_at "ev"); (case' s => first | exact sl_val | exact sl_own | exact sl_owd | skip); (case' b => walk_at "bof"))
  | (refine' bo_asgT ?e ?s ?t ?b; (case' e => walk_at "ev"); (case' s => walk_at "kp"); (case' t => first | exact tg_tp2 | exact tg_tp3 | exact tg_tp4 | skip); (case' b => walk_at "bof"))
  | (refine' bo_ret ?e ?d; (case' e => walk_at "ev"); (case' d => rfl))
  | (refine' bo_ifs ?e ?a ?b; (case' e => walk_at "ev"); (case' a => (intro _; walk_at "bof")); (case' b => (intro _; walk_at "bof")))
  | (refine' bo_assoc ?_; walk_at "bof")
  | (refine' bo_sk ?_; walk_at "bof")
  | refine' bo_skip ?_ | refine' bo_seqC ?_ | refine' bo_cnt ?_
  | skip)
/-! kinds: values of any kind -/
mutual
/-- plain data: no dicts, ranges, pools in it -/
def pl : D → Bool
  | .non => true
  | .bl _ => true
  | .int _ => true
  | .str _ => true
  | .tup xs => pls xs
  | .lst xs => pls xs
  | _ => false
def pls : List D → Bool
  | [] => true
  | x :: xs => pl x && pls xs
end
theorem pls_mem : ∀ {xs : List D}, pls xs = true → ∀ x ∈ xs, pl x = true
  | [], _, _, h => by cases h
  | y :: ys, h, x, hx => by
    have h : (pl y && pls ys) = true := h
    rw [Bool.and_eq_true] at h
    rcases List.mem_cons.mp hx with rfl | hx
    · exact h.1
    · exact pls_mem h.2 x hx
theorem pls_of : ∀ {xs : List D}, (∀ x ∈ xs, pl x = true) → pls xs = true
  | [], _ => rfl
  | y :: ys, h => by
    show (pl y && pls ys) = true
    rw [h y List.mem_cons_self, pls_of fun x hx => h x (List.mem_cons_of_mem _ hx)]
    rfl
theorem pl_ty {d : D} (h : pl d = true) : hasTy d = true := by cases d <;> first | rfl | cases h
theorem pl_int (i : Int) : pl (.int i) = true := rfl
theorem pl_tup {xs : List D} (h : ∀ x ∈ xs, pl x = true) : pl (.tup xs) = true := pls_of h
theorem pl_tupE {xs : List D} (h : pl (.tup xs) = true) : ∀ x ∈ xs, pl x = true := pls_mem h
theorem mapD (xs : List D) : xs.map (enc : D → D) = xs := List.map_id xs
def isNum (v : D) (lo hi : Int) : Bool := match v with
  | .int i => decide (lo ≤ i) && decide (i ≤ hi)
  | _ => false
def isInt (v : D) : Bool := match v with
  | .int _ => true
  | _ => false
def isTupN (v : D) (n : Int) : Bool := match v with
  | .tup xs => decide ((xs.length : Int) = n)
  | _ => false
def isBtw (v : D) (lo hi : Int) : Bool := match v with
  | .tup xs => decide (lo ≤ (xs.length : Int)) && decide ((xs.length : Int) ≤ hi)
  | _ => false
def isStrE (x : D) (w : Str) : Bool := match x with
  | .str y => decide (y = w)
  | _ => false
def isStr1 (xs : List D) (w : Str) : Bool := match xs with
  | x :: _ => isStrE x w
  | [] => false
def isTag (v : D) (w : Str) (n : Int) : Bool := match v with
  | .tup xs => decide ((xs.length : Int) = n) && isStr1 xs w
  | _ => false
/-- a tuple of whole numbers from lo to hi -/
def areInts (v : D) (lo hi : Int) : Bool := match v with
  | .tup xs => xs.all fun x => isNum x lo hi
  | _ => false
theorem isNum_int {v : D} {lo hi : Int} (h : isNum v lo hi = true) : ∃ i : Int, v = .int i ∧ lo ≤ i ∧ i ≤ hi := by
  cases v with
  | int i =>
    have h : (decide (lo ≤ i) && decide (i ≤ hi)) = true := h
    simp only [Bool.and_eq_true, decide_eq_true_eq] at h
    exact ⟨i, rfl, h⟩
  | _ => cases h
theorem all_ints : ∀ {xs : List D} {lo hi : Int}, (xs.all fun x => isNum x lo hi) = true → ∃ is : List Int, xs = is.map enc ∧ ∀ i ∈ is, lo ≤ i ∧ i ≤ hi
  | [], _, _, _ => ⟨[], rfl, fun i h => by cases h⟩
  | x :: xs, lo, hi, h => by
    simp only [List.all_cons, Bool.and_eq_true] at h
    obtain ⟨i, rfl, h1⟩ := isNum_int h.1
    obtain ⟨is, rfl, h2⟩ := all_ints h.2
    exact ⟨i :: is, rfl, fun j hj => by
      rcases List.mem_cons.mp hj with rfl | hj
      · exact h1
      · exact h2 j hj⟩
theorem areInts_ex {v : D} {lo hi : Int} (h : areInts v lo hi = true) : ∃ is : List Int, v = enc is ∧ ∀ i ∈ is, lo ≤ i ∧ i ≤ hi := by
  cases v with
  | tup xs =>
    obtain ⟨is, rfl, h2⟩ := all_ints h
    exact ⟨is, rfl, h2⟩
  | _ => cases h
theorem areInts_enc {is : List Int} {lo hi : Int} : areInts (enc is) lo hi = is.all fun i => decide (lo ≤ i) && decide (i ≤ hi) := by
  show (is.map enc).all (fun x => isNum x lo hi) = _
  rw [List.all_map]; rfl
theorem pl_ints (is : List Int) : pl (enc is) = true := pl_tup fun x hx => by
  obtain ⟨i, _, rfl⟩ := List.mem_map.mp hx
  rfl
theorem pl_nats (is : List Nat) : pl (enc is) = true := pl_tup fun x hx => by
  obtain ⟨i, _, rfl⟩ := List.mem_map.mp hx
  rfl
/-- ascending -/
def asc {α : Type} (lt : α → α → Bool) : List α → Bool
  | [] => true
  | [_] => true
  | a :: b :: r => lt a b && asc lt (b :: r)
theorem asc_ix {α : Type} (lt : α → α → Bool) (d : α) : ∀ xs : List α, ((List.range' 1 (xs.length - 1)).all fun k => lt (xs.getD (k - 1) d) (xs.getD k d)) = asc lt xs
  | [] => rfl
  | [a] => rfl
  | a :: b :: r => by
    have ih := asc_ix lt d (b :: r)
    show ((List.range' 1 (r.length + 1)).all _) = (lt a b && asc lt (b :: r))
    rw [← ih, List.range'_succ, List.all_cons]
    congr 1
    show (List.range' (1 + 1) r.length).all _ = (List.range' 1 r.length).all _
    rw [show (1 + 1 : Nat) = 1 + 1 from rfl, ← List.map_add_range' 1 , List.all_map]
    rw [Bool.eq_iff_iff, List.all_eq_true, List.all_eq_true]
    have e : ∀ k ∈ List.range' 1 r.length, (lt ((a :: b :: r).getD (1 + k - 1) d) ((a :: b :: r).getD (1 + k) d)) = lt ((b :: r).getD (k - 1) d) ((b :: r).getD k d) := fun k hk => by
      have h1 : 1 ≤ k := by rw [List.mem_range'] at hk; obtain ⟨i, _, e⟩ := hk; omega
      obtain ⟨j, rfl⟩ : ∃ j, k = j + 1 := ⟨k - 1, by omega⟩
      rw [show 1 + (j + 1) - 1 = j + 1 by omega, show 1 + (j + 1) = j + 2 by omega, show j + 1 - 1 = j by omega]
      rfl
    constructor
    · intro h k hk
      rw [← e k hk]; exact h k hk
    · intro h k hk
      show lt _ _ = true
      rw [e k hk]; exact h k hk
def nm_is_integer : List Str := ["value"]
def ir_is_integer : IS :=
(.seq (.ret (.and (.isi (.bor 0) .int) (.not (.isi (.bor 0) .bool))))
  .skip)
def fs_is_integer : List (Nat × Str) := []
def cs_is_integer : List (Str × D) := []
@[irreducible] def sp_is_integer : Spec := fun ds dr Q _ => ∃ (value : D), ds = [enc value] ∧ (hasTy value = true ) ∧ Q (.val (enc (isInt value : Bool))) dr
theorem vl_is_integer {value : D} (hp : hasTy value = true ) : VlR sp_is_integer [enc value] (.val (enc (isInt value : Bool))) := fun dr Q xe q => by unfold sp_is_integer; exact ⟨value, rfl, hp, q⟩
theorem rt_is_integer {C : PC} {n : Nat}  (value : D) (hp : hasTy value = true ) : Rt C ir_is_integer ⟨[.val (enc value)], n⟩ n (.val (enc (isInt value : Bool))) := by
  unfold ir_is_integer
  walk_at "st"
  · exact hp
  · exact hp
  · cases value <;> rfl
theorem wp_is_integer (sp : Nat → Spec) (xe : Nat → Nat → Prop)  : ∀ ds dr Q, sp_is_integer ds dr Q (fun _ _ => False) → wpF ⟨sp, xe⟩ nm_is_integer.length ir_is_integer ds dr Q := by
  intro ds dr Q h
  unfold sp_is_integer at h
  obtain ⟨value, rfl, hp, hq⟩ := h
  exact wpF_of (rt_is_integer (C := ⟨sp, xe⟩)  value hp) hq
local macro_rules | `(tactic| walk_at "vl") => `(tactic| (refine' vl_is_integer ?_; walk_at "side"))
def nm_is_number : List Str := ["value", "low", "high"]
def ir_is_number : IS :=
(.seq (.ret (.and (.call 485 (.acons (.var 0) .anil)) (.cmp2 .le .le (.bor 1) (.bor 0) (.bor 2))))
  .skip)
def fs_is_number : List (Nat × Str) := [(485, "is_integer")]
def cs_is_number : List (Str × D) := []
@[irreducible] def sp_is_number : Spec := fun ds dr Q _ => ∃ (value : D) (low : Int) (high : Int), ds = [enc value, enc low, enc high] ∧ (hasTy value = true ) ∧ Q (.val (enc (isNum value low high : Bool))) dr
theorem vl_is_number {value : D} {low : Int} {high : Int} (hp : hasTy value = true ) : VlR sp_is_number [enc value, enc low, enc high] (.val (enc (isNum value low high : Bool))) := fun dr Q xe q => by unfold sp_is_number; exact ⟨value, low, high, rfl, hp, q⟩
theorem rt_is_number {C : PC} {n : Nat} (h_is_integer : C.sp 485 = sp_is_integer) (value : D) (low : Int) (high : Int) (hp : hasTy value = true ) : Rt C ir_is_number ⟨[.val (enc value), .val (enc low), .val (enc high)], n⟩ n (.val (enc (isNum value low high : Bool))) := by
  unfold ir_is_number
  have no : hasTy value = true → isInt value = false → Rt C ir_is_number ⟨[.val (enc value), .val (enc low), .val (enc high)], n⟩ n (.val (enc (isNum value low high : Bool))) := fun h1 h2 => by
    have e : isNum value low high = false := by cases value <;> first | rfl | cases h2
    rw [e]
    unfold ir_is_number
    refine' rt_seqR (rt_ret (ev_andF ?a) ?d ?q)
    case' a => (rw [← h2]; walk_at "ev")
    all_goals rfl
  cases value with
  | int i => (walk_at "st"; rfl)
  | _ => exact no hp rfl
theorem wp_is_number (sp : Nat → Spec) (xe : Nat → Nat → Prop) (h0 : sp 485 = sp_is_integer) : ∀ ds dr Q, sp_is_number ds dr Q (fun _ _ => False) → wpF ⟨sp, xe⟩ nm_is_number.length ir_is_number ds dr Q := by
  intro ds dr Q h
  unfold sp_is_number at h
  obtain ⟨value, low, high, rfl, hp, hq⟩ := h
  exact wpF_of (rt_is_number (C := ⟨sp, xe⟩) h0 value low high hp) hq
local macro_rules | `(tactic| walk_at "vl") => `(tactic| (refine' vl_is_number ?_; walk_at "side"))
def nm_is_tuple : List Str := ["value", "size"]
def ir_is_tuple : IS :=
(.seq (.ret (.and (.isi (.bor 0) .tuple) (.cmp .eq (.blt .len (.acons (.bor 0) .anil)) (.bor 1))))
  .skip)
def fs_is_tuple : List (Nat × Str) := []
def cs_is_tuple : List (Str × D) := []
@[irreducible] def sp_is_tuple : Spec := fun ds dr Q _ => ∃ (value : D) (size : Int), ds = [enc value, enc size] ∧ (hasTy value = true ) ∧ Q (.val (enc (isTupN value size : Bool))) dr
theorem vl_is_tuple {value : D} {size : Int} (hp : hasTy value = true ) : VlR sp_is_tuple [enc value, enc size] (.val (enc (isTupN value size : Bool))) := fun dr Q xe q => by unfold sp_is_tuple; exact ⟨value, size, rfl, hp, q⟩
theorem rt_is_tuple {C : PC} {n : Nat}  (value : D) (size : Int) (hp : hasTy value = true ) : Rt C ir_is_tuple ⟨[.val (enc value), .val (enc size)], n⟩ n (.val (enc (isTupN value size : Bool))) := by
  unfold ir_is_tuple
  have no : isTy .tuple value = false → Rt C ir_is_tuple ⟨[.val (enc value), .val (enc size)], n⟩ n (.val (enc (isTupN value size : Bool))) := fun h2 => by
    have e : isTupN value size = false := by cases value <;> first | rfl | cases h2
    rw [e]
    unfold ir_is_tuple
    refine' rt_seqR (rt_ret (ev_andF ?a) ?d ?q)
    case' a => (rw [← h2]; exact ev_isi (ev_bor rfl) hp rfl)
    all_goals rfl
  cases value with
  | tup xs => (walk_at "st"; rfl)
  | _ => exact no rfl
theorem wp_is_tuple (sp : Nat → Spec) (xe : Nat → Nat → Prop)  : ∀ ds dr Q, sp_is_tuple ds dr Q (fun _ _ => False) → wpF ⟨sp, xe⟩ nm_is_tuple.length ir_is_tuple ds dr Q := by
  intro ds dr Q h
  unfold sp_is_tuple at h
  obtain ⟨value, size, rfl, hp, hq⟩ := h
  exact wpF_of (rt_is_tuple (C := ⟨sp, xe⟩)  value size hp) hq
local macro_rules | `(tactic| walk_at "vl") => `(tactic| (refine' vl_is_tuple ?_; walk_at "side"))
def nm_is_tagged : List Str := ["value", "word", "size"]
def ir_is_tagged : IS :=
(.seq (.ret (.and (.call 536 (.acons (.var 0) (.acons (.var 2) .anil))) (.and (.isi (.idx (.bor 0) (.cst (.int 0))) .str) (.cmp .eq (.idx (.bor 0) (.cst (.int 0))) (.bor 1)))))
  .skip)
def fs_is_tagged : List (Nat × Str) := [(536, "is_tuple")]
def cs_is_tagged : List (Str × D) := []
@[irreducible] def sp_is_tagged : Spec := fun ds dr Q _ => ∃ (value : D) (word : Str) (size : Int), ds = [enc value, enc word, enc size] ∧ (pl value = true ∧ 1 ≤ size ) ∧ Q (.val (enc (isTag value word size : Bool))) dr
theorem vl_is_tagged {value : D} {word : Str} {size : Int} (hp : pl value = true ∧ 1 ≤ size ) : VlR sp_is_tagged [enc value, enc word, enc size] (.val (enc (isTag value word size : Bool))) := fun dr Q xe q => by unfold sp_is_tagged; exact ⟨value, word, size, rfl, hp, q⟩
theorem rt_is_tagged {C : PC} {n : Nat} (h_is_tuple : C.sp 536 = sp_is_tuple) (value : D) (word : Str) (size : Int) (hp : pl value = true ∧ 1 ≤ size ) : Rt C ir_is_tagged ⟨[.val (enc value), .val (enc word), .val (enc size)], n⟩ n (.val (enc (isTag value word size : Bool))) := by
  unfold ir_is_tagged
  obtain ⟨h1, h2⟩ := hp
  have ht := pl_ty h1
  cases e : isTupN value size with
  | false =>
    have e' : isTag value word size = false := by
      cases value with
      | tup xs =>
        have e : decide ((xs.length : Int) = size) = false := e
        show (decide ((xs.length : Int) = size) && _) = false
        rw [e]; rfl
      | _ => rfl
    rw [e']
    refine' rt_seqR (rt_ret (ev_andF ?a) ?d ?q)
    case' a => (rw [← e]; walk_at "ev")
    all_goals rfl
  | true =>
    cases value with
    | tup xs =>
      have e : decide ((xs.length : Int) = size) = true := e
      rw [decide_eq_true_eq] at e
      cases xs with
      | nil => simp at e; omega
      | cons x xs =>
        have hx : hasTy x = true := pl_ty (pl_tupE h1 x List.mem_cons_self)
        have ix : IdxR (.tup (x :: xs)) (.int 0) x := idx_litT (n := 0) rfl
        have ir : ∀ ρ : PEnv, ρ.get 0 = .val (.tup (x :: xs)) → Ev C (.idx (.bor 0) (.cst (.int 0))) ρ (.val x) ρ := fun ρ h => ev_idx (ev_bor h) ev_cst ix
        have e3 : isTag (.tup (x :: xs)) word size = (true && isStrE x word) := by
          show (decide (((x :: xs).length : Int) = size) && _) = _
          rw [decide_eq_true e]; rfl
        rw [e3]
        have e2 : isTupN (.tup (x :: xs)) size = true := decide_eq_true e
        refine' rt_seqR (rt_ret (r' := .val (.bl (true && isStrE x word))) (ev_and ?a1 (fun _ => ?b1)) ?d1 rfl)
        case' a1 => (rw [← e2]; exact ev_call h_is_tuple (eva_F (ev_var rfl) kp_val (eva_F (ev_var rfl) kp_val eva_nil)) (vl_is_tuple ht))
        case' b1 =>
          cases x with
          | str y => exact ev_and (x := true) (ev_isi (ir _ rfl) rfl rfl) fun _ => ev_cmp (ir _ rfl) (ev_bor rfl) cmp_eqS
          | _ => exact ev_andF (ev_isi (ir _ rfl) hx rfl)
        rfl
    | _ => cases e
theorem wp_is_tagged (sp : Nat → Spec) (xe : Nat → Nat → Prop) (h0 : sp 536 = sp_is_tuple) : ∀ ds dr Q, sp_is_tagged ds dr Q (fun _ _ => False) → wpF ⟨sp, xe⟩ nm_is_tagged.length ir_is_tagged ds dr Q := by
  intro ds dr Q h
  unfold sp_is_tagged at h
  obtain ⟨value, word, size, rfl, hp, hq⟩ := h
  exact wpF_of (rt_is_tagged (C := ⟨sp, xe⟩) h0 value word size hp) hq
local macro_rules | `(tactic| walk_at "vl") => `(tactic| (refine' vl_is_tagged ?_; walk_at "side"))

def nm_is_between : List Str := ["value", "low", "high"]
def ir_is_between : IS :=
(.seq (.ret (.and (.isi (.bor 0) .tuple) (.cmp2 .le .le (.bor 1) (.blt .len (.acons (.bor 0) .anil)) (.bor 2))))
  .skip)
def fs_is_between : List (Nat × Str) := []
def cs_is_between : List (Str × D) := []
@[irreducible] def sp_is_between : Spec := fun ds dr Q _ => ∃ (value : D) (low : Int) (high : Int), ds = [enc value, enc low, enc high] ∧ (hasTy value = true ) ∧ Q (.val (enc (isBtw value low high : Bool))) dr
theorem vl_is_between {value : D} {low : Int} {high : Int} (hp : hasTy value = true ) : VlR sp_is_between [enc value, enc low, enc high] (.val (enc (isBtw value low high : Bool))) := fun dr Q xe q => by unfold sp_is_between; exact ⟨value, low, high, rfl, hp, q⟩
theorem rt_is_between {C : PC} {n : Nat}  (value : D) (low : Int) (high : Int) (hp : hasTy value = true ) : Rt C ir_is_between ⟨[.val (enc value), .val (enc low), .val (enc high)], n⟩ n (.val (enc (isBtw value low high : Bool))) := by
  unfold ir_is_between
  have no : isTy .tuple value = false → Rt C ir_is_between ⟨[.val (enc value), .val (enc low), .val (enc high)], n⟩ n (.val (enc (isBtw value low high : Bool))) := fun h2 => by
    have e : isBtw value low high = false := by cases value <;> first | rfl | cases h2
    rw [e]
    unfold ir_is_between
    refine' rt_seqR (rt_ret (ev_andF ?a) ?d ?q)
    case' a => (rw [← h2]; exact ev_isi (ev_bor rfl) hp rfl)
    all_goals rfl
  cases value with
  | tup xs => (walk_at "st"; rfl)
  | _ => exact no rfl
theorem wp_is_between (sp : Nat → Spec) (xe : Nat → Nat → Prop)  : ∀ ds dr Q, sp_is_between ds dr Q (fun _ _ => False) → wpF ⟨sp, xe⟩ nm_is_between.length ir_is_between ds dr Q := by
  intro ds dr Q h
  unfold sp_is_between at h
  obtain ⟨value, low, high, rfl, hp, hq⟩ := h
  exact wpF_of (rt_is_between (C := ⟨sp, xe⟩)  value low high hp) hq
local macro_rules | `(tactic| walk_at "vl") => `(tactic| (refine' vl_is_between ?_; walk_at "side"))
def nm_are_integers : List Str := ["value", "low", "high", "one"]
def ir_are_integers : IS :=
(.seq (.ret (.and (.isi (.bor 0) .tuple) (.blt .all (.acons (.comp [3] (.nm 3) (.itSeq (.bor 0)) (.cst (.bl true)) (.call 501 (.acons (.var 3) (.acons (.var 1) (.acons (.var 2) .anil))))) .anil))))
  .skip)
def fs_are_integers : List (Nat × Str) := [(501, "is_number")]
def cs_are_integers : List (Str × D) := []
@[irreducible] def sp_are_integers : Spec := fun ds dr Q _ => ∃ (value : D) (low : Int) (high : Int), ds = [enc value, enc low, enc high] ∧ (pl value = true ) ∧ Q (.val (enc (areInts value low high : Bool))) dr
theorem vl_are_integers {value : D} {low : Int} {high : Int} (hp : pl value = true ) : VlR sp_are_integers [enc value, enc low, enc high] (.val (enc (areInts value low high : Bool))) := fun dr Q xe q => by unfold sp_are_integers; exact ⟨value, low, high, rfl, hp, q⟩
theorem rt_are_integers {C : PC} {n : Nat} (h_is_number : C.sp 501 = sp_is_number) (value : D) (low : Int) (high : Int) (hp : pl value = true ) : Rt C ir_are_integers ⟨[.val (enc value), .val (enc low), .val (enc high), .no], n⟩ n (.val (enc (areInts value low high : Bool))) := by
  unfold ir_are_integers
  have no : isTy .tuple value = false → Rt C ir_are_integers ⟨[.val (enc value), .val (enc low), .val (enc high), .no], n⟩ n (.val (enc (areInts value low high : Bool))) := fun h2 => by
    have e : areInts value low high = false := by cases value <;> first | rfl | cases h2
    rw [e]
    unfold ir_are_integers
    refine' rt_seqR (rt_ret (ev_andF ?a) ?d ?q)
    case' a => (rw [← h2]; exact ev_isi (ev_bor rfl) (pl_ty hp) rfl)
    all_goals rfl
  cases value with
  | tup xs =>
    obtain ⟨ys, rfl⟩ : ∃ ys : List D, xs = ys.map enc := ⟨xs, (mapD xs).symm⟩
    have h1 : ∀ y ∈ ys, hasTy y = true := fun y hy => pl_ty (pl_tupE hp y (by rw [mapD]; exact hy))
    walk_at "st"
    show RV.val (.bl (true && ((ys.map fun x => isNum x low high).all id))) = .val (.bl ((ys.map enc).all fun x => isNum x low high))
    rw [mapD, List.all_map]; rfl
  | _ => exact no rfl
theorem wp_are_integers (sp : Nat → Spec) (xe : Nat → Nat → Prop) (h0 : sp 501 = sp_is_number) : ∀ ds dr Q, sp_are_integers ds dr Q (fun _ _ => False) → wpF ⟨sp, xe⟩ nm_are_integers.length ir_are_integers ds dr Q := by
  intro ds dr Q h
  unfold sp_are_integers at h
  obtain ⟨value, low, high, rfl, hp, hq⟩ := h
  exact wpF_of (rt_are_integers (C := ⟨sp, xe⟩) h0 value low high hp) hq
local macro_rules | `(tactic| walk_at "vl") => `(tactic| (refine' vl_are_integers ?_; walk_at "side"))
def nm_is_ascending : List Str := ["value", "at"]
def ir_is_ascending : IS :=
(.seq (.ret (.blt .all (.acons (.comp [1] (.nm 1) (.itR2 (.cst (.int 1)) (.blt .len (.acons (.bor 0) .anil))) (.cst (.bl true)) (.cmp .lt (.idx (.bor 0) (.bin .sub (.bor 1) (.cst (.int 1)))) (.idx (.bor 0) (.bor 1)))) .anil)))
  .skip)
def fs_is_ascending : List (Nat × Str) := []
def cs_is_ascending : List (Str × D) := []
@[irreducible] def sp_is_ascending : Spec := fun ds dr Q _ => ∃ (value : List Int), ds = [enc value] ∧ (value.length ≤ 16777216 ) ∧ Q (.val (enc (asc Od.lt value : Bool))) dr
theorem vl_is_ascending {value : List Int} (hp : value.length ≤ 16777216 ) : VlR sp_is_ascending [enc value] (.val (enc (asc Od.lt value : Bool))) := fun dr Q xe q => by unfold sp_is_ascending; exact ⟨value, rfl, hp, q⟩
theorem rt_is_ascending {C : PC} {n : Nat}  (value : List Int) (hp : value.length ≤ 16777216 ) : Rt C ir_is_ascending ⟨[.val (enc value), .no], n⟩ n (.val (enc (asc Od.lt value : Bool))) := by
  unfold ir_is_ascending
  walk_at "st"
  · rename_i x hx; rw [List.mem_range'_1] at hx; omega
  · rename_i x hx; rw [List.mem_range'_1] at hx; have h2 : 0 ≤ (x : Int) - 1 ∧ ((x : Int) - 1).toNat < value.length := by omega
    exact h2
  · have e := asc_ix (Od.lt (α := Int)) default value
    rw [← e]
    show RV.val (.bl _) = .val (.bl _)
    congr 2
    rw [List.all_map]
    rw [Bool.eq_iff_iff, List.all_eq_true, List.all_eq_true]
    have e : ∀ k ∈ List.range' 1 (value.length - 1), (id ∘ fun x : Nat => decide (value.getD ((x : Int) - 1).toNat default < value.getD x default)) k = Od.lt (value.getD (k - 1) default) (value.getD k default) := fun k hk => by
      rw [List.mem_range'_1] at hk
      show decide _ = decide _
      rw [show ((k : Int) - 1).toNat = k - 1 by omega]
    exact ⟨fun h k hk => (e k hk) ▸ h k hk, fun h k hk => (e k hk).symm ▸ h k hk⟩
theorem wp_is_ascending (sp : Nat → Spec) (xe : Nat → Nat → Prop)  : ∀ ds dr Q, sp_is_ascending ds dr Q (fun _ _ => False) → wpF ⟨sp, xe⟩ nm_is_ascending.length ir_is_ascending ds dr Q := by
  intro ds dr Q h
  unfold sp_is_ascending at h
  obtain ⟨value, rfl, hp, hq⟩ := h
  exact wpF_of (rt_is_ascending (C := ⟨sp, xe⟩)  value hp) hq
local macro_rules | `(tactic| walk_at "vl") => `(tactic| (refine' vl_is_ascending ?_; walk_at "side"))
/-- the numbers of a tuple -/
def numsOf (v : D) : List Int := match v with
  | .tup xs => xs.filterMap fun x => match x with | .int i => some i | _ => none
  | _ => []
theorem numsOf_enc (is : List Int) : numsOf (enc is) = is := by
  show (is.map enc).filterMap _ = is
  rw [List.filterMap_map]
  have : ((fun x : D => match x with | .int i => some i | _ => none) ∘ (enc : Int → D)) = some := rfl
  rw [this, List.filterMap_some]
def lenD (v : D) : Nat := match v with
  | .tup xs => xs.length
  | .lst xs => xs.length
  | _ => 0
/-- an ascending tuple of whole numbers from lo to hi -/
def areNums (v : D) (lo hi : Int) : Bool := areInts v lo hi && asc Od.lt (numsOf v)
def isMenuD (n : Int) (v : D) : Bool := areNums v 0 (n - 1) && decide (0 < lenD v)
def nm_are_numbers : List Str := ["value", "low", "high"]
def ir_are_numbers : IS :=
(.seq (.ret (.and (.call 256 (.acons (.var 0) (.acons (.var 1) (.acons (.var 2) .anil)))) (.call 443 (.acons (.var 0) .anil))))
  .skip)
def fs_are_numbers : List (Nat × Str) := [(443, "is_ascending"), (256, "are_integers")]
def cs_are_numbers : List (Str × D) := []
@[irreducible] def sp_are_numbers : Spec := fun ds dr Q _ => ∃ (value : D) (low : Int) (high : Int), ds = [enc value, enc low, enc high] ∧ (pl value = true ∧ lenD value ≤ 1000000 ) ∧ Q (.val (enc (areNums value low high : Bool))) dr
theorem vl_are_numbers {value : D} {low : Int} {high : Int} (hp : pl value = true ∧ lenD value ≤ 1000000 ) : VlR sp_are_numbers [enc value, enc low, enc high] (.val (enc (areNums value low high : Bool))) := fun dr Q xe q => by unfold sp_are_numbers; exact ⟨value, low, high, rfl, hp, q⟩
theorem rt_are_numbers {C : PC} {n : Nat} (h_is_ascending : C.sp 443 = sp_is_ascending) (h_are_integers : C.sp 256 = sp_are_integers) (value : D) (low : Int) (high : Int) (hp : pl value = true ∧ lenD value ≤ 1000000 ) : Rt C ir_are_numbers ⟨[.val (enc value), .val (enc low), .val (enc high)], n⟩ n (.val (enc (areNums value low high : Bool))) := by
  unfold ir_are_numbers
  obtain ⟨h1, h2⟩ := hp
  cases e : areInts value low high with
  | false =>
    have e2 : areNums value low high = false := by unfold areNums; rw [e]; rfl
    rw [e2]
    refine' rt_seqR (rt_ret (ev_andF ?a) ?d ?q)
    case' a => (rw [← e]; walk_at "ev")
    all_goals rfl
  | true =>
    obtain ⟨is, rfl, _⟩ := areInts_ex e
    have e2 : areNums (enc is) low high = (areInts (enc is) low high && asc Od.lt is) := by unfold areNums; rw [numsOf_enc]
    have h3 : is.length ≤ 1000000 := by have : ((is.map enc : List D)).length ≤ 1000000 := h2; rw [List.length_map] at this; exact this
    rw [e2]
    refine' rt_seqR (rt_ret (ev_and ?a2 (fun _ => ?b2)) ?d2 ?q2)
    case' a2 => walk_at "ev"
    case' b2 => exact ev_call h_is_ascending (eva_F (ev_var rfl) kp_val eva_nil) (vl_is_ascending (by omega))
    all_goals rfl
theorem wp_are_numbers (sp : Nat → Spec) (xe : Nat → Nat → Prop) (h0 : sp 443 = sp_is_ascending) (h1 : sp 256 = sp_are_integers) : ∀ ds dr Q, sp_are_numbers ds dr Q (fun _ _ => False) → wpF ⟨sp, xe⟩ nm_are_numbers.length ir_are_numbers ds dr Q := by
  intro ds dr Q h
  unfold sp_are_numbers at h
  obtain ⟨value, low, high, rfl, hp, hq⟩ := h
  exact wpF_of (rt_are_numbers (C := ⟨sp, xe⟩) h0 h1 value low high hp) hq
local macro_rules | `(tactic| walk_at "vl") => `(tactic| (refine' vl_are_numbers ?_; walk_at "side"))
def nm_is_menu : List Str := ["things", "value"]
def ir_is_menu : IS :=
(.seq (.ret (.and (.call 258 (.acons (.var 1) (.acons (.cst (.int 0)) (.acons (.bin .sub (.bor 0) (.cst (.int 1))) .anil)))) (.cmp .gt (.blt .len (.acons (.bor 1) .anil)) (.cst (.int 0)))))
  .skip)
def fs_is_menu : List (Nat × Str) := [(258, "are_numbers")]
def cs_is_menu : List (Str × D) := []
@[irreducible] def sp_is_menu : Spec := fun ds dr Q _ => ∃ (things : Int) (value : D), ds = [enc things, enc value] ∧ (pl value = true ∧ lenD value ≤ 1000000 ) ∧ Q (.val (enc (isMenuD things value : Bool))) dr
theorem vl_is_menu {things : Int} {value : D} (hp : pl value = true ∧ lenD value ≤ 1000000 ) : VlR sp_is_menu [enc things, enc value] (.val (enc (isMenuD things value : Bool))) := fun dr Q xe q => by unfold sp_is_menu; exact ⟨things, value, rfl, hp, q⟩
theorem rt_is_menu {C : PC} {n : Nat} (h_are_numbers : C.sp 258 = sp_are_numbers) (things : Int) (value : D) (hp : pl value = true ∧ lenD value ≤ 1000000 ) : Rt C ir_is_menu ⟨[.val (enc things), .val (enc value)], n⟩ n (.val (enc (isMenuD things value : Bool))) := by
  unfold ir_is_menu
  cases e : areNums value 0 (things - 1) with
  | false =>
    have e2 : isMenuD things value = false := by unfold isMenuD; rw [e]; rfl
    rw [e2]
    refine' rt_seqR (rt_ret (ev_andF ?a) ?d ?q)
    case' a => (rw [← e]; walk_at "ev")
    all_goals rfl
  | true =>
    have e3 : areInts value 0 (things - 1) = true := by unfold areNums at e; rw [Bool.and_eq_true] at e; exact e.1
    obtain ⟨is, rfl, _⟩ := areInts_ex e3
    have e2 : isMenuD things (enc is) = (areNums (enc is) 0 (things - 1) && decide (0 < is.length)) := by
      unfold isMenuD
      have : lenD (enc is) = is.length := List.length_map ..
      rw [this]
    rw [e2]
    refine' rt_seqR (rt_ret (ev_and ?a2 (fun _ => ?b2)) ?d2 ?q2)
    case' a2 => walk_at "ev"
    case' b2 => walk_at "ev"
    all_goals rfl
theorem wp_is_menu (sp : Nat → Spec) (xe : Nat → Nat → Prop) (h0 : sp 258 = sp_are_numbers) : ∀ ds dr Q, sp_is_menu ds dr Q (fun _ _ => False) → wpF ⟨sp, xe⟩ nm_is_menu.length ir_is_menu ds dr Q := by
  intro ds dr Q h
  unfold sp_is_menu at h
  obtain ⟨things, value, rfl, hp, hq⟩ := h
  exact wpF_of (rt_is_menu (C := ⟨sp, xe⟩) h0 things value hp) hq
local macro_rules | `(tactic| walk_at "vl") => `(tactic| (refine' vl_is_menu ?_; walk_at "side"))

end PL
/-! KB -/
namespace PL
open PySem PySem.Spec PyProof.Rows L2
open En
local macro_rules | `(tactic| walk_at "side") => `(tactic| first
  | assumption | trivial | decide | omega
  | (simp only [List.length_map, List.length_range, List.length_append, List.length_cons, List.length_nil, List.length_singleton, sizeLine_eq] at *; omega)
  | (simp_all; done) | skip)
local macro_rules | `(tactic| walk_at "vl") => `(tactic| skip)
local macro_rules | `(tactic| walk_at "kp") => `(tactic| first | exact kp_val | exact kp_own | exact kp_owd)
local macro_rules | `(tactic| walk_at "as") => `(tactic| first
  | exact as_enc | exact as_N | exact as_I | exact as_B | exact as_S | exact as_T | exact as_L
  | (refine' as_T1 ?_; walk_at "as") | (refine' as_P ?_ ?_ <;> walk_at "as") | exact as_D | skip)
local macro_rules | `(tactic| walk_at "op") => `(tactic| first
  | exact cmp_eqN0 | exact cmp_ltN0 | exact cmp_leN0 | exact cmp_gtN0 | exact cmp_geN0 | exact cmp_neN0 | exact cmp_eqN1 | exact cmp_ltN1 | exact cmp_leN1 | exact cmp_gtN1 | exact cmp_geN1 | exact cmp_neN1 | exact cmp_eqN2 | exact cmp_ltN2 | exact cmp_leN2 | exact cmp_gtN2 | exact cmp_geN2 | exact cmp_neN2 | exact cmp_eqN3 | exact cmp_ltN3 | exact cmp_leN3 | exact cmp_gtN3 | exact cmp_geN3 | exact cmp_neN3 | exact cmp_eqN4 | exact cmp_ltN4 | exact cmp_leN4 | exact cmp_gtN4 | exact cmp_geN4 | exact cmp_neN4 | exact cmp_eqN5 | exact cmp_ltN5 | exact cmp_leN5 | exact cmp_gtN5 | exact cmp_geN5 | exact cmp_neN5 | exact bin_addN1 | exact bin_add1N
  | exact cmp_eqN | exact cmp_neN | exact cmp_ltN | exact cmp_leN | exact cmp_gtN | exact cmp_geN | exact bin_addN
  | exact cmp_eqI | exact cmp_eqS | exact cmp_eqB | exact cmp_eqT | exact cmp_eqT1 | exact cmp_eqT0 | exact cmp_eqL | exact cmp_eqE
  | exact cmp_neI | exact cmp_neS | exact cmp_neB | exact cmp_neT | exact cmp_neL | exact cmp_neE
  | exact cmp_lt | exact cmp_le | exact cmp_gt | exact cmp_ge | exact cmp_ltT
  | exact cmp_inT | exact cmp_ninT | exact cmp_inL | exact cmp_ninL | exact cmp_inTp | exact cmp_ninTp | exact cmp_inLp | exact cmp_ninLp | exact cmp_inD | exact cmp_ninD | exact cmp_inN | exact cmp_ninN
  | exact cmp_isN | exact cmp_isnN | exact cmp_isB | exact cmp_isnB
  | exact bin_add | exact bin_sub | (refine' bin_mul ?_; walk_at "side") | (refine' bin_fdiv ?_; walk_at "side") | (refine' bin_mod ?_; walk_at "side")
  | (refine' bin_addT ?_; walk_at "side") | (refine' bin_addT1 ?_; walk_at "side") | (refine' bin_addL ?_; walk_at "side") | (refine' bin_addL1 ?_; walk_at "side") | (refine' bin_repL ?_; walk_at "side")
  | (refine' idx_T ?_; walk_at "side") | (refine' idx_L ?_; walk_at "side") | (refine' idx_D ?h; (case' h => first | assumption | skip)) | (refine' idx_0T ?_; walk_at "side") | (refine' idx_0L ?_; walk_at "side") | (refine' idx_lastL ?_; walk_at "side") | (refine' idx_lastT ?_; walk_at "side")
  | (refine' idx_IT ?_; walk_at "side") | (refine' idx_IL ?_; walk_at "side")
  | exact slc_T | exact slc_L | exact rev_T | exact rev_L
  | exact tru_B | exact tru_I | exact tru_N | exact tru_T | exact tru_L
  | exact blt_lenT | exact blt_lenL | exact blt_lenD | exact blt_lenTr | exact blt_lenLr | exact blt_intI | exact blt_intB | exact blt_tupL | exact blt_tupT | (refine' blt_tupR ?_; walk_at "side")
  | exact blt_lstL | exact blt_lstT | exact blt_lstD | (refine' blt_lstR ?_; walk_at "side") | (refine' blt_rngN ?_; walk_at "side") | (refine' blt_rng1 ?_; walk_at "side")
  | exact blt_srtL | exact blt_srtT | exact blt_srtD | exact blt_srtP
  | (refine' blt_minLN ?_; walk_at "side") | (refine' blt_maxLN ?_; walk_at "side") | (refine' blt_minTN ?_; walk_at "side") | (refine' blt_maxTN ?_; walk_at "side")
  | (refine' blt_minL ?_; walk_at "side") | (refine' blt_maxL ?_; walk_at "side") | (refine' blt_minT ?_; walk_at "side") | (refine' blt_maxT ?_; walk_at "side")
  | exact blt_sumLN | exact blt_sumL | exact blt_any | exact blt_all | exact blt_abs | exact blt_min2 | exact blt_max2
  | (refine' mth_ixT ?_; walk_at "side") | (refine' mth_ixL ?_; walk_at "side")
  | exact itm_tup | exact itm_lst | exact itm_dct | (refine' itm_rng ?_; walk_at "side")
  | exact sq_tup | exact sq_lst
  | skip)
local macro_rules | `(tactic| walk_at "tg") => `(tactic| first | exact fun _ => tg_nm | exact fun _ => tg_tp2 | exact fun _ => tg_tp3 | exact fun _ => tg_tp1 | skip)
local macro_rules | `(tactic| walk_at "ek") => `(tactic| first
  | (refine' evk_gen ?e ?k; (case' e => walk_at "ev"); (case' k => first | exact kpa_own | (refine' kpa_val ?_; walk_at "as")))
  | skip)
local macro_rules | `(tactic| walk_at "ea") => `(tactic| first
  | exact eva_nil
  | (refine' eva_T ?e ?d ?r; (case' e => walk_at "ev"); (case' d => first | rfl | skip); (case' r => walk_at "ea"))
  | (refine' eva_F ?e ?d ?r; (case' e => walk_at "ev"); (case' d => first | walk_at "kp" | skip); (case' r => walk_at "ea"))
  | skip)
local macro_rules | `(tactic| walk_at "ei") => `(tactic| first
  | (refine' evi_r1 ?e ?h ?z; (case' e => walk_at "ev"); (case' h => first | rfl | skip); (case' z => walk_at "side"))
  | (refine' evi_r21 ?e ?e2 ?h ?h2 ?z; (case' e => walk_at "ev"); (case' e2 => walk_at "ev"); (case' h => rfl); (case' h2 => rfl); (case' z => walk_at "side"))
  | (refine' evi_r2 ?e ?e2 ?h ?h2 ?z ?z2; (case' e => walk_at "ev"); (case' e2 => walk_at "ev"); (case' h => first | rfl | skip); (case' h2 => first | rfl | skip); (case' z => walk_at "side"); (case' z2 => walk_at "side"))
  | (refine' evi_T ?e ?h; (case' e => walk_at "ev"); (case' h => walk_at "op"))
  | (refine' evi_F ?e ?k ?h; (case' e => walk_at "ev"); (case' k => first | walk_at "kp" | skip); (case' h => walk_at "op"))
  | (refine' evi_zipT ?e ?e2 ?h ?h2; (case' e => walk_at "ev"); (case' e2 => walk_at "ev"); (case' h => walk_at "op"); (case' h2 => walk_at "op"))
  | (refine' evi_zipF ?e ?k ?e2 ?k2 ?h ?h2; (case' e => walk_at "ev"); (case' k => walk_at "kp"); (case' e2 => walk_at "ev"); (case' k2 => walk_at "kp"); (case' h => walk_at "op"); (case' h2 => walk_at "op"))
  | (refine' evi_zip3T ?e ?e2 ?e3 ?h ?h2 ?h3; (case' e => walk_at "ev"); (case' e2 => walk_at "ev"); (case' e3 => walk_at "ev"); (case' h => walk_at "op"); (case' h2 => walk_at "op"); (case' h3 => walk_at "op"))
  | (refine' evi_enumT ?e ?h; (case' e => walk_at "ev"); (case' h => walk_at "op"))
  | (refine' evi_itemsT ?e ?h; (case' e => walk_at "ev"); (case' h => first | rfl | skip))
  | (refine' evi_itemsF ?e ?k ?h; (case' e => walk_at "ev"); (case' k => walk_at "kp"); (case' h => first | rfl | skip))
  | skip)
local macro_rules | `(tactic| walk_at "ev") => `(tactic| first
  | exact ev_cst
  | exact ev_bor rfl | exact ev_borO rfl | exact ev_borD rfl
  | exact ev_var rfl | exact ev_varO rfl | exact ev_varD rfl
  | (refine' ev_bin ?a ?b ?o; (case' a => walk_at "ev"); (case' b => walk_at "ev"); (case' o => walk_at "op"))
  | (refine' ev_cmp ?a ?b ?o; (case' a => walk_at "ev"); (case' b => walk_at "ev"); (case' o => walk_at "op"))
  | (refine' ev_cmp2 ?a ?b ?o ?c ?o2; (case' a => walk_at "ev"); (case' b => walk_at "ev"); (case' o => walk_at "op"); (case' c => walk_at "ev"); (case' o2 => walk_at "op"))
  | (refine' ev_tst ?a ?o; (case' a => walk_at "ev"); (case' o => walk_at "op"))
  | (refine' ev_and ?a ?b; (case' a => walk_at "ev"); (case' b => (intro _; walk_at "ev")))
  | (refine' ev_or ?a ?b; (case' a => walk_at "ev"); (case' b => (intro _; walk_at "ev")))
  | (refine' ev_not ?a; (case' a => walk_at "ev"))
  | (refine' ev_ite ?a ?b ?c; (case' a => walk_at "ev"); (case' b => (intro _; walk_at "ev")); (case' c => (intro _; walk_at "ev")))
  | (refine' ev_idx ?a ?b ?o; (case' a => walk_at "ev"); (case' b => walk_at "ev"); (case' o => walk_at "op"))
  | (refine' ev_blt ?a ?o; (case' a => walk_at "ea"); (case' o => walk_at "op"))
  | (refine' ev_call ?h ?a ?o; (case' h => first | assumption | skip); (case' a => walk_at "ea"); (case' o => walk_at "vl"))
  | (refine' ev_tup ?a ?z; (case' a => walk_at "ea"); (case' z => walk_at "side"))
  | (refine' ev_lst ?a ?z; (case' a => walk_at "ea"); (case' z => walk_at "side"))
  | exact ev_dnew
  | (refine' ev_neg ?a ?o; (case' a => walk_at "ev"); (case' o => first | rfl | skip))
  | (refine' ev_mth ?a ?b ?o; (case' a => walk_at "ev"); (case' b => walk_at "ea"); (case' o => walk_at "op"))
  | (refine' ev_slc0 ?a ?o; (case' a => walk_at "ev"); (case' o => walk_at "op"))
  | (refine' ev_slcF rfl ?a ?b ?h ?o; (case' a => walk_at "ev"); (case' b => walk_at "ev"); (case' h => first | rfl | skip); (case' o => walk_at "op"))
  | (refine' ev_slcT rfl ?a ?b ?h ?o; (case' a => walk_at "ev"); (case' b => walk_at "ev"); (case' h => first | rfl | skip); (case' o => walk_at "op"))
  | (refine' ev_slc2 rfl rfl ?a ?b ?h ?c ?i ?o; (case' a => walk_at "ev"); (case' b => walk_at "ev"); (case' h => first | rfl | skip); (case' c => walk_at "ev"); (case' i => first | rfl | skip); (case' o => walk_at "op"))
  | (refine' ev_rev ?a ?o; (case' a => walk_at "ev"); (case' o => walk_at "op"))
  | (refine' ev_isi ?a ?t ?b; (case' a => walk_at "ev"); (case' t => first | rfl | skip); (case' b => first | rfl | skip))
  | (refine' ev_compI rfl ?hi ?ht ?he ?hw ?hb ?hc; (case' hi => walk_at "ei"); (case' ht => exact fun _ => tg_nm); (case' he => exact fun _ => rfl); (case' hw => exact fun _ => rfl); (case' hb => rfl); (case' hc => (intro _ _; walk_at "ev")))
  | (refine' ev_compA rfl ?hi ?ht ?hw ?hb ?he; (case' hi => walk_at "ei"); (case' ht => walk_at "tg"); (case' hw => exact fun _ => rfl); (case' hb => rfl); (case' he => (intro _ _; walk_at "ek")))
  | (refine' ev_compAG rfl ?hi ?ht ?hw ?hb ?he; (case' hi => walk_at "ei"); (case' ht => walk_at "tg"); (case' hw => exact fun _ => rfl); (case' hb => rfl); (case' he => (intro _ _; walk_at "ek")))
  | (refine' ev_comp rfl ?hi ?ht ?hw ?hb ?hc ?he; (case' hi => walk_at "ei"); (case' ht => walk_at "tg"); (case' hw => exact fun _ => rfl); (case' hb => rfl); (case' hc => (intro _ _; walk_at "ev")); (case' he => (intro _ _ _; walk_at "ek")))
  | (refine' ev_dcompA ?i1 ?i2 ?i3 rfl ?hi ?ht ?hw ?hb ?he ?hv ?hd; (case' hi => walk_at "ei"); (case' ht => walk_at "tg"); (case' hw => exact fun _ => rfl); (case' hb => rfl); (case' he => (intro _ _; walk_at "ek")); (case' hv => (intro _ _; walk_at "ek")); (case' i1 => infer_instance); (case' i2 => infer_instance); (case' i3 => infer_instance); (case' hd => decide))
  | skip)
local macro_rules | `(tactic| walk_at "st") => `(tactic| first
  | (refine' rt_seqR (rt_ret ?e ?d ?q); (case' e => walk_at "ev"); (case' d => rfl))
  | (refine' rt_ret ?e ?d ?q; (case' e => walk_at "ev"); (case' d => rfl))
  | (refine' rt_asg ?e ?s ?b; (case' e => walk_at "ev"); (case' s => first | exact sl_val | exact sl_own | exact sl_owd | skip); (case' b => walk_at "st"))
  | (refine' rt_asgT ?e ?s ?t ?b; (case' e => walk_at "ev"); (case' s => walk_at "kp"); (case' t => first | exact tg_tp2 | exact tg_tp3 | exact tg_tp4 | skip); (case' b => walk_at "st"))
  | (refine' rt_ifs ?e ?a ?b; (case' e => walk_at "ev"); (case' a => (intro _; walk_at "st")); (case' b => (intro _; walk_at "st")))
  | (refine' rt_app rfl ?e ?x ?z ?b; (case' e => walk_at "ek"); (case' x => rfl); (case' z => walk_at "side"); (case' b => walk_at "st"))
  | (refine' rt_asgL ?e ?p ?k ?j ?x ?l ?b; (case' e => walk_at "ek"); (case' p => rfl); (case' k => walk_at "ev"); (case' j => first | rfl | skip); (case' x => rfl); (case' l => walk_at "side"); (case' b => walk_at "st"))
  | (refine' rt_aug rfl ?e ?y ?b; (case' e => walk_at "ev"); (case' y => first | rfl | skip); (case' b => walk_at "st"))
  | (refine' rt_assoc ?_; walk_at "st")
  | (refine' rt_skip ?_; walk_at "st")
  | skip)
local macro_rules | `(tactic| walk_at "bo") => `(tactic| first
  | (refine' bo_asg ?e ?s ?b; (case' e => walk_at "ev"); (case' s => first | exact sl_val | exact sl_own | exact sl_owd | skip); (case' b => walk_at "bo"))
  | (refine' bo_asgT ?e ?s ?t ?b; (case' e => walk_at "ev"); (case' s => walk_at "kp"); (case' t => first | exact tg_tp2 | exact tg_tp3 | exact tg_tp4 | skip); (case' b => walk_at "bo"))
  | (refine' bo_app rfl ?e ?x ?z ?b; (case' e => walk_at "ek"); (case' x => rfl); (case' z => walk_at "side"); (case' b => walk_at "bo"))
  | (refine' bo_asgL ?e ?p ?k ?j ?x ?l ?b; (case' e => walk_at "ek"); (case' p => rfl); (case' k => walk_at "ev"); (case' j => first | rfl | skip); (case' x => rfl); (case' l => walk_at "side"); (case' b => walk_at "bo"))
  | (refine' bo_aug rfl ?e ?y ?b; (case' e => walk_at "ev"); (case' y => first | rfl | skip); (case' b => walk_at "bo"))
  | (refine' bo_ret ?e ?d; (case' e => walk_at "ev"); (case' d => rfl))
  | (refine' bo_ifs' ?e ?a ?b; (case' e => walk_at "ev"); (case' a => (intro _; walk_at "bo")); (case' b => (intro _; walk_at "bo")))
  | (refine' bo_assoc ?_; walk_at "bo")
  | (refine' bo_sk ?_; walk_at "bo")
  | refine' bo_skip ?_ | refine' bo_seqC ?_ | refine' bo_cnt ?_
  | skip)
local macro_rules | `(tactic| walk_at "bof") => `(tactic| first
  | (refine' bo_asg ?e ?s ?b; (case' e => walk_at "ev"); (case' s => first | exact sl_val | exact sl_own | exact sl_owd | skip); (case' b => walk_at "bof"))
  | (refine' bo_asgT ?e ?s ?t ?b; (case' e => walk_at "ev"); (case' s => walk_at "kp"); (case' t => first | exact tg_tp2 | exact tg_tp3 | exact tg_tp4 | skip); (case' b => walk_at "bof"))
  | (refine' bo_ret ?e ?d; (case' e => walk_at "ev"); (case' d => rfl))
  | (refine' bo_ifs ?e ?a ?b; (case' e => walk_at "ev"); (case' a => (intro _; walk_at "bof")); (case' b => (intro _; walk_at "bof")))
  | (refine' bo_assoc ?_; walk_at "bof")
  | (refine' bo_sk ?_; walk_at "bof")
  | refine' bo_skip ?_ | refine' bo_seqC ?_ | refine' bo_cnt ?_
  | skip)
local macro_rules | `(tactic| walk_at "vl") => `(tactic| (refine' vl_is_integer ?_; walk_at "side"))
local macro_rules | `(tactic| walk_at "vl") => `(tactic| (refine' vl_is_number ?_; walk_at "side"))
local macro_rules | `(tactic| walk_at "vl") => `(tactic| (refine' vl_is_tuple ?_; walk_at "side"))
local macro_rules | `(tactic| walk_at "vl") => `(tactic| (refine' vl_is_tagged ?_; walk_at "side"))
local macro_rules | `(tactic| walk_at "vl") => `(tactic| (refine' vl_is_between ?_; walk_at "side"))
local macro_rules | `(tactic| walk_at "vl") => `(tactic| (refine' vl_are_integers ?_; walk_at "side"))
local macro_rules | `(tactic| walk_at "vl") => `(tactic| (refine' vl_is_ascending ?_; walk_at "side"))
local macro_rules | `(tactic| walk_at "vl") => `(tactic| (refine' vl_are_numbers ?_; walk_at "side"))
local macro_rules | `(tactic| walk_at "vl") => `(tactic| (refine' vl_is_menu ?_; walk_at "side"))
/-! menus: all menus, tables -/
/-- all parts of some things, as they are made -/
def subsL {α : Type} (xs : List α) : List (List α) := xs.foldl (fun f x => f ++ f.map (· ++ [x])) [[]]
theorem subsL_snoc {α : Type} (xs : List α) (x : α) : subsL (xs ++ [x]) = subsL xs ++ (subsL xs).map (· ++ [x]) := by
  unfold subsL; rw [List.foldl_append]; rfl
theorem snoc_ind {α : Type} {p : List α → Prop} (h0 : p []) (h1 : ∀ xs x, p xs → p (xs ++ [x])) : ∀ xs, p xs := fun xs => by
  have : ∀ n (xs : List α), xs.length = n → p xs := fun n => by
    induction n with
    | zero => intro xs h; rw [List.length_eq_zero_iff.mp h]; exact h0
    | succ n ih =>
      intro xs h
      have hn : xs ≠ [] := fun e => by rw [e] at h; cases h
      rw [← List.dropLast_concat_getLast hn]
      exact h1 _ _ (ih _ (by rw [List.length_dropLast, h]; rfl))
  exact this _ xs rfl
theorem subsL_len {α : Type} : ∀ xs : List α, (subsL xs).length = 2 ^ xs.length := by
  refine snoc_ind rfl fun xs x ih => ?_
  rw [subsL_snoc, List.length_append, List.length_map, ih, List.length_append, List.length_singleton, Nat.pow_succ]; omega
theorem sub_one {α : Type} {b : List α} {x : α} (h : b.Sublist [x]) : b = [] ∨ b = [x] := by
  cases h with
  | cons _ h => exact .inl (List.sublist_nil.mp h)
  | cons_cons _ h => rw [List.sublist_nil.mp h]; exact .inr rfl
theorem mem_subsL {α : Type} : ∀ (xs : List α) (r : List α), r ∈ subsL xs ↔ r.Sublist xs := by
  refine snoc_ind (fun r => ?_) fun xs x ih r => ?_
  · show r ∈ [[]] ↔ _; rw [List.mem_singleton, List.sublist_nil]
  · rw [subsL_snoc, List.mem_append, List.mem_map, ih]
    constructor
    · rintro (h | ⟨a, h, rfl⟩)
      · exact h.trans (List.sublist_append_left ..)
      · exact (ih a |>.mp h).append (List.Sublist.refl _)
    · intro h
      rw [List.sublist_append_iff] at h
      obtain ⟨a, b, rfl, h1, h2⟩ := h
      rcases (sub_one h2) with rfl | rfl
      · left; rw [List.append_nil]; exact h1
      · right; exact ⟨a, (ih a).mpr h1, rfl⟩
theorem subsL_nodup {α : Type} [DecidableEq α] : ∀ xs : List α, xs.Nodup → (subsL xs).Nodup := by
  refine snoc_ind (fun _ => by show ([[]] : List (List α)).Nodup; simp) fun xs x ih h => ?_
  rw [List.nodup_append] at h
  obtain ⟨h1, _, h2⟩ := h
  rw [subsL_snoc, List.nodup_append]
  refine ⟨ih h1, ?_, fun a ha b hb e => ?_⟩
  · unfold List.Nodup
    rw [List.pairwise_map]
    exact (ih h1).imp fun {a b} hne e => hne (List.append_cancel_right e)
  · subst e
    obtain ⟨c, _, rfl⟩ := List.mem_map.mp hb
    have := ((mem_subsL xs _).mp ha).subset (List.mem_append_right c (List.mem_singleton.mpr rfl))
    exact h2 x this x (by simp) rfl
def nm_subsets_of : List Str := ["items", "found", "item", "row"]
def ir_subsets_of : IS :=
(.seq (.asg (.nm 1) (.lst (.acons (.tup .anil) .anil)))
  (.seq (.fr (.nm 2) (.itSeq (.var 0))
 (.seq (.asg (.nm 1) (.bin .add (.bor 1) (.comp [3] (.nm 3) (.itSeq (.bor 1)) (.cst (.bl true)) (.bin .add (.bor 3) (.tup (.acons (.var 2) .anil))))))
  .skip))
  (.seq (.ret (.blt .sorted (.acons (.bor 1) .anil)))
  .skip)))
def fs_subsets_of : List (Nat × Str) := []
def cs_subsets_of : List (Str × D) := []
@[irreducible] def sp_subsets_of : Spec := fun ds dr Q _ => ∃ (items : Ls Nat), ds = [enc items] ∧ (items.l.length ≤ 10 ) ∧ Q (.own ((srt (subsL items.l)).map enc)) dr
theorem vl_subsets_of {items : Ls Nat} (hp : items.l.length ≤ 10 ) : VlR sp_subsets_of [enc items] (.own ((srt (subsL items.l)).map enc)) := fun dr Q xe q => by unfold sp_subsets_of; exact ⟨items, rfl, hp, q⟩
theorem rt_subsets_of {C : PC} {n : Nat}  (items : Ls Nat) (hp : items.l.length ≤ 10 ) : Rt C ir_subsets_of ⟨[.val (enc items), .no, .no, .no], n⟩ n (.own ((srt (subsL items.l)).map enc)) := by
  unfold ir_subsets_of
  refine' rt_asg ?e0 sl_own ?b0
  case' e0 => walk_at "ev"
  refine' rt_for (xs := items.l) (f := enc) (fun i ρ => ∃ z, ρ = ⟨[.val (enc items), .own ((subsL (items.l.take i)).map enc), z, .no], n⟩) ?e1 ?h1 ?t1 ?r1
  case' e1 => walk_at "ei"
  case' h1 => exact ⟨_, rfl⟩
  case' t1 =>
    rintro i x ρ hx ⟨z, rfl⟩
    refine ⟨_, tg_nm, ?_⟩
    have hi : (items.l.take i).length ≤ 10 := by rw [List.length_take]; omega
    have hl : (subsL (items.l.take i)).length ≤ 1024 := by rw [subsL_len]; exact Nat.pow_le_pow_right (by decide) hi
    have sz := sizeLine_eq
    have e : items.l.take (i + 1) = items.l.take i ++ [x] := by rw [List.take_add_one, hx]; rfl
    walk_at "bo"
    all_goals first
      | (rename_i r hr; have := ((mem_subsL _ r).mp hr).length_le; omega)
      | (rw [List.length_map]; omega)
      | exact ⟨_, by rw [e, subsL_snoc]; rfl⟩
  case' r1 =>
    rintro hz ρ ⟨z, rfl⟩
    walk_at "st"
    rw [List.take_length]
theorem wp_subsets_of (sp : Nat → Spec) (xe : Nat → Nat → Prop)  : ∀ ds dr Q, sp_subsets_of ds dr Q (fun _ _ => False) → wpF ⟨sp, xe⟩ nm_subsets_of.length ir_subsets_of ds dr Q := by
  intro ds dr Q h
  unfold sp_subsets_of at h
  obtain ⟨items, rfl, hp, hq⟩ := h
  exact wpF_of (rt_subsets_of (C := ⟨sp, xe⟩)  items hp) hq
local macro_rules | `(tactic| walk_at "vl") => `(tactic| (refine' vl_subsets_of ?_; walk_at "side"))
/-! sorted lists are told by their items -/
theorem srt_uniq {α : Type} [En α] [DecidableEq α] [Dt α] [Od α] : ∀ {xs ys : List α}, xs.Perm ys → xs.Pairwise (fun a b => Od.lt b a = false) → ys.Pairwise (fun a b => Od.lt b a = false) → xs = ys
  | [], ys, h, _, _ => (List.nil_perm.mp h).symm
  | x :: xs, [], h, _, _ => by have := h.length_eq; cases this
  | x :: xs, y :: ys, h, h1, h2 => by
    obtain ⟨a1, a2⟩ := List.pairwise_cons.mp h1
    obtain ⟨b1, b2⟩ := List.pairwise_cons.mp h2
    have e : x = y := by
      refine Decidable.byContradiction fun ne => ?_
      have m1 : x ∈ ys := (List.mem_cons.mp (h.subset List.mem_cons_self)).resolve_left ne
      have m2 : y ∈ xs := (List.mem_cons.mp (h.symm.subset List.mem_cons_self)).resolve_left fun e => ne e.symm
      rcases Od.lin.tot x y ne with z | z
      · rw [b1 x m1] at z; cases z
      · rw [a1 y m2] at z; cases z
    subst e
    rw [srt_uniq (List.Perm.cons_inv h) a2 b2]
theorem srt_of {α : Type} [En α] [DecidableEq α] [Dt α] [Od α] {xs ys : List α} (h : xs.Perm ys) (h1 : xs.Pairwise (fun a b => Od.lt b a = false)) : srt ys = xs := srt_uniq ((srt_perm ys).trans h.symm) (srt_le ys) h1
theorem srt_congr {α : Type} [En α] [DecidableEq α] [Dt α] [Od α] {xs ys : List α} (h : xs.Perm ys) : srt xs = srt ys := srt_uniq ((srt_perm xs).trans (h.trans (srt_perm ys).symm)) (srt_le xs) (srt_le ys)
theorem srt_filter {α : Type} [En α] [DecidableEq α] [Dt α] [Od α] (p : α → Bool) (xs : List α) : (srt xs).filter p = srt (xs.filter p) := (srt_of ((srt_perm xs).filter p) ((srt_le xs).sublist List.filter_sublist)).symm
/-- .. without doubles: ascending -/
theorem srt_lt {α : Type} [En α] [DecidableEq α] [Dt α] [Od α] {xs : List α} (nd : xs.Nodup) : (srt xs).Pairwise (fun a b => Od.lt a b = true) := by
  have h2 : (srt xs).Nodup := (srt_perm xs).nodup_iff.mpr nd
  refine ((srt_le xs).and h2).imp fun {a b} ⟨h, ne⟩ => ?_
  rcases Od.lin.tot a b ne with z | z
  · exact z
  · rw [z] at h; cases h
theorem mem_srt {α : Type} [En α] [DecidableEq α] [Dt α] [Od α] {xs : List α} {a : α} : a ∈ srt xs ↔ a ∈ xs := (srt_perm xs).mem_iff
/-- all menus of n things -/
def menusL (n : Nat) : List (List Nat) := srt ((subsL (List.range n)).filter fun r => decide (0 < r.length))
theorem mem_menusL {n : Nat} {m : List Nat} : m ∈ menusL n ↔ m.Sublist (List.range n) ∧ m ≠ [] := by
  unfold menusL
  rw [mem_srt, List.mem_filter, mem_subsL, decide_eq_true_eq, List.length_pos_iff]
theorem menusL_nodup (n : Nat) : (menusL n).Nodup := (srt_perm _).nodup_iff.mpr ((subsL_nodup _ List.nodup_range).filter _)
theorem menusL_len (n : Nat) : (menusL n).length = 2 ^ n - 1 := by
  have h1 : (menusL n).length = ((subsL (List.range n)).filter fun r => decide (0 < r.length)).length := (srt_perm _).length_eq
  have h2 : ((subsL (List.range n)).filter fun r => decide (0 < r.length)).Perm ((subsL (List.range n)).erase []) := by
    refine (List.perm_ext_iff_of_nodup ((subsL_nodup _ List.nodup_range).filter _) ((subsL_nodup _ List.nodup_range).erase _)).mpr fun a => ?_
    rw [List.mem_filter, (subsL_nodup _ List.nodup_range).mem_erase_iff, decide_eq_true_eq, List.length_pos_iff, and_comm]
  rw [h1, h2.length_eq, List.length_erase_of_mem ((mem_subsL _ _).mpr (List.nil_sublist _)), subsL_len, List.length_range]
def nm_menus : List Str := ["things", "row"]
def ir_menus : IS :=
(.seq (.ret (.comp [1] (.nm 1) (.itSeq (.call 705 (.acons (.blt .list (.acons (.blt .range (.acons (.bor 0) .anil)) .anil)) .anil))) (.cmp .gt (.blt .len (.acons (.bor 1) .anil)) (.cst (.int 0))) (.var 1)))
  .skip)
def fs_menus : List (Nat × Str) := [(705, "subsets_of")]
def cs_menus : List (Str × D) := []
@[irreducible] def sp_menus : Spec := fun ds dr Q _ => ∃ (things : Nat), ds = [enc things] ∧ (things ≤ 10 ) ∧ Q (.own ((menusL things).map enc)) dr
theorem vl_menus {things : Nat} (hp : things ≤ 10 ) : VlR sp_menus [enc things] (.own ((menusL things).map enc)) := fun dr Q xe q => by unfold sp_menus; exact ⟨things, rfl, hp, q⟩
theorem rt_menus {C : PC} {n : Nat} (h_subsets_of : C.sp 705 = sp_subsets_of) (things : Nat) (hp : things ≤ 10 ) : Rt C ir_menus ⟨[.val (enc things), .no], n⟩ n (.own ((menusL things).map enc)) := by
  unfold ir_menus
  walk_at "st"
  · show (List.range things).length ≤ 10
    rw [List.length_range]; exact hp
  · show RV.own (List.map enc ((srt (subsL (List.range things))).filter _)) = _
    rw [srt_filter]; rfl
theorem wp_menus (sp : Nat → Spec) (xe : Nat → Nat → Prop) (h0 : sp 705 = sp_subsets_of) : ∀ ds dr Q, sp_menus ds dr Q (fun _ _ => False) → wpF ⟨sp, xe⟩ nm_menus.length ir_menus ds dr Q := by
  intro ds dr Q h
  unfold sp_menus at h
  obtain ⟨things, rfl, hp, hq⟩ := h
  exact wpF_of (rt_menus (C := ⟨sp, xe⟩) h0 things hp) hq
local macro_rules | `(tactic| walk_at "vl") => `(tactic| (refine' vl_menus ?_; walk_at "side"))
/-- how many things a table is of -/
def thingsOf (k : Nat) : Nat := if k ≤ 1 then 1 else Nat.log2 k + 1
theorem thingsOf_len {n : Nat} (h : 1 ≤ n) : thingsOf (menusL n).length = n := by
  rw [menusL_len]
  unfold thingsOf
  by_cases h2 : n = 1
  · subst h2; rfl
  · have e : 2 ^ n - 1 ≥ 3 := by
      have : 2 ^ 2 ≤ 2 ^ n := Nat.pow_le_pow_right (by decide) (by omega)
      omega
    rw [if_neg (by omega)]
    have e2 : (2 ^ n - 1).log2 = n - 1 := by
      rw [Nat.log2_eq_iff (by omega)]
      obtain ⟨m, rfl⟩ : ∃ m, n = m + 1 := ⟨n - 1, by omega⟩
      have h3 : 2 ^ (m + 1) = 2 ^ m * 2 := Nat.pow_succ ..
      have h4 : 0 < 2 ^ m := Nat.two_pow_pos m
      show 2 ^ m ≤ _ ∧ _ < 2 ^ (m + 1)
      omega
    omega
def nm_things_of : List Str := ["table", "found"]
def ir_things_of : IS :=
(.seq (.asg (.nm 1) (.cst (.int 1)))
  (.seq (.whl (.cmp .lt (.blt .len (.acons (.call 580 (.acons (.var 1) .anil)) .anil)) (.blt .len (.acons (.bor 0) .anil)))
 (.seq (.aug 1 (.cst (.int 1)))
  .skip))
  (.seq (.ret (.var 1))
  .skip)))
def fs_things_of : List (Nat × Str) := [(580, "menus")]
def cs_things_of : List (Str × D) := []
@[irreducible] def sp_things_of : Spec := fun ds dr Q _ => ∃ (table : List (List Nat)), ds = [enc table] ∧ (∃ n, 1 ≤ n ∧ n ≤ 8 ∧ table.length = (menusL n).length ) ∧ Q (.val (enc (thingsOf table.length : Nat))) dr
theorem vl_things_of {table : List (List Nat)} (hp : ∃ n, 1 ≤ n ∧ n ≤ 8 ∧ table.length = (menusL n).length ) : VlR sp_things_of [enc table] (.val (enc (thingsOf table.length : Nat))) := fun dr Q xe q => by unfold sp_things_of; exact ⟨table, rfl, hp, q⟩
theorem rt_things_of {C : PC} {n : Nat} (h_menus : C.sp 580 = sp_menus) (table : List (List Nat)) (hp : ∃ n, 1 ≤ n ∧ n ≤ 8 ∧ table.length = (menusL n).length ) : Rt C ir_things_of ⟨[.val (enc table), .no], n⟩ n (.val (enc (thingsOf table.length : Nat))) := by
  unfold ir_things_of
  obtain ⟨m, h1, h2, h3⟩ := hp
  rw [h3, thingsOf_len h1]
  refine' rt_asg ev_cst sl_val ?b0
  refine' rt_whl (fun k ρ => ∃ f : Nat, ρ = ⟨[.val (enc table), .val (.int f)], n⟩ ∧ 1 ≤ f ∧ f ≤ m ∧ k = m - f) (m := m - 1) ⟨1, rfl, by omega, by omega, rfl⟩ ?w0
  rintro k ρ ⟨f, rfl, f1, f2, rfl⟩
  have lt : ((menusL f).length < table.length) ↔ f < m := by
    rw [h3, menusL_len, menusL_len]
    have p : ∀ a b : Nat, a < b → 2 ^ a < 2 ^ b := fun a b h => Nat.pow_lt_pow_right (by decide) h
    have q : ∀ a : Nat, 0 < 2 ^ a := Nat.two_pow_pos
    constructor
    · intro h
      refine Decidable.byContradiction fun z => ?_
      have : f = m := by omega
      subst this; omega
    · intro h
      have := p f m h; have := q f; omega
  refine ⟨decide ((menusL f).length < table.length), ⟨[.val (enc table), .val (.int f)], n⟩, ?c1, fun hk => ⟨none, ?c2, fun r h => by cases h⟩, fun hk => ?c3⟩
  case' c1 =>
    walk_at "ev"
  case' c2 =>
    rw [decide_eq_true_eq, lt] at hk
    walk_at "bo"
    exact ⟨m - (f + 1), by omega, f + 1, rfl, by omega, by omega, rfl⟩
  case' c3 =>
    rw [decide_eq_false_iff_not, lt] at hk
    walk_at "st"
    have : f = m := by omega
    rw [this]; rfl
theorem wp_things_of (sp : Nat → Spec) (xe : Nat → Nat → Prop) (h0 : sp 580 = sp_menus) : ∀ ds dr Q, sp_things_of ds dr Q (fun _ _ => False) → wpF ⟨sp, xe⟩ nm_things_of.length ir_things_of ds dr Q := by
  intro ds dr Q h
  unfold sp_things_of at h
  obtain ⟨table, rfl, hp, hq⟩ := h
  exact wpF_of (rt_things_of (C := ⟨sp, xe⟩) h0 table hp) hq
local macro_rules | `(tactic| walk_at "vl") => `(tactic| (refine' vl_things_of ?_; walk_at "side"))
theorem ptAll_nodup {κ ν : Type} [DecidableEq κ] : ∀ (kvs : List (κ × ν)), (kvs.map (·.1)).Nodup → ptAll kvs = kvs := fun kvs h => by
  have : ∀ (kvs acc : List (κ × ν)), ((acc ++ kvs).map (·.1)).Nodup → kvs.foldl (fun l p => pt l p.1 p.2) acc = acc ++ kvs := fun kvs => by
    induction kvs with
    | nil => intro acc _; simp
    | cons p kvs ih =>
      intro acc h
      have e : pt acc p.1 p.2 = acc ++ [p] := by
        unfold pt
        rw [if_neg]
        intro hh
        obtain ⟨q, hq, e⟩ := List.any_eq_true.mp hh
        rw [decide_eq_true_eq] at e
        rw [List.map_append, List.nodup_append] at h
        exact h.2.2 q.1 (List.mem_map.mpr ⟨q, hq, rfl⟩) p.1 (by simp) e
      rw [List.foldl_cons, e, ih _ (by rw [List.append_assoc]; exact h), List.append_assoc]; rfl
  have := this kvs [] h
  exact this
/-- the rows of a table -/
def rowsOf (t : List (List Nat)) : List (List Nat × List Nat) := (menusL (thingsOf t.length)).zip t
def IsTab (n : Nat) (t : List (List Nat)) : Prop := 1 ≤ n ∧ n ≤ 8 ∧ t.length = (menusL n).length
theorem IsTab.things {n : Nat} {t : List (List Nat)} (h : IsTab n t) : thingsOf t.length = n := by rw [h.2.2, thingsOf_len h.1]
theorem rowsOf_keys {n : Nat} {t : List (List Nat)} (h : IsTab n t) : (rowsOf t).map (·.1) = menusL n := by
  unfold rowsOf
  rw [h.things, List.map_fst_zip]
  rw [h.2.2]; exact Nat.le_refl _
/-- what is picked -/
def pick (t : List (List Nat)) (m : List Nat) : List Nat := (lk (rowsOf t) m).getD []
theorem lk_some {n : Nat} {t : List (List Nat)} (h : IsTab n t) {m : List Nat} (hm : m ∈ menusL n) : lk (rowsOf t) m = some (pick t m) := by
  unfold pick
  rw [← rowsOf_keys h, List.mem_map] at hm
  obtain ⟨p, hp, e⟩ := hm
  have : (lk (rowsOf t) m).isSome = true := by
    unfold lk
    rw [Option.isSome_map, List.find?_isSome]
    exact ⟨p, hp, by simpa using e⟩
  obtain ⟨v, hv⟩ := Option.isSome_iff_exists.mp this
  rw [hv]; rfl
def nm_by_menus : List Str := ["table", "menu", "picks"]
def ir_by_menus : IS :=
(.seq (.ret (.dcomp [1, 2] (.tp [1, 2]) (.itZip (.call 580 (.acons (.call 725 (.acons (.var 0) .anil)) .anil)) (.bor 0)) (.cst (.bl true)) (.var 1) (.var 2)))
  .skip)
def fs_by_menus : List (Nat × Str) := [(580, "menus"), (725, "things_of")]
def cs_by_menus : List (Str × D) := []
@[irreducible] def sp_by_menus : Spec := fun ds dr Q _ => ∃ (table : List (List Nat)), ds = [enc table] ∧ (∃ n, IsTab n table ) ∧ Q (.owd (encKV (rowsOf table))) dr
theorem vl_by_menus {table : List (List Nat)} (hp : ∃ n, IsTab n table ) : VlR sp_by_menus [enc table] (.owd (encKV (rowsOf table))) := fun dr Q xe q => by unfold sp_by_menus; exact ⟨table, rfl, hp, q⟩
theorem rt_by_menus {C : PC} {n : Nat} (h_menus : C.sp 580 = sp_menus) (h_things_of : C.sp 725 = sp_things_of) (table : List (List Nat)) (hp : ∃ n, IsTab n table ) : Rt C ir_by_menus ⟨[.val (enc table), .no, .no], n⟩ n (.owd (encKV (rowsOf table))) := by
  unfold ir_by_menus
  obtain ⟨m, h⟩ := hp
  have h1 := h.things
  have h2 : thingsOf table.length ≤ 10 := by have := h.2.1; omega
  walk_at "st"
  · exact ⟨m, h⟩
  · have e : ((menusL (thingsOf table.length)).zip table).map (fun x => (x.1, x.2)) = rowsOf table := by
      unfold rowsOf; exact List.map_id' _
    show RV.owd (encKV (ptAll (((menusL (thingsOf table.length)).zip table).map fun x => (x.1, x.2)))) = _
    rw [e, ptAll_nodup _ (by rw [rowsOf_keys h]; exact menusL_nodup m)]
theorem wp_by_menus (sp : Nat → Spec) (xe : Nat → Nat → Prop) (h0 : sp 580 = sp_menus) (h1 : sp 725 = sp_things_of) : ∀ ds dr Q, sp_by_menus ds dr Q (fun _ _ => False) → wpF ⟨sp, xe⟩ nm_by_menus.length ir_by_menus ds dr Q := by
  intro ds dr Q h
  unfold sp_by_menus at h
  obtain ⟨table, rfl, hp, hq⟩ := h
  exact wpF_of (rt_by_menus (C := ⟨sp, xe⟩) h0 h1 table hp) hq
local macro_rules | `(tactic| walk_at "vl") => `(tactic| (refine' vl_by_menus ?_; walk_at "side"))
def nm_picks : List Str := ["table", "menu"]
def ir_picks : IS :=
(.seq (.ret (.idx (.call 302 (.acons (.var 0) .anil)) (.bor 1)))
  .skip)
def fs_picks : List (Nat × Str) := [(302, "by_menus")]
def cs_picks : List (Str × D) := []
@[irreducible] def sp_picks : Spec := fun ds dr Q _ => ∃ (table : List (List Nat)) (menu : List Nat), ds = [enc table, enc menu] ∧ (∃ n, IsTab n table ∧ menu ∈ menusL n ) ∧ Q (.val (enc (pick table menu : List Nat))) dr
theorem vl_picks {table : List (List Nat)} {menu : List Nat} (hp : ∃ n, IsTab n table ∧ menu ∈ menusL n ) : VlR sp_picks [enc table, enc menu] (.val (enc (pick table menu : List Nat))) := fun dr Q xe q => by unfold sp_picks; exact ⟨table, menu, rfl, hp, q⟩
theorem rt_picks {C : PC} {n : Nat} (h_by_menus : C.sp 302 = sp_by_menus) (table : List (List Nat)) (menu : List Nat) (hp : ∃ n, IsTab n table ∧ menu ∈ menusL n ) : Rt C ir_picks ⟨[.val (enc table), .val (enc menu)], n⟩ n (.val (enc (pick table menu : List Nat))) := by
  unfold ir_picks
  obtain ⟨m, h, hm⟩ := hp
  have h1 := lk_some h hm
  walk_at "st"
  · exact ⟨m, h⟩
  · rfl
theorem wp_picks (sp : Nat → Spec) (xe : Nat → Nat → Prop) (h0 : sp 302 = sp_by_menus) : ∀ ds dr Q, sp_picks ds dr Q (fun _ _ => False) → wpF ⟨sp, xe⟩ nm_picks.length ir_picks ds dr Q := by
  intro ds dr Q h
  unfold sp_picks at h
  obtain ⟨table, menu, rfl, hp, hq⟩ := h
  exact wpF_of (rt_picks (C := ⟨sp, xe⟩) h0 table menu hp) hq
local macro_rules | `(tactic| walk_at "vl") => `(tactic| (refine' vl_picks ?_; walk_at "side"))

end PL
/-! KC -/
namespace PL
open PySem PySem.Spec PyProof.Rows L2
open En
local macro_rules | `(tactic| walk_at "side") => `(tactic| first
  | assumption | trivial | decide | omega
  | (simp only [List.length_map, List.length_range, List.length_append, List.length_cons, List.length_nil, List.length_singleton, sizeLine_eq] at *; omega)
  | (simp_all; done) | skip)
local macro_rules | `(tactic| walk_at "vl") => `(tactic| skip)
local macro_rules | `(tactic| walk_at "kp") => `(tactic| first | exact kp_val | exact kp_own | exact kp_owd)
local macro_rules | `(tactic| walk_at "as") => `(tactic| first
  | exact as_enc | exact as_N | exact as_I | exact as_B | exact as_S | exact as_T | exact as_L
  | (refine' as_T1 ?h; (case' h => walk_at "as")) | (refine' as_P ?h ?i; (case' h => walk_at "as"); (case' i => walk_at "as")) | exact as_D | skip)
local macro_rules | `(tactic| walk_at "op") => `(tactic| first
  | exact cmp_eqN0 | exact cmp_ltN0 | exact cmp_leN0 | exact cmp_gtN0 | exact cmp_geN0 | exact cmp_neN0 | exact cmp_eqN1 | exact cmp_ltN1 | exact cmp_leN1 | exact cmp_gtN1 | exact cmp_geN1 | exact cmp_neN1 | exact cmp_eqN2 | exact cmp_ltN2 | exact cmp_leN2 | exact cmp_gtN2 | exact cmp_geN2 | exact cmp_neN2 | exact cmp_eqN3 | exact cmp_ltN3 | exact cmp_leN3 | exact cmp_gtN3 | exact cmp_geN3 | exact cmp_neN3 | exact cmp_eqN4 | exact cmp_ltN4 | exact cmp_leN4 | exact cmp_gtN4 | exact cmp_geN4 | exact cmp_neN4 | exact cmp_eqN5 | exact cmp_ltN5 | exact cmp_leN5 | exact cmp_gtN5 | exact cmp_geN5 | exact cmp_neN5 | exact bin_addN1 | exact bin_add1N
  | exact cmp_eqN | exact cmp_neN | exact cmp_ltN | exact cmp_leN | exact cmp_gtN | exact cmp_geN | exact bin_addN
  | exact cmp_eqI | exact cmp_eqS | exact cmp_eqB | exact cmp_eqT | exact cmp_eqT1 | exact cmp_eqT0 | exact cmp_eqL | exact cmp_eqE
  | exact cmp_neI | exact cmp_neS | exact cmp_neB | exact cmp_neT | exact cmp_neL | exact cmp_neE
  | exact cmp_lt | exact cmp_le | exact cmp_gt | exact cmp_ge | exact cmp_ltT
  | exact cmp_inT | exact cmp_ninT | exact cmp_inL | exact cmp_ninL | exact cmp_inTp | exact cmp_ninTp | exact cmp_inLp | exact cmp_ninLp | exact cmp_inD | exact cmp_ninD | exact cmp_inN | exact cmp_ninN
  | exact cmp_isN | exact cmp_isnN | exact cmp_isB | exact cmp_isnB
  | exact bin_add | exact bin_sub | (refine' bin_mul ?_; walk_at "side") | (refine' bin_fdiv ?_; walk_at "side") | (refine' bin_mod ?_; walk_at "side")
  | (refine' bin_addT ?_; walk_at "side") | (refine' bin_addT1 ?_; walk_at "side") | (refine' bin_addL ?_; walk_at "side") | (refine' bin_addL1 ?_; walk_at "side") | (refine' bin_repL ?_; walk_at "side")
  | (refine' idx_0T ?_; walk_at "side") | (refine' idx_0L ?_; walk_at "side") | (refine' idx_T ?_; walk_at "side") | (refine' idx_L ?_; walk_at "side") | (refine' idx_D ?h; (case' h => first | assumption | skip)) | (refine' idx_0T ?_; walk_at "side") | (refine' idx_0L ?_; walk_at "side") | (refine' idx_lastL ?_; walk_at "side") | (refine' idx_lastT ?_; walk_at "side")
  | (refine' idx_IT ?_; walk_at "side") | (refine' idx_IL ?_; walk_at "side")
  | exact slc_T | exact slc_L | exact rev_T | exact rev_L
  | exact tru_B | exact tru_I | exact tru_N | exact tru_T | exact tru_L
  | exact blt_lenT | exact blt_lenL | exact blt_lenD | exact blt_lenTr | exact blt_lenLr | exact blt_intI | exact blt_intB | exact blt_tupL | exact blt_tupT | (refine' blt_tupR ?_; walk_at "side")
  | exact blt_lstL | exact blt_lstT | exact blt_lstD | (refine' blt_lstR ?_; walk_at "side") | (refine' blt_rngN ?_; walk_at "side") | (refine' blt_rng1 ?_; walk_at "side")
  | exact blt_srtL | exact blt_srtT | exact blt_srtD | exact blt_srtP
  | (refine' blt_minLN ?_; walk_at "side") | (refine' blt_maxLN ?_; walk_at "side") | (refine' blt_minTN ?_; walk_at "side") | (refine' blt_maxTN ?_; walk_at "side")
  | (refine' blt_minL ?_; walk_at "side") | (refine' blt_maxL ?_; walk_at "side") | (refine' blt_minT ?_; walk_at "side") | (refine' blt_maxT ?_; walk_at "side")
  | exact blt_sumLN | exact blt_sumL | exact blt_any | exact blt_all | exact blt_abs | exact blt_min2 | exact blt_max2
  | (refine' mth_ixT ?_; walk_at "side") | (refine' mth_ixL ?_; walk_at "side")
  | exact itm_tup | exact itm_lst | exact itm_dct | (refine' itm_rng ?_; walk_at "side")
  | exact sq_tup | exact sq_lst
  | skip)
local macro_rules | `(tactic| walk_at "tg") => `(tactic| first | exact fun _ => tg_nm | exact fun _ => tg_tp2 | exact fun _ => tg_tp3 | exact fun _ => tg_tp1 | skip)
local macro_rules | `(tactic| walk_at "ek") => `(tactic| first
  | (refine' evk_gen ?e ?k; (case' e => walk_at "ev"); (case' k => first | exact kpa_own | (refine' kpa_val ?h; (case' h => walk_at "as"))))
  | skip)
local macro_rules | `(tactic| walk_at "ea") => `(tactic| first
  | exact eva_nil
  | (refine' eva_T ?e ?d ?r; (case' e => walk_at "ev"); (case' d => first | rfl | skip); (case' r => walk_at "ea"))
  | (refine' eva_F ?e ?d ?r; (case' e => walk_at "ev"); (case' d => first | walk_at "kp" | skip); (case' r => walk_at "ea"))
  | skip)
local macro_rules | `(tactic| walk_at "ei") => `(tactic| first
  | (refine' evi_r1 ?e ?h ?z; (case' e => walk_at "ev"); (case' h => first | rfl | skip); (case' z => walk_at "side"))
  | (refine' evi_r21 ?e ?e2 ?h ?h2 ?z; (case' e => walk_at "ev"); (case' e2 => walk_at "ev"); (case' h => rfl); (case' h2 => rfl); (case' z => walk_at "side"))
  | (refine' evi_r2 ?e ?e2 ?h ?h2 ?z ?z2; (case' e => walk_at "ev"); (case' e2 => walk_at "ev"); (case' h => first | rfl | skip); (case' h2 => first | rfl | skip); (case' z => walk_at "side"); (case' z2 => walk_at "side"))
  | (refine' evi_T ?e ?h; (case' e => walk_at "ev"); (case' h => walk_at "op"))
  | (refine' evi_F ?e ?k ?h; (case' e => walk_at "ev"); (case' k => first | walk_at "kp" | skip); (case' h => walk_at "op"))
  | (refine' evi_zipT ?e ?e2 ?h ?h2; (case' e => walk_at "ev"); (case' e2 => walk_at "ev"); (case' h => walk_at "op"); (case' h2 => walk_at "op"))
  | (refine' evi_zipF ?e ?k ?e2 ?k2 ?h ?h2; (case' e => walk_at "ev"); (case' k => walk_at "kp"); (case' e2 => walk_at "ev"); (case' k2 => walk_at "kp"); (case' h => walk_at "op"); (case' h2 => walk_at "op"))
  | (refine' evi_zip3T ?e ?e2 ?e3 ?h ?h2 ?h3; (case' e => walk_at "ev"); (case' e2 => walk_at "ev"); (case' e3 => walk_at "ev"); (case' h => walk_at "op"); (case' h2 => walk_at "op"); (case' h3 => walk_at "op"))
  | (refine' evi_enumT ?e ?h; (case' e => walk_at "ev"); (case' h => walk_at "op"))
  | (refine' evi_itemsT ?e ?h; (case' e => walk_at "ev"); (case' h => first | rfl | skip))
  | (refine' evi_itemsF ?e ?k ?h; (case' e => walk_at "ev"); (case' k => walk_at "kp"); (case' h => first | rfl | skip))
  | skip)
local macro_rules | `(tactic| walk_at "ev") => `(tactic| first
  | exact ev_cst
  | exact ev_bor rfl | exact ev_borO rfl | exact ev_borD rfl
  | exact ev_var rfl | exact ev_varO rfl | exact ev_varD rfl
  | (refine' ev_bin ?a ?b ?o; (case' a => walk_at "ev"); (case' b => walk_at "ev"); (case' o => walk_at "op"))
  | (refine' ev_cmp ?a ?b ?o; (case' a => walk_at "ev"); (case' b => walk_at "ev"); (case' o => walk_at "op"))
  | (refine' ev_cmp2 ?a ?b ?o ?c ?o2; (case' a => walk_at "ev"); (case' b => walk_at "ev"); (case' o => walk_at "op"); (case' c => walk_at "ev"); (case' o2 => walk_at "op"))
  | (refine' ev_tst ?a ?o; (case' a => walk_at "ev"); (case' o => walk_at "op"))
  | (refine' ev_and ?a ?b; (case' a => walk_at "ev"); (case' b => (intro _; walk_at "ev")))
  | (refine' ev_or ?a ?b; (case' a => walk_at "ev"); (case' b => (intro _; walk_at "ev")))
  | (refine' ev_not ?a; (case' a => walk_at "ev"))
  | (refine' ev_ite ?a ?b ?c; (case' a => walk_at "ev"); (case' b => (intro _; walk_at "ev")); (case' c => (intro _; walk_at "ev")))
  | (refine' ev_idx ?a ?b ?o; (case' a => walk_at "ev"); (case' b => walk_at "ev"); (case' o => walk_at "op"))
  | (refine' ev_blt ?a ?o; (case' a => walk_at "ea"); (case' o => walk_at "op"))
  | (refine' ev_call ?h ?a ?o; (case' h => first | assumption | skip); (case' a => walk_at "ea"); (case' o => walk_at "vl"))
  | (refine' ev_tup ?a ?z; (case' a => walk_at "ea"); (case' z => walk_at "side"))
  | (refine' ev_lst ?a ?z; (case' a => walk_at "ea"); (case' z => walk_at "side"))
  | exact ev_dnew
  | (refine' ev_neg ?a ?o; (case' a => walk_at "ev"); (case' o => first | rfl | skip))
  | (refine' ev_mth ?a ?b ?o; (case' a => walk_at "ev"); (case' b => walk_at "ea"); (case' o => walk_at "op"))
  | (refine' ev_slc0 ?a ?o; (case' a => walk_at "ev"); (case' o => walk_at "op"))
  | (refine' ev_slcF rfl ?a ?b ?h ?o; (case' a => walk_at "ev"); (case' b => walk_at "ev"); (case' h => first | rfl | skip); (case' o => walk_at "op"))
  | (refine' ev_slcT rfl ?a ?b ?h ?o; (case' a => walk_at "ev"); (case' b => walk_at "ev"); (case' h => first | rfl | skip); (case' o => walk_at "op"))
  | (refine' ev_slc2 rfl rfl ?a ?b ?h ?c ?i ?o; (case' a => walk_at "ev"); (case' b => walk_at "ev"); (case' h => first | rfl | skip); (case' c => walk_at "ev"); (case' i => first | rfl | skip); (case' o => walk_at "op"))
  | (refine' ev_rev ?a ?o; (case' a => walk_at "ev"); (case' o => walk_at "op"))
  | (refine' ev_isi ?a ?t ?b; (case' a => walk_at "ev"); (case' t => first | rfl | skip); (case' b => first | rfl | skip))
  | (refine' ev_compI rfl ?hi ?ht ?he ?hw ?hb ?hc; (case' hi => walk_at "ei"); (case' ht => exact fun _ => tg_nm); (case' he => exact fun _ => rfl); (case' hw => exact fun _ => rfl); (case' hb => rfl); (case' hc => (intro _ _; walk_at "ev")))
  | (refine' ev_compA rfl ?hi ?ht ?hw ?hb ?he; (case' hi => walk_at "ei"); (case' ht => walk_at "tg"); (case' hw => exact fun _ => rfl); (case' hb => rfl); (case' he => (intro _ _; walk_at "ek")))
  | (refine' ev_compAG rfl ?hi ?ht ?hw ?hb ?he; (case' hi => walk_at "ei"); (case' ht => walk_at "tg"); (case' hw => exact fun _ => rfl); (case' hb => rfl); (case' he => (intro _ _; walk_at "ek")))
  | (refine' ev_comp rfl ?hi ?ht ?hw ?hb ?hc ?he; (case' hi => walk_at "ei"); (case' ht => walk_at "tg"); (case' hw => exact fun _ => rfl); (case' hb => rfl); (case' hc => (intro _ _; walk_at "ev")); (case' he => (intro _ _ _; walk_at "ek")))
  | (refine' ev_dcompA ?i1 ?i2 ?i3 rfl ?hi ?ht ?hw ?hb ?he ?hv ?hd; (case' hi => walk_at "ei"); (case' ht => walk_at "tg"); (case' hw => exact fun _ => rfl); (case' hb => rfl); (case' he => (intro _ _; walk_at "ek")); (case' hv => (intro _ _; walk_at "ek")); (case' i1 => infer_instance); (case' i2 => infer_instance); (case' i3 => infer_instance); (case' hd => decide))
  | skip)
local macro_rules | `(tactic| walk_at "st") => `(tactic| first
  | (refine' rt_seqR (rt_ret ?e ?d ?q); (case' e => walk_at "ev"); (case' d => rfl))
  | (refine' rt_ret ?e ?d ?q; (case' e => walk_at "ev"); (case' d => rfl))
  | (refine' rt_asg ?e ?s ?b; (case' e => walk_at "ev"); (case' s => first | exact sl_val | exact sl_own | exact sl_owd | skip); (case' b => walk_at "st"))
  | (refine' rt_asgT ?e ?s ?t ?b; (case' e => walk_at "ev"); (case' s => walk_at "kp"); (case' t => first | exact tg_tp2 | exact tg_tp3 | exact tg_tp4 | skip); (case' b => walk_at "st"))
  | (refine' rt_ifs ?e ?a ?b; (case' e => walk_at "ev"); (case' a => (intro _; walk_at "st")); (case' b => (intro _; walk_at "st")))
  | (refine' rt_app rfl ?e ?x ?z ?b; (case' e => walk_at "ek"); (case' x => rfl); (case' z => walk_at "side"); (case' b => walk_at "st"))
  | (refine' rt_asgL ?e ?p ?k ?j ?x ?l ?b; (case' e => walk_at "ek"); (case' p => rfl); (case' k => walk_at "ev"); (case' j => first | rfl | skip); (case' x => rfl); (case' l => walk_at "side"); (case' b => walk_at "st"))
  | (refine' rt_aug rfl ?e ?y ?b; (case' e => walk_at "ev"); (case' y => first | rfl | skip); (case' b => walk_at "st"))
  | (refine' rt_assoc ?_; walk_at "st")
  | (refine' rt_skip ?_; walk_at "st")
  | skip)
local macro_rules | `(tactic| walk_at "bo") => `(tactic| first
  | (refine' bo_asg ?e ?s ?b; (case' e => walk_at "ev"); (case' s => first | exact sl_val | exact sl_own | exact sl_owd | skip); (case' b => walk_at "bo"))
  | (refine' bo_asgT ?e ?s ?t ?b; (case' e => walk_at "ev"); (case' s => walk_at "kp"); (case' t => first | exact tg_tp2 | exact tg_tp3 | exact tg_tp4 | skip); (case' b => walk_at "bo"))
  | (refine' bo_app rfl ?e ?x ?z ?b; (case' e => walk_at "ek"); (case' x => rfl); (case' z => walk_at "side"); (case' b => walk_at "bo"))
  | (refine' bo_asgL ?e ?p ?k ?j ?x ?l ?b; (case' e => walk_at "ek"); (case' p => rfl); (case' k => walk_at "ev"); (case' j => first | rfl | skip); (case' x => rfl); (case' l => walk_at "side"); (case' b => walk_at "bo"))
  | (refine' bo_aug rfl ?e ?y ?b; (case' e => walk_at "ev"); (case' y => first | rfl | skip); (case' b => walk_at "bo"))
  | (refine' bo_ret ?e ?d; (case' e => walk_at "ev"); (case' d => rfl))
  | (refine' bo_ifs' ?e ?a ?b; (case' e => walk_at "ev"); (case' a => (intro _; walk_at "bo")); (case' b => (intro _; walk_at "bo")))
  | (refine' bo_assoc ?_; walk_at "bo")
  | (refine' bo_sk ?_; walk_at "bo")
  | refine' bo_skip ?_ | refine' bo_seqC ?_ | refine' bo_cnt ?_
  | skip)
local macro_rules | `(tactic| walk_at "bof") => `(tactic| first
  | (refine' bo_asg ?e ?s ?b; (case' e => walk_at "ev"); (case' s => first | exact sl_val | exact sl_own | exact sl_owd | skip); (case' b => walk_at "bof"))
  | (refine' bo_asgT ?e ?s ?t ?b; (case' e => walk_at "ev"); (case' s => walk_at "kp"); (case' t => first | exact tg_tp2 | exact tg_tp3 | exact tg_tp4 | skip); (case' b => walk_at "bof"))
  | (refine' bo_ret ?e ?d; (case' e => walk_at "ev"); (case' d => rfl))
  | (refine' bo_ifs ?e ?a ?b; (case' e => walk_at "ev"); (case' a => (intro _; walk_at "bof")); (case' b => (intro _; walk_at "bof")))
  | (refine' bo_assoc ?_; walk_at "bof")
  | (refine' bo_sk ?_; walk_at "bof")
  | refine' bo_skip ?_ | refine' bo_seqC ?_ | refine' bo_cnt ?_
  | skip)
local macro_rules | `(tactic| walk_at "vl") => `(tactic| (refine' vl_is_integer ?_; walk_at "side"))
local macro_rules | `(tactic| walk_at "vl") => `(tactic| (refine' vl_is_number ?_; walk_at "side"))
local macro_rules | `(tactic| walk_at "vl") => `(tactic| (refine' vl_is_tuple ?_; walk_at "side"))
local macro_rules | `(tactic| walk_at "vl") => `(tactic| (refine' vl_is_tagged ?_; walk_at "side"))
local macro_rules | `(tactic| walk_at "vl") => `(tactic| (refine' vl_is_between ?_; walk_at "side"))
local macro_rules | `(tactic| walk_at "vl") => `(tactic| (refine' vl_are_integers ?_; walk_at "side"))
local macro_rules | `(tactic| walk_at "vl") => `(tactic| (refine' vl_is_ascending ?_; walk_at "side"))
local macro_rules | `(tactic| walk_at "vl") => `(tactic| (refine' vl_are_numbers ?_; walk_at "side"))
local macro_rules | `(tactic| walk_at "vl") => `(tactic| (refine' vl_is_menu ?_; walk_at "side"))
local macro_rules | `(tactic| walk_at "vl") => `(tactic| (refine' vl_subsets_of ?_; walk_at "side"))
local macro_rules | `(tactic| walk_at "vl") => `(tactic| (refine' vl_menus ?_; walk_at "side"))
local macro_rules | `(tactic| walk_at "vl") => `(tactic| (refine' vl_things_of ?_; walk_at "side"))
local macro_rules | `(tactic| walk_at "vl") => `(tactic| (refine' vl_by_menus ?_; walk_at "side"))
local macro_rules | `(tactic| walk_at "vl") => `(tactic| (refine' vl_picks ?_; walk_at "side"))
/-! the laws' own pure helpers -/
def kindD (x : D) : Int := if isTy .bool x = true then 1 else if isTy .int x = true then 2 else if isTy .str x = true then 3 else if isTy .tuple x = true then 4 else if isTy .list x = true then 5 else if isNon x = true then 6 else 0
theorem kindD_int {x : D} (h : hasTy x = true) : decide (kindD x = 2) = isInt x := by cases x <;> first | rfl | cases h
theorem encD (x : D) : (enc x : D) = x := rfl
theorem encI (x : Int) : (enc x : D) = .int x := rfl
theorem encB (x : Bool) : (enc x : D) = .bl x := rfl
def nm__law_kind : List Str := ["x"]
def ir__law_kind : IS :=
(.seq (.ifs (.tst (.isi (.bor 0) .bool))
 (.seq (.ret (.cst (.int 1)))
  .skip)
 .skip)
  (.seq (.ifs (.tst (.isi (.bor 0) .int))
 (.seq (.ret (.cst (.int 2)))
  .skip)
 .skip)
  (.seq (.ifs (.tst (.isi (.bor 0) .str))
 (.seq (.ret (.cst (.int 3)))
  .skip)
 .skip)
  (.seq (.ifs (.tst (.isi (.bor 0) .tuple))
 (.seq (.ret (.cst (.int 4)))
  .skip)
 .skip)
  (.seq (.ifs (.tst (.isi (.bor 0) .list))
 (.seq (.ret (.cst (.int 5)))
  .skip)
 .skip)
  (.seq (.ifs (.cmp .is (.bor 0) (.cst .non))
 (.seq (.ret (.cst (.int 6)))
  .skip)
 .skip)
  (.seq (.ret (.cst (.int 0)))
  .skip)))))))
def fs__law_kind : List (Nat × Str) := []
def cs__law_kind : List (Str × D) := []
@[irreducible] def sp__law_kind : Spec := fun ds dr Q _ => ∃ (x : D), ds = [enc x] ∧ (hasTy x = true ) ∧ Q (.val (enc (kindD x : Int))) dr
theorem vl__law_kind {x : D} (hp : hasTy x = true ) : VlR sp__law_kind [enc x] (.val (enc (kindD x : Int))) := fun dr Q xe q => by unfold sp__law_kind; exact ⟨x, rfl, hp, q⟩
theorem rt__law_kind {C : PC} {n : Nat}  (x : D) (hp : hasTy x = true ) : Rt C ir__law_kind ⟨[.val (enc x)], n⟩ n (.val (enc (kindD x : Int))) := by
  unfold ir__law_kind
  walk_at "st"
  all_goals first | exact hp | (simp only [RV.toD, encD] at *; show RV.val (.int _) = .val (.int (kindD x)); unfold kindD; simp [*])
theorem wp__law_kind (sp : Nat → Spec) (xe : Nat → Nat → Prop)  : ∀ ds dr Q, sp__law_kind ds dr Q (fun _ _ => False) → wpF ⟨sp, xe⟩ nm__law_kind.length ir__law_kind ds dr Q := by
  intro ds dr Q h
  unfold sp__law_kind at h
  obtain ⟨x, rfl, hp, hq⟩ := h
  exact wpF_of (rt__law_kind (C := ⟨sp, xe⟩)  x hp) hq
local macro_rules | `(tactic| walk_at "vl") => `(tactic| (refine' vl__law_kind ?_; walk_at "side"))
def nm__law_is : List Str := ["x", "due"]
def ir__law_is : IS :=
(.seq (.ifs (.tst (.bor 1))
 (.seq (.ret (.cmp .is (.bor 0) (.cst (.bl true))))
  .skip)
 .skip)
  (.seq (.ret (.cmp .is (.bor 0) (.cst (.bl false))))
  .skip))
def fs__law_is : List (Nat × Str) := []
def cs__law_is : List (Str × D) := []
@[irreducible] def sp__law_is : Spec := fun ds dr Q _ => ∃ (x : Bool) (due : Bool), ds = [enc x, enc due] ∧ Q (.val (enc (decide (x = due) : Bool))) dr
theorem vl__law_is {x : Bool} {due : Bool} : VlR sp__law_is [enc x, enc due] (.val (enc (decide (x = due) : Bool))) := fun dr Q xe q => by unfold sp__law_is; exact ⟨x, due, rfl, q⟩
theorem rt__law_is {C : PC} {n : Nat}  (x : Bool) (due : Bool)  : Rt C ir__law_is ⟨[.val (enc x), .val (enc due)], n⟩ n (.val (enc (decide (x = due) : Bool))) := by
  unfold ir__law_is
  walk_at "st"
  all_goals simp [*, enc]
theorem wp__law_is (sp : Nat → Spec) (xe : Nat → Nat → Prop)  : ∀ ds dr Q, sp__law_is ds dr Q (fun _ _ => False) → wpF ⟨sp, xe⟩ nm__law_is.length ir__law_is ds dr Q := by
  intro ds dr Q h
  unfold sp__law_is at h
  obtain ⟨x, due, rfl, hq⟩ := h
  exact wpF_of (rt__law_is (C := ⟨sp, xe⟩)  x due ) hq
local macro_rules | `(tactic| walk_at "vl") => `(tactic| exact vl__law_is)
def nm__law_int : List Str := ["x", "low", "high"]
def ir__law_int : IS :=
(.seq (.ret (.and (.cmp .eq (.call 91 (.acons (.var 0) .anil)) (.cst (.int 2))) (.cmp2 .le .le (.bor 1) (.bor 0) (.bor 2))))
  .skip)
def fs__law_int : List (Nat × Str) := [(91, "_law_kind")]
def cs__law_int : List (Str × D) := []
@[irreducible] def sp__law_int : Spec := fun ds dr Q _ => ∃ (x : D) (low : Int) (high : Int), ds = [enc x, enc low, enc high] ∧ (hasTy x = true ) ∧ Q (.val (enc (isNum x low high : Bool))) dr
theorem vl__law_int {x : D} {low : Int} {high : Int} (hp : hasTy x = true ) : VlR sp__law_int [enc x, enc low, enc high] (.val (enc (isNum x low high : Bool))) := fun dr Q xe q => by unfold sp__law_int; exact ⟨x, low, high, rfl, hp, q⟩
theorem rt__law_int {C : PC} {n : Nat} (h__law_kind : C.sp 91 = sp__law_kind) (x : D) (low : Int) (high : Int) (hp : hasTy x = true ) : Rt C ir__law_int ⟨[.val (enc x), .val (enc low), .val (enc high)], n⟩ n (.val (enc (isNum x low high : Bool))) := by
  unfold ir__law_int
  cases e : isInt x with
  | false =>
    have e2 : isNum x low high = false := by cases x <;> first | rfl | cases e
    rw [e2]
    refine' rt_seqR (rt_ret (ev_andF ?a1) ?d1 ?q1)
    case' a1 => (rw [← e, ← kindD_int hp]; walk_at "ev")
    all_goals rfl
  | true =>
    cases x with
    | int i => (walk_at "st"; rfl)
    | _ => cases e
theorem wp__law_int (sp : Nat → Spec) (xe : Nat → Nat → Prop) (h0 : sp 91 = sp__law_kind) : ∀ ds dr Q, sp__law_int ds dr Q (fun _ _ => False) → wpF ⟨sp, xe⟩ nm__law_int.length ir__law_int ds dr Q := by
  intro ds dr Q h
  unfold sp__law_int at h
  obtain ⟨x, low, high, rfl, hp, hq⟩ := h
  exact wpF_of (rt__law_int (C := ⟨sp, xe⟩) h0 x low high hp) hq
local macro_rules | `(tactic| walk_at "vl") => `(tactic| (refine' vl__law_int ?_; walk_at "side"))
def nm__law_ints : List Str := ["x", "low", "high", "one"]
def ir__law_ints : IS :=
(.seq (.ifs (.not (.tst (.isi (.bor 0) .tuple)))
 (.seq (.ret (.cst (.bl false)))
  .skip)
 .skip)
  (.seq (.fr (.nm 3) (.itSeq (.var 0))
 (.seq (.ifs (.not (.tst (.call 72 (.acons (.var 3) (.acons (.var 1) (.acons (.var 2) .anil))))))
 (.seq (.ret (.cst (.bl false)))
  .skip)
 .skip)
  .skip))
  (.seq (.ret (.cst (.bl true)))
  .skip)))
def fs__law_ints : List (Nat × Str) := [(72, "_law_int")]
def cs__law_ints : List (Str × D) := []
@[irreducible] def sp__law_ints : Spec := fun ds dr Q _ => ∃ (x : D) (low : Int) (high : Int), ds = [enc x, enc low, enc high] ∧ (pl x = true ) ∧ Q (.val (enc (areInts x low high : Bool))) dr
theorem vl__law_ints {x : D} {low : Int} {high : Int} (hp : pl x = true ) : VlR sp__law_ints [enc x, enc low, enc high] (.val (enc (areInts x low high : Bool))) := fun dr Q xe q => by unfold sp__law_ints; exact ⟨x, low, high, rfl, hp, q⟩
theorem rt__law_ints {C : PC} {n : Nat} (h__law_int : C.sp 72 = sp__law_int) (x : D) (low : Int) (high : Int) (hp : pl x = true ) : Rt C ir__law_ints ⟨[.val (enc x), .val (enc low), .val (enc high), .no], n⟩ n (.val (enc (areInts x low high : Bool))) := by
  unfold ir__law_ints
  refine' rt_ifs (k := !isTy .tuple x) ?c ?y ?z
  case' c => exact ev_not (ev_tst (ev_isi (ev_bor rfl) (pl_ty hp) rfl) tru_B)
  case' y =>
    intro h
    have e : areInts x low high = false := by cases x <;> first | rfl | cases h
    rw [e]; walk_at "st"; rfl
  case' z =>
    intro h
    cases x with
    | tup xs =>
      obtain ⟨ys, rfl⟩ : ∃ ys : List D, xs = ys.map enc := ⟨xs, (mapD xs).symm⟩
      have h1 : ∀ y ∈ ys, hasTy y = true := fun y hy => pl_ty (pl_tupE hp y (by rw [mapD]; exact hy))
      have e : areInts (.tup (ys.map enc)) low high = ys.all fun y => isNum y low high := by show List.all _ _ = _; rw [mapD]
      rw [e]
      refine' rt_skip (rt_all (xs := ys) (f := enc) (p := fun y => isNum y low high) (fun ρ => ∃ z, ρ = ⟨[.val (.tup (ys.map enc)), .val (enc low), .val (enc high), z], n⟩) ?e1 ?p1 ?t1 ?r1 ?r2)
      case' e1 => walk_at "ei"
      case' p1 => exact ⟨_, rfl⟩
      case' t1 =>
        rintro y hy ρ ⟨z, rfl⟩
        refine ⟨_, tg_nm, ?_⟩
        walk_at "bof"
        all_goals first | exact h1 y hy | exact ⟨_, rfl⟩
      case' r1 => (intro h; rw [h]; rfl)
      case' r2 =>
        rintro h ρ ⟨z, rfl⟩
        rw [h]
        walk_at "st"
        rfl
    | _ => cases h
theorem wp__law_ints (sp : Nat → Spec) (xe : Nat → Nat → Prop) (h0 : sp 72 = sp__law_int) : ∀ ds dr Q, sp__law_ints ds dr Q (fun _ _ => False) → wpF ⟨sp, xe⟩ nm__law_ints.length ir__law_ints ds dr Q := by
  intro ds dr Q h
  unfold sp__law_ints at h
  obtain ⟨x, low, high, rfl, hp, hq⟩ := h
  exact wpF_of (rt__law_ints (C := ⟨sp, xe⟩) h0 x low high hp) hq
local macro_rules | `(tactic| walk_at "vl") => `(tactic| (refine' vl__law_ints ?_; walk_at "side"))
def nm__law_up : List Str := ["x", "k"]
def ir__law_up : IS :=
(.seq (.fr (.nm 1) (.itR2 (.cst (.int 1)) (.blt .len (.acons (.bor 0) .anil)))
 (.seq (.ifs (.not (.cmp .lt (.idx (.bor 0) (.bin .sub (.bor 1) (.cst (.int 1)))) (.idx (.bor 0) (.bor 1))))
 (.seq (.ret (.cst (.bl false)))
  .skip)
 .skip)
  .skip))
  (.seq (.ret (.cst (.bl true)))
  .skip))
def fs__law_up : List (Nat × Str) := []
def cs__law_up : List (Str × D) := []
@[irreducible] def sp__law_up : Spec := fun ds dr Q _ => ∃ (x : List Int), ds = [enc x] ∧ (x.length ≤ 16777216 ) ∧ Q (.val (enc (asc Od.lt x : Bool))) dr
theorem vl__law_up {x : List Int} (hp : x.length ≤ 16777216 ) : VlR sp__law_up [enc x] (.val (enc (asc Od.lt x : Bool))) := fun dr Q xe q => by unfold sp__law_up; exact ⟨x, rfl, hp, q⟩
theorem rt__law_up {C : PC} {n : Nat}  (x : List Int) (hp : x.length ≤ 16777216 ) : Rt C ir__law_up ⟨[.val (enc x), .no], n⟩ n (.val (enc (asc Od.lt x : Bool))) := by
  unfold ir__law_up
  refine' rt_all (xs := List.range' 1 (x.length - 1)) (f := enc) (fun ρ => ∃ z, ρ = ⟨[.val (enc x), z], n⟩) ?e1 ?p1 ?t1 ?r1 ?r2
  case' e1 => walk_at "ei"
  case' p1 => exact ⟨_, rfl⟩
  case' t1 =>
    rintro k hk ρ ⟨z, rfl⟩
    refine ⟨_, tg_nm, ?_⟩
    rw [List.mem_range'_1] at hk
    walk_at "bof"
    all_goals first | exact ⟨_, rfl⟩ | omega
  all_goals
    have e : ((List.range' 1 (x.length - 1)).all fun k : Nat => decide (x.getD ((k : Int) - 1).toNat default < x.getD k default)) = asc Od.lt x := by
      rw [← asc_ix (Od.lt (α := Int)) default x]
      rw [Bool.eq_iff_iff, List.all_eq_true, List.all_eq_true]
      have e : ∀ k ∈ List.range' 1 (x.length - 1), decide (x.getD ((k : Int) - 1).toNat default < x.getD k default) = Od.lt (x.getD (k - 1) default) (x.getD k default) := fun k hk => by
        rw [List.mem_range'_1] at hk
        show decide _ = decide _
        rw [show ((k : Int) - 1).toNat = k - 1 by omega]
      exact ⟨fun h k hk => (e k hk) ▸ h k hk, fun h k hk => (e k hk).symm ▸ h k hk⟩
    rw [← e]
  case' r1 => (intro h; rw [h]; rfl)
  case' r2 =>
    rintro h ρ ⟨z, rfl⟩
    rw [h]
    walk_at "st"
    rfl
theorem wp__law_up (sp : Nat → Spec) (xe : Nat → Nat → Prop)  : ∀ ds dr Q, sp__law_up ds dr Q (fun _ _ => False) → wpF ⟨sp, xe⟩ nm__law_up.length ir__law_up ds dr Q := by
  intro ds dr Q h
  unfold sp__law_up at h
  obtain ⟨x, rfl, hp, hq⟩ := h
  exact wpF_of (rt__law_up (C := ⟨sp, xe⟩)  x hp) hq
local macro_rules | `(tactic| walk_at "vl") => `(tactic| (refine' vl__law_up ?_; walk_at "side"))
def nm__law_set : List Str := ["x", "low", "high"]
def ir__law_set : IS :=
(.seq (.ret (.and (.call 73 (.acons (.var 0) (.acons (.var 1) (.acons (.var 2) .anil)))) (.call 222 (.acons (.var 0) .anil))))
  .skip)
def fs__law_set : List (Nat × Str) := [(222, "_law_up"), (73, "_law_ints")]
def cs__law_set : List (Str × D) := []
@[irreducible] def sp__law_set : Spec := fun ds dr Q _ => ∃ (x : D) (low : Int) (high : Int), ds = [enc x, enc low, enc high] ∧ (pl x = true ∧ lenD x ≤ 1000000 ) ∧ Q (.val (enc (areNums x low high : Bool))) dr
theorem vl__law_set {x : D} {low : Int} {high : Int} (hp : pl x = true ∧ lenD x ≤ 1000000 ) : VlR sp__law_set [enc x, enc low, enc high] (.val (enc (areNums x low high : Bool))) := fun dr Q xe q => by unfold sp__law_set; exact ⟨x, low, high, rfl, hp, q⟩
theorem rt__law_set {C : PC} {n : Nat} (h__law_up : C.sp 222 = sp__law_up) (h__law_ints : C.sp 73 = sp__law_ints) (x : D) (low : Int) (high : Int) (hp : pl x = true ∧ lenD x ≤ 1000000 ) : Rt C ir__law_set ⟨[.val (enc x), .val (enc low), .val (enc high)], n⟩ n (.val (enc (areNums x low high : Bool))) := by
  unfold ir__law_set
  obtain ⟨h1, h2⟩ := hp
  cases e : areInts x low high with
  | false =>
    have e2 : areNums x low high = false := by unfold areNums; rw [e]; rfl
    rw [e2]
    refine' rt_seqR (rt_ret (ev_andF ?a) ?d ?q)
    case' a => (rw [← e]; walk_at "ev")
    all_goals rfl
  | true =>
    obtain ⟨is, rfl, _⟩ := areInts_ex e
    have e2 : areNums (enc is) low high = (areInts (enc is) low high && asc Od.lt is) := by unfold areNums; rw [numsOf_enc]
    have h3 : is.length ≤ 1000000 := by have : ((is.map enc : List D)).length ≤ 1000000 := h2; rw [List.length_map] at this; exact this
    rw [e2]
    refine' rt_seqR (rt_ret (ev_and ?a2 (fun _ => ?b2)) ?d2 ?q2)
    case' a2 => walk_at "ev"
    case' b2 => exact ev_call h__law_up (eva_F (ev_var rfl) kp_val eva_nil) (vl__law_up (by omega))
    all_goals rfl
theorem wp__law_set (sp : Nat → Spec) (xe : Nat → Nat → Prop) (h0 : sp 222 = sp__law_up) (h1 : sp 73 = sp__law_ints) : ∀ ds dr Q, sp__law_set ds dr Q (fun _ _ => False) → wpF ⟨sp, xe⟩ nm__law_set.length ir__law_set ds dr Q := by
  intro ds dr Q h
  unfold sp__law_set at h
  obtain ⟨x, low, high, rfl, hp, hq⟩ := h
  exact wpF_of (rt__law_set (C := ⟨sp, xe⟩) h0 h1 x low high hp) hq
local macro_rules | `(tactic| walk_at "vl") => `(tactic| (refine' vl__law_set ?_; walk_at "side"))
def nm__law_menus : List Str := ["n", "found", "thing", "row"]
def ir__law_menus : IS :=
(.seq (.asg (.nm 1) (.lst (.acons (.tup .anil) .anil)))
  (.seq (.fr (.nm 2) (.itR1 (.bor 0))
 (.seq (.asg (.nm 1) (.bin .add (.bor 1) (.comp [3] (.nm 3) (.itSeq (.bor 1)) (.cst (.bl true)) (.bin .add (.bor 3) (.tup (.acons (.var 2) .anil))))))
  .skip))
  (.seq (.ret (.blt .sorted (.acons (.comp [3] (.nm 3) (.itSeq (.bor 1)) (.cmp .gt (.blt .len (.acons (.bor 3) .anil)) (.cst (.int 0))) (.var 3)) .anil)))
  .skip)))
def fs__law_menus : List (Nat × Str) := []
def cs__law_menus : List (Str × D) := []
@[irreducible] def sp__law_menus : Spec := fun ds dr Q _ => ∃ (n' : Nat), ds = [enc n'] ∧ (n' ≤ 10 ) ∧ Q (.own ((menusL n').map enc)) dr
theorem vl__law_menus {n' : Nat} (hp : n' ≤ 10 ) : VlR sp__law_menus [enc n'] (.own ((menusL n').map enc)) := fun dr Q xe q => by unfold sp__law_menus; exact ⟨n', rfl, hp, q⟩
theorem rt__law_menus {C : PC} {n : Nat}  (n' : Nat) (hp : n' ≤ 10 ) : Rt C ir__law_menus ⟨[.val (enc n'), .no, .no, .no], n⟩ n (.own ((menusL n').map enc)) := by
  unfold ir__law_menus
  refine' rt_asg ?e0 sl_own ?b0
  case' e0 => walk_at "ev"
  refine' rt_for (xs := List.range n') (f := enc) (fun i ρ => ∃ z, ρ = ⟨[.val (enc n'), .own ((subsL ((List.range n').take i)).map enc), z, .no], n⟩) ?e1 ?h1 ?t1 ?r1
  case' e1 => walk_at "ei"
  case' h1 => exact ⟨_, rfl⟩
  case' t1 =>
    rintro i x ρ hx ⟨z, rfl⟩
    refine ⟨_, tg_nm, ?_⟩
    have hi : ((List.range n').take i).length ≤ 10 := by rw [List.length_take, List.length_range]; omega
    have hl : (subsL ((List.range n').take i)).length ≤ 1024 := by rw [subsL_len]; exact Nat.pow_le_pow_right (by decide) hi
    have sz := sizeLine_eq
    have e : (List.range n').take (i + 1) = (List.range n').take i ++ [x] := by rw [List.take_add_one, hx]; rfl
    walk_at "bo"
    all_goals first
      | (rename_i r hr; have := ((mem_subsL _ r).mp hr).length_le; omega)
      | (rw [List.length_map]; omega)
      | exact ⟨_, by rw [e, subsL_snoc]; rfl⟩
  case' r1 =>
    rintro hz ρ ⟨z, rfl⟩
    rw [List.take_length]
    walk_at "st"
    rfl
theorem wp__law_menus (sp : Nat → Spec) (xe : Nat → Nat → Prop)  : ∀ ds dr Q, sp__law_menus ds dr Q (fun _ _ => False) → wpF ⟨sp, xe⟩ nm__law_menus.length ir__law_menus ds dr Q := by
  intro ds dr Q h
  unfold sp__law_menus at h
  obtain ⟨n', rfl, hp, hq⟩ := h
  exact wpF_of (rt__law_menus (C := ⟨sp, xe⟩)  n' hp) hq
local macro_rules | `(tactic| walk_at "vl") => `(tactic| (refine' vl__law_menus ?_; walk_at "side"))
def nm__law_in : List Str := ["one", "two", "thing"]
def ir__law_in : IS :=
(.seq (.ret (.cmp .eq (.blt .len (.acons (.comp [2] (.nm 2) (.itSeq (.bor 0)) (.cmp .notin (.bor 2) (.bor 1)) (.var 2)) .anil)) (.cst (.int 0))))
  .skip)
def fs__law_in : List (Nat × Str) := []
def cs__law_in : List (Str × D) := []
@[irreducible] def sp__law_in : Spec := fun ds dr Q _ => ∃ (one : List Nat) (two : List Nat), ds = [enc one, enc two] ∧ Q (.val (enc (one.all fun t => decide (t ∈ two) : Bool))) dr
theorem vl__law_in {one : List Nat} {two : List Nat} : VlR sp__law_in [enc one, enc two] (.val (enc (one.all fun t => decide (t ∈ two) : Bool))) := fun dr Q xe q => by unfold sp__law_in; exact ⟨one, two, rfl, q⟩
theorem rt__law_in {C : PC} {n : Nat}  (one : List Nat) (two : List Nat)  : Rt C ir__law_in ⟨[.val (enc one), .val (enc two), .no], n⟩ n (.val (enc (one.all fun t => decide (t ∈ two) : Bool))) := by
  unfold ir__law_in
  walk_at "st"
  show RV.val (.bl _) = .val (.bl _)
  congr 2
  rw [Bool.eq_iff_iff, decide_eq_true_eq, List.length_eq_zero_iff, List.filter_eq_nil_iff, List.all_eq_true]
  simp
theorem wp__law_in (sp : Nat → Spec) (xe : Nat → Nat → Prop)  : ∀ ds dr Q, sp__law_in ds dr Q (fun _ _ => False) → wpF ⟨sp, xe⟩ nm__law_in.length ir__law_in ds dr Q := by
  intro ds dr Q h
  unfold sp__law_in at h
  obtain ⟨one, two, rfl, hq⟩ := h
  exact wpF_of (rt__law_in (C := ⟨sp, xe⟩)  one two ) hq
local macro_rules | `(tactic| walk_at "vl") => `(tactic| exact vl__law_in)
def nm__law_both : List Str := ["one", "two", "thing"]
def ir__law_both : IS :=
(.seq (.ret (.blt .tuple (.acons (.comp [2] (.nm 2) (.itSeq (.bor 0)) (.cmp .isin (.bor 2) (.bor 1)) (.var 2)) .anil)))
  .skip)
def fs__law_both : List (Nat × Str) := []
def cs__law_both : List (Str × D) := []
@[irreducible] def sp__law_both : Spec := fun ds dr Q _ => ∃ (one : List Nat) (two : List Nat), ds = [enc one, enc two] ∧ Q (.val (enc (one.filter fun t => decide (t ∈ two) : List Nat))) dr
theorem vl__law_both {one : List Nat} {two : List Nat} : VlR sp__law_both [enc one, enc two] (.val (enc (one.filter fun t => decide (t ∈ two) : List Nat))) := fun dr Q xe q => by unfold sp__law_both; exact ⟨one, two, rfl, q⟩
theorem rt__law_both {C : PC} {n : Nat}  (one : List Nat) (two : List Nat)  : Rt C ir__law_both ⟨[.val (enc one), .val (enc two), .no], n⟩ n (.val (enc (one.filter fun t => decide (t ∈ two) : List Nat))) := by
  unfold ir__law_both
  walk_at "st"
  rfl
theorem wp__law_both (sp : Nat → Spec) (xe : Nat → Nat → Prop)  : ∀ ds dr Q, sp__law_both ds dr Q (fun _ _ => False) → wpF ⟨sp, xe⟩ nm__law_both.length ir__law_both ds dr Q := by
  intro ds dr Q h
  unfold sp__law_both at h
  obtain ⟨one, two, rfl, hq⟩ := h
  exact wpF_of (rt__law_both (C := ⟨sp, xe⟩)  one two ) hq
local macro_rules | `(tactic| walk_at "vl") => `(tactic| exact vl__law_both)
def leastN (rk mn : List Nat) : List Nat := mn.filter fun w => decide (rk.getD w 0 = minN (mn.map fun w => rk.getD w 0))
def nm__law_least : List Str := ["ranks", "menu", "least", "thing"]
def ir__law_least : IS :=
(.seq (.asg (.nm 2) (.blt .min (.acons (.comp [3] (.nm 3) (.itSeq (.bor 1)) (.cst (.bl true)) (.idx (.bor 0) (.bor 3))) .anil)))
  (.seq (.ret (.blt .tuple (.acons (.comp [3] (.nm 3) (.itSeq (.bor 1)) (.cmp .eq (.idx (.bor 0) (.bor 3)) (.bor 2)) (.var 3)) .anil)))
  .skip))
def fs__law_least : List (Nat × Str) := []
def cs__law_least : List (Str × D) := []
@[irreducible] def sp__law_least : Spec := fun ds dr Q _ => ∃ (ranks : List Nat) (menu : List Nat), ds = [enc ranks, enc menu] ∧ (menu ≠ [] ∧ (∀ w ∈ menu, w < ranks.length) ) ∧ Q (.val (enc (leastN ranks menu : List Nat))) dr
theorem vl__law_least {ranks : List Nat} {menu : List Nat} (hp : menu ≠ [] ∧ (∀ w ∈ menu, w < ranks.length) ) : VlR sp__law_least [enc ranks, enc menu] (.val (enc (leastN ranks menu : List Nat))) := fun dr Q xe q => by unfold sp__law_least; exact ⟨ranks, menu, rfl, hp, q⟩
theorem rt__law_least {C : PC} {n : Nat}  (ranks : List Nat) (menu : List Nat) (hp : menu ≠ [] ∧ (∀ w ∈ menu, w < ranks.length) ) : Rt C ir__law_least ⟨[.val (enc ranks), .val (enc menu), .no, .no], n⟩ n (.val (enc (leastN ranks menu : List Nat))) := by
  unfold ir__law_least
  walk_at "st"
  rfl
theorem wp__law_least (sp : Nat → Spec) (xe : Nat → Nat → Prop)  : ∀ ds dr Q, sp__law_least ds dr Q (fun _ _ => False) → wpF ⟨sp, xe⟩ nm__law_least.length ir__law_least ds dr Q := by
  intro ds dr Q h
  unfold sp__law_least at h
  obtain ⟨ranks, menu, rfl, hp, hq⟩ := h
  exact wpF_of (rt__law_least (C := ⟨sp, xe⟩)  ranks menu hp) hq
local macro_rules | `(tactic| walk_at "vl") => `(tactic| (refine' vl__law_least ?_; walk_at "side"))
/-- what none beats -/
def bestN (rel : List (Nat × Nat)) (mn : List Nat) : List Nat := mn.filter fun t => !mn.any fun o => decide ((o, t) ∈ rel)
def nm__law_best : List Str := ["relation", "menu", "thing", "other"]
def ir__law_best : IS :=
(.seq (.ret (.blt .tuple (.acons (.comp [2] (.nm 2) (.itSeq (.bor 1)) (.cmp .eq (.blt .len (.acons (.comp [3] (.nm 3) (.itSeq (.bor 1)) (.cmp .isin (.tup (.acons (.var 3) (.acons (.var 2) .anil))) (.bor 0)) (.var 3)) .anil)) (.cst (.int 0))) (.var 2)) .anil)))
  .skip)
def fs__law_best : List (Nat × Str) := []
def cs__law_best : List (Str × D) := []
@[irreducible] def sp__law_best : Spec := fun ds dr Q _ => ∃ (relation : List (Nat × Nat)) (menu : List Nat), ds = [enc relation, enc menu] ∧ Q (.val (enc (bestN relation menu : List Nat))) dr
theorem vl__law_best {relation : List (Nat × Nat)} {menu : List Nat} : VlR sp__law_best [enc relation, enc menu] (.val (enc (bestN relation menu : List Nat))) := fun dr Q xe q => by unfold sp__law_best; exact ⟨relation, menu, rfl, q⟩
theorem rt__law_best {C : PC} {n : Nat}  (relation : List (Nat × Nat)) (menu : List Nat)  : Rt C ir__law_best ⟨[.val (enc relation), .val (enc menu), .no, .no], n⟩ n (.val (enc (bestN relation menu : List Nat))) := by
  unfold ir__law_best
  walk_at "st"
  show RV.val (.tup _) = .val (.tup _)
  congr 2
  unfold bestN
  congr 1
  refine List.filter_congr fun t ht => ?_
  rw [Bool.eq_iff_iff, decide_eq_true_eq, List.length_eq_zero_iff, List.filter_eq_nil_iff, Bool.not_eq_true', Bool.eq_false_iff]
  simp
theorem wp__law_best (sp : Nat → Spec) (xe : Nat → Nat → Prop)  : ∀ ds dr Q, sp__law_best ds dr Q (fun _ _ => False) → wpF ⟨sp, xe⟩ nm__law_best.length ir__law_best ds dr Q := by
  intro ds dr Q h
  unfold sp__law_best at h
  obtain ⟨relation, menu, rfl, hq⟩ := h
  exact wpF_of (rt__law_best (C := ⟨sp, xe⟩)  relation menu ) hq
local macro_rules | `(tactic| walk_at "vl") => `(tactic| exact vl__law_best)
def nm__law_first : List Str := ["line", "menu", "thing"]
def ir__law_first : IS :=
(.seq (.ret (.idx (.comp [2] (.nm 2) (.itSeq (.bor 0)) (.cmp .isin (.bor 2) (.bor 1)) (.var 2)) (.cst (.int 0))))
  .skip)
def fs__law_first : List (Nat × Str) := []
def cs__law_first : List (Str × D) := []
@[irreducible] def sp__law_first : Spec := fun ds dr Q _ => ∃ (line : List Nat) (menu : List Nat), ds = [enc line, enc menu] ∧ (∃ t ∈ line, t ∈ menu ) ∧ Q (.val (enc ((line.filter fun t => decide (t ∈ menu)).headD 0 : Nat))) dr
theorem vl__law_first {line : List Nat} {menu : List Nat} (hp : ∃ t ∈ line, t ∈ menu ) : VlR sp__law_first [enc line, enc menu] (.val (enc ((line.filter fun t => decide (t ∈ menu)).headD 0 : Nat))) := fun dr Q xe q => by unfold sp__law_first; exact ⟨line, menu, rfl, hp, q⟩
theorem rt__law_first {C : PC} {n : Nat}  (line : List Nat) (menu : List Nat) (hp : ∃ t ∈ line, t ∈ menu ) : Rt C ir__law_first ⟨[.val (enc line), .val (enc menu), .no], n⟩ n (.val (enc ((line.filter fun t => decide (t ∈ menu)).headD 0 : Nat))) := by
  unfold ir__law_first
  walk_at "st"
  rfl
theorem wp__law_first (sp : Nat → Spec) (xe : Nat → Nat → Prop)  : ∀ ds dr Q, sp__law_first ds dr Q (fun _ _ => False) → wpF ⟨sp, xe⟩ nm__law_first.length ir__law_first ds dr Q := by
  intro ds dr Q h
  unfold sp__law_first at h
  obtain ⟨line, menu, rfl, hp, hq⟩ := h
  exact wpF_of (rt__law_first (C := ⟨sp, xe⟩)  line menu hp) hq
local macro_rules | `(tactic| walk_at "vl") => `(tactic| (refine' vl__law_first ?_; walk_at "side"))
/-- the ranks of things in order -/
def tidyA {α : Type} [En α] [DecidableEq α] [Dt α] [Od α] (xs : List α) : List Nat := xs.map fun x => ixo (ded [] (srt xs)) x
theorem ded_nil_mem {α : Type} [DecidableEq α] {xs : List α} {a : α} : a ∈ ded [] xs ↔ a ∈ xs := by rw [mem_ded]; simp
theorem ded_snocA {α : Type} [DecidableEq α] {a : α} : ∀ {xs ks : List α}, ded ks (xs ++ [a]) = if a ∈ ded ks xs then ded ks xs else ded ks xs ++ [a]
  | [], ks => rfl
  | b :: xs, ks => by
    rw [List.cons_append, ded, ded]
    exact ded_snocA
/-- a loop that lays down what is not there yet -/
theorem ded_take {α : Type} [DecidableEq α] {xs : List α} {i : Nat} {x : α} (h : xs[i]? = some x) : ded [] (xs.take (i + 1)) = if x ∈ ded [] (xs.take i) then ded [] (xs.take i) else ded [] (xs.take i) ++ [x] := by
  have e : xs.take (i + 1) = xs.take i ++ [x] := by rw [List.take_add_one, h]; rfl
  rw [e, ded_snocA]
theorem ded_take_len {α : Type} [DecidableEq α] (xs : List α) (i : Nat) : (ded [] (xs.take i)).length ≤ xs.length := by
  have l1 := @ded_len α _ (xs.take i) []
  have l2 : (xs.take i).length ≤ xs.length := by rw [List.length_take]; omega
  have : ([] : List α).length = 0 := rfl
  omega
theorem srt_len {α : Type} [En α] [DecidableEq α] [Dt α] [Od α] (xs : List α) : (srt xs).length = xs.length := (srt_perm xs).length_eq
def nm__law_tidy : List Str := ["numbers", "steps", "number"]
def ir__law_tidy : IS :=
(.seq (.asg (.nm 1) (.lst .anil))
  (.seq (.fr (.nm 2) (.itSeq (.blt .sorted (.acons (.bor 0) .anil)))
 (.seq (.ifs (.cmp .notin (.bor 2) (.bor 1))
 (.seq (.app 1 (.var 2))
  .skip)
 .skip)
  .skip))
  (.seq (.ret (.blt .tuple (.acons (.comp [2] (.nm 2) (.itSeq (.bor 0)) (.cst (.bl true)) (.mth .index (.bor 1) (.acons (.bor 2) .anil))) .anil)))
  .skip)))
def fs__law_tidy : List (Nat × Str) := []
def cs__law_tidy : List (Str × D) := []
@[irreducible] def sp__law_tidy : Spec := fun ds dr Q _ => ∃ (numbers : Ls Nat), ds = [enc numbers] ∧ (numbers.l.length ≤ 1000 ) ∧ Q (.val (enc (tidyA numbers.l : List Nat))) dr
theorem vl__law_tidy {numbers : Ls Nat} (hp : numbers.l.length ≤ 1000 ) : VlR sp__law_tidy [enc numbers] (.val (enc (tidyA numbers.l : List Nat))) := fun dr Q xe q => by unfold sp__law_tidy; exact ⟨numbers, rfl, hp, q⟩
theorem rt__law_tidy {C : PC} {n : Nat}  (numbers : Ls Nat) (hp : numbers.l.length ≤ 1000 ) : Rt C ir__law_tidy ⟨[.val (enc numbers), .no, .no], n⟩ n (.val (enc (tidyA numbers.l : List Nat))) := by
  unfold ir__law_tidy
  have sz := sizeLine_eq
  refine' rt_asg ?e0 sl_own ?b0
  case' e0 => walk_at "ev"
  refine' rt_for (xs := srt numbers.l) (f := enc) (fun i ρ => ∃ z, ρ = ⟨[.val (enc numbers), .own ((ded [] ((srt numbers.l).take i)).map enc), z], n⟩ ∧ z.plain = true) ?e1 ?h1 ?t1 ?r1
  case' e1 => walk_at "ei"
  case' h1 => exact ⟨_, rfl, rfl⟩
  case' t1 =>
    rintro i x ρ hx ⟨z, rfl, _⟩
    refine ⟨_, tg_nm, ?_⟩
    have e := ded_take hx
    have l := ded_take_len (srt numbers.l) i
    rw [srt_len] at l
    walk_at "bo"
    all_goals first
      | omega
      | (rename_i h
         have h : ¬ x ∈ ded [] ((srt numbers.l).take i) := by simpa using h
         rw [if_neg h] at e
         exact ⟨_, by rw [e, List.map_append]; rfl, rfl⟩)
      | (rename_i h
         have h : x ∈ ded [] ((srt numbers.l).take i) := by simpa using h
         rw [if_pos h] at e
         exact ⟨_, by rw [e]; rfl, rfl⟩)
  case' r1 =>
    rintro hz ρ ⟨z, rfl, hpz⟩
    rw [List.take_length]
    have hb : z = .no ∨ ∃ d, z = .val d := by cases z with
      | no => exact .inl rfl
      | val d => exact .inr ⟨d, rfl⟩
      | own _ => cases hpz
      | owd _ => cases hpz
    have hm : ∀ x ∈ numbers.l, x ∈ ded [] (srt numbers.l) := fun x hx => ded_nil_mem.mpr (mem_srt.mpr hx)
    rcases hb with rfl | ⟨d, rfl⟩
    all_goals
      walk_at "st"
      all_goals first | rfl | exact hm _ (by assumption)
theorem wp__law_tidy (sp : Nat → Spec) (xe : Nat → Nat → Prop)  : ∀ ds dr Q, sp__law_tidy ds dr Q (fun _ _ => False) → wpF ⟨sp, xe⟩ nm__law_tidy.length ir__law_tidy ds dr Q := by
  intro ds dr Q h
  unfold sp__law_tidy at h
  obtain ⟨numbers, rfl, hp, hq⟩ := h
  exact wpF_of (rt__law_tidy (C := ⟨sp, xe⟩)  numbers hp) hq
local macro_rules | `(tactic| walk_at "vl") => `(tactic| (refine' vl__law_tidy ?_; walk_at "side"))
/-- what is best in one of some lines -/
def picksN (lines : List (List Nat)) (mn : List Nat) : List Nat := srt (ded [] (lines.map fun l => (l.filter fun t => decide (t ∈ mn)).headD 0))
def nm__law_picks_of_lines : List Str := ["lines", "menu", "found", "line"]
def ir__law_picks_of_lines : IS :=
(.seq (.asg (.nm 2) (.lst .anil))
  (.seq (.fr (.nm 3) (.itSeq (.var 0))
 (.seq (.ifs (.cmp .notin (.call 59 (.acons (.var 3) (.acons (.var 1) .anil))) (.bor 2))
 (.seq (.app 2 (.call 59 (.acons (.var 3) (.acons (.var 1) .anil))))
  .skip)
 .skip)
  .skip))
  (.seq (.ret (.blt .tuple (.acons (.blt .sorted (.acons (.bor 2) .anil)) .anil)))
  .skip)))
def fs__law_picks_of_lines : List (Nat × Str) := [(59, "_law_first")]
def cs__law_picks_of_lines : List (Str × D) := []
@[irreducible] def sp__law_picks_of_lines : Spec := fun ds dr Q _ => ∃ (lines : Ls (List Nat)) (menu : List Nat), ds = [enc lines, enc menu] ∧ (lines.l.length ≤ 1000 ∧ ∀ l ∈ lines.l, ∃ t ∈ l, t ∈ menu ) ∧ Q (.val (enc (picksN lines.l menu : List Nat))) dr
theorem vl__law_picks_of_lines {lines : Ls (List Nat)} {menu : List Nat} (hp : lines.l.length ≤ 1000 ∧ ∀ l ∈ lines.l, ∃ t ∈ l, t ∈ menu ) : VlR sp__law_picks_of_lines [enc lines, enc menu] (.val (enc (picksN lines.l menu : List Nat))) := fun dr Q xe q => by unfold sp__law_picks_of_lines; exact ⟨lines, menu, rfl, hp, q⟩
theorem rt__law_picks_of_lines {C : PC} {n : Nat} (h__law_first : C.sp 59 = sp__law_first) (lines : Ls (List Nat)) (menu : List Nat) (hp : lines.l.length ≤ 1000 ∧ ∀ l ∈ lines.l, ∃ t ∈ l, t ∈ menu ) : Rt C ir__law_picks_of_lines ⟨[.val (enc lines), .val (enc menu), .no, .no], n⟩ n (.val (enc (picksN lines.l menu : List Nat))) := by
  unfold ir__law_picks_of_lines
  obtain ⟨h1, h2⟩ := hp
  have sz := sizeLine_eq
  refine' rt_asg ?e0 sl_own ?b0
  case' e0 => walk_at "ev"
  refine' rt_for (xs := lines.l) (f := enc) (fun i ρ => ∃ z, ρ = ⟨[.val (enc lines), .val (enc menu), .own ((ded [] (((lines.l.map fun l => (l.filter fun t => decide (t ∈ menu)).headD 0)).take i)).map enc), z], n⟩) ?e1 ?h1 ?t1 ?r1
  case' e1 => walk_at "ei"
  case' h1 => exact ⟨_, rfl⟩
  case' t1 =>
    rintro i x ρ hx ⟨z, rfl⟩
    refine ⟨_, tg_nm, ?_⟩
    have hx2 : ((lines.l.map fun l => (l.filter fun t => decide (t ∈ menu)).headD 0))[i]? = some ((x.filter fun t => decide (t ∈ menu)).headD 0) := by rw [List.getElem?_map, hx]; rfl
    have e := ded_take hx2
    have l := ded_take_len ((lines.l.map fun l => (l.filter fun t => decide (t ∈ menu)).headD 0)) i
    rw [List.length_map] at l
    have h3 := h2 x (List.mem_of_getElem? hx)
    walk_at "bo"
    all_goals first
      | exact h3
      | omega
      | (rename_i h
         have h : ¬ ((x.filter fun t => decide (t ∈ menu)).headD 0) ∈ ded [] (((lines.l.map fun l => (l.filter fun t => decide (t ∈ menu)).headD 0)).take i) := by simpa using h
         rw [if_neg h] at e
         exact ⟨_, by rw [e, List.map_append]; rfl⟩)
      | (rename_i h
         have h : ((x.filter fun t => decide (t ∈ menu)).headD 0) ∈ ded [] (((lines.l.map fun l => (l.filter fun t => decide (t ∈ menu)).headD 0)).take i) := by simpa using h
         rw [if_pos h] at e
         exact ⟨_, by rw [e]; rfl⟩)
  case' r1 =>
    rintro hz ρ ⟨z, rfl⟩
    have ht : ((lines.l.map fun l => (l.filter fun t => decide (t ∈ menu)).headD 0)).take lines.l.length = lines.l.map fun l => (l.filter fun t => decide (t ∈ menu)).headD 0 := by
      have := List.take_length (l := (lines.l.map fun l => (l.filter fun t => decide (t ∈ menu)).headD 0))
      rw [List.length_map] at this; exact this
    rw [ht]
    walk_at "st"
    rfl
theorem wp__law_picks_of_lines (sp : Nat → Spec) (xe : Nat → Nat → Prop) (h0 : sp 59 = sp__law_first) : ∀ ds dr Q, sp__law_picks_of_lines ds dr Q (fun _ _ => False) → wpF ⟨sp, xe⟩ nm__law_picks_of_lines.length ir__law_picks_of_lines ds dr Q := by
  intro ds dr Q h
  unfold sp__law_picks_of_lines at h
  obtain ⟨lines, menu, rfl, hp, hq⟩ := h
  exact wpF_of (rt__law_picks_of_lines (C := ⟨sp, xe⟩) h0 lines menu hp) hq
local macro_rules | `(tactic| walk_at "vl") => `(tactic| (refine' vl__law_picks_of_lines ?_; walk_at "side"))

end PL
/-! KD -/
namespace PL
open PySem PySem.Spec PyProof.Rows L2
open En
local macro_rules | `(tactic| walk_at "side") => `(tactic| first
  | assumption | trivial | decide | omega
  | (simp only [List.length_map, List.length_range, List.length_append, List.length_cons, List.length_nil, List.length_singleton, sizeLine_eq] at *; omega)
  | (simp_all; done) | skip)
local macro_rules | `(tactic| walk_at "vl") => `(tactic| skip)
local macro_rules | `(tactic| walk_at "kp") => `(tactic| first | exact kp_val | exact kp_own | exact kp_owd)
local macro_rules | `(tactic| walk_at "as") => `(tactic| first
  | exact as_enc | exact as_N | exact as_I | exact as_B | exact as_S | exact as_T | exact as_L
  | (refine' as_T1 ?h; (case' h => walk_at "as")) | (refine' as_P ?h ?i; (case' h => walk_at "as"); (case' i => walk_at "as")) | (refine' as_ite ?h ?i; (case' h => walk_at "as"); (case' i => walk_at "as")) | exact as_D | skip)
local macro_rules | `(tactic| walk_at "op") => `(tactic| first
  | exact cmp_eqN0 | exact cmp_ltN0 | exact cmp_leN0 | exact cmp_gtN0 | exact cmp_geN0 | exact cmp_neN0 | exact cmp_eqN1 | exact cmp_ltN1 | exact cmp_leN1 | exact cmp_gtN1 | exact cmp_geN1 | exact cmp_neN1 | exact cmp_eqN2 | exact cmp_ltN2 | exact cmp_leN2 | exact cmp_gtN2 | exact cmp_geN2 | exact cmp_neN2 | exact cmp_eqN3 | exact cmp_ltN3 | exact cmp_leN3 | exact cmp_gtN3 | exact cmp_geN3 | exact cmp_neN3 | exact cmp_eqN4 | exact cmp_ltN4 | exact cmp_leN4 | exact cmp_gtN4 | exact cmp_geN4 | exact cmp_neN4 | exact cmp_eqN5 | exact cmp_ltN5 | exact cmp_leN5 | exact cmp_gtN5 | exact cmp_geN5 | exact cmp_neN5 | exact bin_addN1 | exact bin_add1N
  | exact cmp_eqN | exact cmp_neN | exact cmp_ltN | exact cmp_leN | exact cmp_gtN | exact cmp_geN | exact bin_addN
  | exact cmp_eqI | exact cmp_eqS | exact cmp_eqB | exact cmp_eqT | exact cmp_eqT1 | exact cmp_eqT0 | exact cmp_eqL | exact cmp_eqE
  | exact cmp_neI | exact cmp_neS | exact cmp_neB | exact cmp_neT | exact cmp_neL | exact cmp_neE
  | exact cmp_lt | exact cmp_le | exact cmp_gt | exact cmp_ge | exact cmp_ltT
  | exact cmp_inT | exact cmp_ninT | exact cmp_inL | exact cmp_ninL | exact cmp_inTp | exact cmp_ninTp | exact cmp_inLp | exact cmp_ninLp | exact cmp_inD | exact cmp_ninD | exact cmp_inN | exact cmp_ninN
  | exact cmp_isN | exact cmp_isnN | exact cmp_isB | exact cmp_isnB
  | exact bin_add | exact bin_sub | (refine' bin_mul ?_; walk_at "side") | (refine' bin_fdiv ?_; walk_at "side") | (refine' bin_mod ?_; walk_at "side")
  | (refine' bin_addT ?_; walk_at "side") | (refine' bin_addT1 ?_; walk_at "side") | (refine' bin_addL0 ?_; walk_at "side") | (refine' bin_addL ?_; walk_at "side") | (refine' bin_addL1 ?_; walk_at "side") | (refine' bin_repL ?_; walk_at "side")
  | (refine' idx_0T ?_; walk_at "side") | (refine' idx_0L ?_; walk_at "side") | (refine' idx_T ?_; walk_at "side") | (refine' idx_L ?_; walk_at "side") | (refine' idx_D ?h; (case' h => first | assumption | skip)) | (refine' idx_0T ?_; walk_at "side") | (refine' idx_0L ?_; walk_at "side") | (refine' idx_lastL ?_; walk_at "side") | (refine' idx_lastT ?_; walk_at "side")
  | (refine' idx_IT ?_; walk_at "side") | (refine' idx_IL ?_; walk_at "side")
  | exact slc_T | exact slc_L | exact rev_T | exact rev_L
  | exact tru_B | exact tru_I | exact tru_N | exact tru_T | exact tru_L
  | exact blt_lenT | exact blt_lenL | exact blt_lenD | exact blt_lenTr | exact blt_lenLr | exact blt_intI | exact blt_intB | exact blt_tupL | exact blt_tupT | (refine' blt_tupR ?_; walk_at "side")
  | exact blt_lstL | exact blt_lstT | exact blt_lstD | (refine' blt_lstR ?_; walk_at "side") | (refine' blt_rngN ?_; walk_at "side") | (refine' blt_rng1 ?_; walk_at "side")
  | exact blt_srtL | exact blt_srtT | exact blt_srtD | exact blt_srtP
  | (refine' blt_minLN ?_; walk_at "side") | (refine' blt_maxLN ?_; walk_at "side") | (refine' blt_minTN ?_; walk_at "side") | (refine' blt_maxTN ?_; walk_at "side")
  | (refine' blt_minL ?_; walk_at "side") | (refine' blt_maxL ?_; walk_at "side") | (refine' blt_minT ?_; walk_at "side") | (refine' blt_maxT ?_; walk_at "side")
  | exact blt_sumLN | exact blt_sumL | exact blt_any | exact blt_all | exact blt_abs | exact blt_min2 | exact blt_max2
  | (refine' mth_ixT ?_; walk_at "side") | (refine' mth_ixL ?_; walk_at "side")
  | exact itm_tup | exact itm_lst | exact itm_dct | (refine' itm_rng ?_; walk_at "side")
  | exact sq_tup | exact sq_lst
  | skip)
local macro_rules | `(tactic| walk_at "tg") => `(tactic| first | exact fun _ => tg_nm | exact fun _ => tg_tp2 | exact fun _ => tg_tp3 | exact fun _ => tg_tp1 | skip)
local macro_rules | `(tactic| walk_at "ek") => `(tactic| first
  | (refine' evk_gen ?e ?k; (case' e => walk_at "ev"); (case' k => first | exact kpa_own | (refine' kpa_val ?h; (case' h => walk_at "as"))))
  | skip)
local macro_rules | `(tactic| walk_at "ea") => `(tactic| first
  | exact eva_nil
  | (refine' eva_T ?e ?d ?r; (case' e => walk_at "ev"); (case' d => first | rfl | skip); (case' r => walk_at "ea"))
  | (refine' eva_F ?e ?d ?r; (case' e => walk_at "ev"); (case' d => first | walk_at "kp" | skip); (case' r => walk_at "ea"))
  | skip)
local macro_rules | `(tactic| walk_at "ei") => `(tactic| first
  | (refine' evi_r1 ?e ?h ?z; (case' e => walk_at "ev"); (case' h => first | rfl | skip); (case' z => walk_at "side"))
  | (refine' evi_r21 ?e ?e2 ?h ?h2 ?z; (case' e => walk_at "ev"); (case' e2 => walk_at "ev"); (case' h => rfl); (case' h2 => rfl); (case' z => walk_at "side"))
  | (refine' evi_r2 ?e ?e2 ?h ?h2 ?z ?z2; (case' e => walk_at "ev"); (case' e2 => walk_at "ev"); (case' h => first | rfl | skip); (case' h2 => first | rfl | skip); (case' z => walk_at "side"); (case' z2 => walk_at "side"))
  | (refine' evi_T ?e ?h; (case' e => walk_at "ev"); (case' h => walk_at "op"))
  | (refine' evi_F ?e ?k ?h; (case' e => walk_at "ev"); (case' k => first | walk_at "kp" | skip); (case' h => walk_at "op"))
  | (refine' evi_zipT ?e ?e2 ?h ?h2; (case' e => walk_at "ev"); (case' e2 => walk_at "ev"); (case' h => walk_at "op"); (case' h2 => walk_at "op"))
  | (refine' evi_zipF ?e ?k ?e2 ?k2 ?h ?h2; (case' e => walk_at "ev"); (case' k => walk_at "kp"); (case' e2 => walk_at "ev"); (case' k2 => walk_at "kp"); (case' h => walk_at "op"); (case' h2 => walk_at "op"))
  | (refine' evi_zip3T ?e ?e2 ?e3 ?h ?h2 ?h3; (case' e => walk_at "ev"); (case' e2 => walk_at "ev"); (case' e3 => walk_at "ev"); (case' h => walk_at "op"); (case' h2 => walk_at "op"); (case' h3 => walk_at "op"))
  | (refine' evi_enumT ?e ?h; (case' e => walk_at "ev"); (case' h => walk_at "op"))
  | (refine' evi_itemsT ?e ?h; (case' e => walk_at "ev"); (case' h => first | rfl | skip))
  | (refine' evi_itemsF ?e ?k ?h; (case' e => walk_at "ev"); (case' k => walk_at "kp"); (case' h => first | rfl | skip))
  | skip)
local macro_rules | `(tactic| walk_at "ev") => `(tactic| first
  | exact ev_cst
  | exact ev_bor rfl | exact ev_borO rfl | exact ev_borD rfl
  | exact ev_var rfl | exact ev_varO rfl | exact ev_varD rfl
  | (refine' ev_bin ?a ?b ?o; (case' a => walk_at "ev"); (case' b => walk_at "ev"); (case' o => walk_at "op"))
  | (refine' ev_cmp ?a ?b ?o; (case' a => walk_at "ev"); (case' b => walk_at "ev"); (case' o => walk_at "op"))
  | (refine' ev_cmp2 ?a ?b ?o ?c ?o2; (case' a => walk_at "ev"); (case' b => walk_at "ev"); (case' o => walk_at "op"); (case' c => walk_at "ev"); (case' o2 => walk_at "op"))
  | (refine' ev_tst ?a ?o; (case' a => walk_at "ev"); (case' o => walk_at "op"))
  | (refine' ev_and ?a ?b; (case' a => walk_at "ev"); (case' b => (intro _; walk_at "ev")))
  | (refine' ev_or ?a ?b; (case' a => walk_at "ev"); (case' b => (intro _; walk_at "ev")))
  | (refine' ev_not ?a; (case' a => walk_at "ev"))
  | (refine' ev_ite ?a ?b ?c; (case' a => walk_at "ev"); (case' b => (intro _; walk_at "ev")); (case' c => (intro _; walk_at "ev")))
  | (refine' ev_idx ?a ?b ?o; (case' a => walk_at "ev"); (case' b => walk_at "ev"); (case' o => walk_at "op"))
  | (refine' ev_blt ?a ?o; (case' a => walk_at "ea"); (case' o => walk_at "op"))
  | (refine' ev_call ?h ?a ?o; (case' h => first | assumption | skip); (case' a => walk_at "ea"); (case' o => walk_at "vl"))
  | (refine' ev_tup ?a ?z; (case' a => walk_at "ea"); (case' z => walk_at "side"))
  | (refine' ev_lst ?a ?z; (case' a => walk_at "ea"); (case' z => walk_at "side"))
  | exact ev_dnew
  | (refine' ev_neg ?a ?o; (case' a => walk_at "ev"); (case' o => first | rfl | skip))
  | (refine' ev_mth ?a ?b ?o; (case' a => walk_at "ev"); (case' b => walk_at "ea"); (case' o => walk_at "op"))
  | (refine' ev_slc0 ?a ?o; (case' a => walk_at "ev"); (case' o => walk_at "op"))
  | (refine' ev_slcF rfl ?a ?b ?h ?o; (case' a => walk_at "ev"); (case' b => walk_at "ev"); (case' h => first | rfl | skip); (case' o => walk_at "op"))
  | (refine' ev_slcT rfl ?a ?b ?h ?o; (case' a => walk_at "ev"); (case' b => walk_at "ev"); (case' h => first | rfl | skip); (case' o => walk_at "op"))
  | (refine' ev_slc2 rfl rfl ?a ?b ?h ?c ?i ?o; (case' a => walk_at "ev"); (case' b => walk_at "ev"); (case' h => first | rfl | skip); (case' c => walk_at "ev"); (case' i => first | rfl | skip); (case' o => walk_at "op"))
  | (refine' ev_rev ?a ?o; (case' a => walk_at "ev"); (case' o => walk_at "op"))
  | (refine' ev_isi ?a ?t ?b; (case' a => walk_at "ev"); (case' t => first | rfl | skip); (case' b => first | rfl | skip))
  | (refine' ev_compI rfl ?hi ?ht ?he ?hw ?hb ?hc; (case' hi => walk_at "ei"); (case' ht => exact fun _ => tg_nm); (case' he => exact fun _ => rfl); (case' hw => exact fun _ => rfl); (case' hb => rfl); (case' hc => (intro _ _; walk_at "ev")))
  | (refine' ev_compA rfl ?hi ?ht ?hw ?hb ?he; (case' hi => walk_at "ei"); (case' ht => walk_at "tg"); (case' hw => exact fun _ => rfl); (case' hb => rfl); (case' he => (intro _ _; walk_at "ek")))
  | (refine' ev_compAG rfl ?hi ?ht ?hw ?hb ?he; (case' hi => walk_at "ei"); (case' ht => walk_at "tg"); (case' hw => exact fun _ => rfl); (case' hb => rfl); (case' he => (intro _ _; walk_at "ek")))
  | (refine' ev_comp rfl ?hi ?ht ?hw ?hb ?hc ?he; (case' hi => walk_at "ei"); (case' ht => walk_at "tg"); (case' hw => exact fun _ => rfl); (case' hb => rfl); (case' hc => (intro _ _; walk_at "ev")); (case' he => (intro _ _ _; walk_at "ek")))
  | (refine' ev_compG rfl ?hi ?ht ?hw ?hb ?hc ?he; (case' hi => walk_at "ei"); (case' ht => walk_at "tg"); (case' hw => exact fun _ => rfl); (case' hb => rfl); (case' hc => (intro _ _; walk_at "ev")); (case' he => (intro _ _ _; walk_at "ek")))
  | (refine' ev_dcompA ?i1 ?i2 ?i3 rfl ?hi ?ht ?hw ?hb ?he ?hv ?hd; (case' hi => walk_at "ei"); (case' ht => walk_at "tg"); (case' hw => exact fun _ => rfl); (case' hb => rfl); (case' he => (intro _ _; walk_at "ek")); (case' hv => (intro _ _; walk_at "ek")); (case' i1 => infer_instance); (case' i2 => infer_instance); (case' i3 => infer_instance); (case' hd => decide))
  | skip)
local macro_rules | `(tactic| walk_at "st") => `(tactic| first
  | (refine' rt_seqR (rt_ret ?e ?d ?q); (case' e => walk_at "ev"); (case' d => rfl))
  | (refine' rt_ret ?e ?d ?q; (case' e => walk_at "ev"); (case' d => rfl))
  | (refine' rt_asg ?e ?s ?b; (case' e => walk_at "ev"); (case' s => first | exact sl_val | exact sl_own | exact sl_owd | skip); (case' b => walk_at "st"))
  | (refine' rt_asgT ?e ?s ?t ?b; (case' e => walk_at "ev"); (case' s => walk_at "kp"); (case' t => first | exact tg_tp2 | exact tg_tp3 | exact tg_tp4 | skip); (case' b => walk_at "st"))
  | (refine' rt_ifs ?e ?a ?b; (case' e => walk_at "ev"); (case' a => (intro _; walk_at "st")); (case' b => (intro _; walk_at "st")))
  | (refine' rt_app rfl ?e ?x ?z ?b; (case' e => walk_at "ek"); (case' x => rfl); (case' z => walk_at "side"); (case' b => walk_at "st"))
  | (refine' rt_asgL ?e ?p ?k ?j ?x ?l ?b; (case' e => walk_at "ek"); (case' p => rfl); (case' k => walk_at "ev"); (case' j => first | rfl | skip); (case' x => rfl); (case' l => walk_at "side"); (case' b => walk_at "st"))
  | (refine' rt_aug rfl ?e ?y ?b; (case' e => walk_at "ev"); (case' y => first | rfl | skip); (case' b => walk_at "st"))
  | (refine' rt_assoc ?_; walk_at "st")
  | (refine' rt_skip ?_; walk_at "st")
  | skip)
local macro_rules | `(tactic| walk_at "bo") => `(tactic| first
  | (refine' bo_asg ?e ?s ?b; (case' e => walk_at "ev"); (case' s => first | exact sl_val | exact sl_own | exact sl_owd | skip); (case' b => walk_at "bo"))
  | (refine' bo_asgT ?e ?s ?t ?b; (case' e => walk_at "ev"); (case' s => walk_at "kp"); (case' t => first | exact tg_tp2 | exact tg_tp3 | exact tg_tp4 | skip); (case' b => walk_at "bo"))
  | (refine' bo_app rfl ?e ?x ?z ?b; (case' e => walk_at "ek"); (case' x => rfl); (case' z => walk_at "side"); (case' b => walk_at "bo"))
  | (refine' bo_asgL ?e ?p ?k ?j ?x ?l ?b; (case' e => walk_at "ek"); (case' p => rfl); (case' k => walk_at "ev"); (case' j => first | rfl | skip); (case' x => rfl); (case' l => walk_at "side"); (case' b => walk_at "bo"))
  | (refine' bo_aug rfl ?e ?y ?b; (case' e => walk_at "ev"); (case' y => first | rfl | skip); (case' b => walk_at "bo"))
  | (refine' bo_ret ?e ?d; (case' e => walk_at "ev"); (case' d => rfl))
  | (refine' bo_ifs' ?e ?a ?b; (case' e => walk_at "ev"); (case' a => (intro _; walk_at "bo")); (case' b => (intro _; walk_at "bo")))
  | (refine' bo_assoc ?_; walk_at "bo")
  | (refine' bo_sk ?_; walk_at "bo")
  | refine' bo_skip ?_ | refine' bo_seqC ?_ | refine' bo_cnt ?_
  | skip)
local macro_rules | `(tactic| walk_at "bof") => `(tactic| first
  | (refine' bo_asg ?e ?s ?b; (case' e => walk_at "ev"); (case' s => first | exact sl_val | exact sl_own | exact sl_owd | skip); (case' b => walk_at "bof"))
  | (refine' bo_asgT ?e ?s ?t ?b; (case' e => walk_at "ev"); (case' s => walk_at "kp"); (case' t => first | exact tg_tp2 | exact tg_tp3 | exact tg_tp4 | skip); (case' b => walk_at "bof"))
  | (refine' bo_ret ?e ?d; (case' e => walk_at "ev"); (case' d => rfl))
  | (refine' bo_ifs ?e ?a ?b; (case' e => walk_at "ev"); (case' a => (intro _; walk_at "bof")); (case' b => (intro _; walk_at "bof")))
  | (refine' bo_assoc ?_; walk_at "bof")
  | (refine' bo_sk ?_; walk_at "bof")
  | refine' bo_skip ?_ | refine' bo_seqC ?_ | refine' bo_cnt ?_
  | skip)
local macro_rules | `(tactic| walk_at "vl") => `(tactic| (refine' vl_is_integer ?_; walk_at "side"))
local macro_rules | `(tactic| walk_at "vl") => `(tactic| (refine' vl_is_number ?_; walk_at "side"))
local macro_rules | `(tactic| walk_at "vl") => `(tactic| (refine' vl_is_tuple ?_; walk_at "side"))
local macro_rules | `(tactic| walk_at "vl") => `(tactic| (refine' vl_is_tagged ?_; walk_at "side"))
local macro_rules | `(tactic| walk_at "vl") => `(tactic| (refine' vl_is_between ?_; walk_at "side"))
local macro_rules | `(tactic| walk_at "vl") => `(tactic| (refine' vl_are_integers ?_; walk_at "side"))
local macro_rules | `(tactic| walk_at "vl") => `(tactic| (refine' vl_is_ascending ?_; walk_at "side"))
local macro_rules | `(tactic| walk_at "vl") => `(tactic| (refine' vl_are_numbers ?_; walk_at "side"))
local macro_rules | `(tactic| walk_at "vl") => `(tactic| (refine' vl_is_menu ?_; walk_at "side"))
local macro_rules | `(tactic| walk_at "vl") => `(tactic| (refine' vl_subsets_of ?_; walk_at "side"))
local macro_rules | `(tactic| walk_at "vl") => `(tactic| (refine' vl_menus ?_; walk_at "side"))
local macro_rules | `(tactic| walk_at "vl") => `(tactic| (refine' vl_things_of ?_; walk_at "side"))
local macro_rules | `(tactic| walk_at "vl") => `(tactic| (refine' vl_by_menus ?_; walk_at "side"))
local macro_rules | `(tactic| walk_at "vl") => `(tactic| (refine' vl_picks ?_; walk_at "side"))
local macro_rules | `(tactic| walk_at "vl") => `(tactic| (refine' vl__law_kind ?_; walk_at "side"))
local macro_rules | `(tactic| walk_at "vl") => `(tactic| exact vl__law_is)
local macro_rules | `(tactic| walk_at "vl") => `(tactic| (refine' vl__law_int ?_; walk_at "side"))
local macro_rules | `(tactic| walk_at "vl") => `(tactic| (refine' vl__law_ints ?_; walk_at "side"))
local macro_rules | `(tactic| walk_at "vl") => `(tactic| (refine' vl__law_up ?_; walk_at "side"))
local macro_rules | `(tactic| walk_at "vl") => `(tactic| (refine' vl__law_set ?_; walk_at "side"))
local macro_rules | `(tactic| walk_at "vl") => `(tactic| (refine' vl__law_menus ?_; walk_at "side"))
local macro_rules | `(tactic| walk_at "vl") => `(tactic| exact vl__law_in)
local macro_rules | `(tactic| walk_at "vl") => `(tactic| exact vl__law_both)
local macro_rules | `(tactic| walk_at "vl") => `(tactic| (refine' vl__law_least ?_; walk_at "side"))
local macro_rules | `(tactic| walk_at "vl") => `(tactic| exact vl__law_best)
local macro_rules | `(tactic| walk_at "vl") => `(tactic| (refine' vl__law_first ?_; walk_at "side"))
local macro_rules | `(tactic| walk_at "vl") => `(tactic| (refine' vl__law_tidy ?_; walk_at "side"))
local macro_rules | `(tactic| walk_at "vl") => `(tactic| (refine' vl__law_picks_of_lines ?_; walk_at "side"))
/-! what the laws draw -/
theorem big40 : (2 : Nat) ^ 40 = 1099511627776 := by decide
theorem erase_perm {α : Type} : ∀ (xs : List α) (v : Nat) (h : v < xs.length), xs.Perm (xs[v] :: xs.eraseIdx v)
  | x :: xs, 0, _ => List.Perm.refl _
  | x :: xs, v + 1, h => by
    have := erase_perm xs v (by simpa using h)
    exact (List.Perm.cons x this).trans (List.Perm.swap ..)
/-- a line of n things -/
def IsLine (n : Nat) (l : List Nat) : Prop := l.Perm (List.range n)
@[irreducible] def sp__law_line : Spec := fun ds dr Q _ => ∃ n : Nat, ds = [.pool, enc n] ∧ n ≤ 100 ∧ dr + n < 2 ^ 40 ∧ ∀ (l : List Nat) (dr' : Nat), IsLine n l → dr' ≤ dr + n → Q (.val (enc l)) dr'
def nm__law_line : List Str := ["pool", "n", "left", "line", "k"]
def ir__law_line : IS :=
(.seq (.asg (.nm 2) (.blt .list (.acons (.blt .range (.acons (.bor 1) .anil)) .anil)))
  (.seq (.asg (.nm 3) (.tup .anil))
  (.seq (.fr (.nm 4) (.itR1 (.bor 1))
 (.seq (.popT 3 2 (.call 50 (.acons (.var 0) (.acons (.blt .len (.acons (.bor 2) .anil)) .anil))))
  .skip))
  (.seq (.ret (.var 3))
  .skip))))
def fs__law_line : List (Nat × Str) := [(50, "_law_draw")]
def cs__law_line : List (Str × D) := []
theorem wp__law_line (sp : Nat → Spec) (xe : Nat → Nat → Prop) (h_draw : sp 50 = sp_draw) : ∀ ds dr Q, sp__law_line ds dr Q (fun _ _ => False) → wpF ⟨sp, xe⟩ nm__law_line.length ir__law_line ds dr Q := by
  intro ds dr Q h
  unfold sp__law_line at h
  obtain ⟨C, hC⟩ : ∃ C : PC, C = ⟨sp, xe⟩ := ⟨_, rfl⟩
  rw [← hC]
  have h_draw : C.sp 50 = sp_draw := by rw [hC]; exact h_draw
  obtain ⟨n, rfl, hn, hdr, hq⟩ := h
  have sz := sizeLine_eq
  show wpS C ir__law_line ⟨[.val .pool, .val (enc n), .no, .no, .no], dr⟩ ⟨fun ρ => Q (.val .non) ρ.dr, Q, fun _ => False, fun _ => False⟩
  unfold ir__law_line
  refine' hs_asg (r := .own ((List.range n).map enc)) ?e0 sl_own ?b0
  case' e0 => walk_at "ev"
  refine' hs_asg ?e1 sl_val ?b1
  case' e1 => exact ev_tup eva_nil (by decide)
  refine' hs_for (xs := List.range n) (f := enc) (fun i ρ => ∃ (left line : List Nat) (z : SV) (m : Nat), ρ = ⟨[.val .pool, .val (enc n), .own (left.map enc), .val (.tup (line.map enc)), z], m⟩ ∧ m ≤ dr + i ∧ (line ++ left).Perm (List.range n) ∧ line.length = i) ?e2 ?h2 ?t2 ?r2
  case' e2 => walk_at "ei"
  case' h2 => exact ⟨List.range n, [], .no, dr, rfl, Nat.le_refl _, List.Perm.refl _, rfl⟩
  case' t2 =>
    rintro i x ρ hx ⟨left, line, z, m, rfl, hm, hp, hl⟩
    have hi : i < n := by have := (List.getElem?_eq_some_iff.mp hx).1; simpa using this
    have hlen : line.length + left.length = n := by have := hp.length_eq; rw [List.length_append, List.length_range] at this; exact this
    refine ⟨_, tg_nm, fun Nx hN => ?_⟩
    refine ⟨line.map enc, rfl, rfl, ?_⟩
    refine wp_draw (m := left.length) (by assumption) (ρ1 := ⟨[.val .pool, .val (enc n), .own (left.map enc), .val (.tup (line.map enc)), .val (enc x)], m⟩) ?ea (by omega) (by show m < _; omega) fun v hv => ?_
    case' ea =>
      refine eva_F (ev_var rfl) kp_val (eva_F (r := .val (.int (left.length : Nat))) ?_ kp_val eva_nil)
      refine ev_blt (eva_T (ev_borO rfl) rfl eva_nil) blt_lenL
    have hg : (left.map (enc : Nat → D))[v]? = some (enc left[v]) := by rw [List.getElem?_map, List.getElem?_eq_getElem hv]; rfl
    refine ⟨left.map enc, v, v, enc left[v], rfl, rfl, ⟨by omega, by omega⟩, by unfold ixN; simp; omega, hg, by rw [List.length_map]; omega, hN _ ?_⟩
    refine ⟨left.eraseIdx v, line ++ [left[v]], .val (enc x), m + 1, ?_, by omega, ?_, by rw [List.length_append, hl]; rfl⟩
    · show (⟨[_, _, .own ((left.map enc).eraseIdx v), .val (.tup (line.map enc ++ [enc left[v]])), _], _⟩ : PEnv) = _
      rw [erase_mapD, List.map_append]; rfl
    · have h1 : left.Perm (left[v] :: left.eraseIdx v) := erase_perm left v hv
      have h2 : (line ++ [left[v]] ++ left.eraseIdx v).Perm (line ++ left) := by
        rw [List.append_assoc]; exact List.Perm.append_left _ h1.symm
      exact h2.trans hp
  case' r2 =>
    rintro ρ ⟨left, line, z, m, rfl, hm, hp, hl⟩
    rw [List.length_range] at hm hl
    have hlen : line.length + left.length = n := by have := hp.length_eq; rw [List.length_append, List.length_range] at this; exact this
    have : left = [] := List.length_eq_zero_iff.mp (by omega)
    subst this
    rw [List.append_nil] at hp
    refine hs_ret (ev_var rfl) (hq line m hp hm)
/-- ranks: n numbers below n, without gaps -/
def IsRanks (n : Nat) (rk : List Nat) : Prop := rk.length = n ∧ ∃ xs : List Nat, rk = tidyA xs
@[irreducible] def sp__law_ranks : Spec := fun ds dr Q _ => ∃ n : Nat, ds = [.pool, enc n] ∧ 0 < n ∧ n ≤ 1000 ∧ dr + n < 2 ^ 40 ∧ ∀ (rk : List Nat) (dr' : Nat), IsRanks n rk → dr' ≤ dr + n → Q (.val (enc rk)) dr'
def nm__law_ranks : List Str := ["pool", "n", "k"]
def ir__law_ranks : IS :=
(.seq (.ret (.call 207 (.acons (.comp [2] (.nm 2) (.itR1 (.bor 1)) (.cst (.bl true)) (.call 50 (.acons (.var 0) (.acons (.var 1) .anil)))) .anil)))
  .skip)
def fs__law_ranks : List (Nat × Str) := [(207, "_law_tidy"), (50, "_law_draw")]
def cs__law_ranks : List (Str × D) := []
theorem wp__law_ranks (sp : Nat → Spec) (xe : Nat → Nat → Prop) (h__law_tidy : sp 207 = sp__law_tidy) (h_draw : sp 50 = sp_draw) : ∀ ds dr Q, sp__law_ranks ds dr Q (fun _ _ => False) → wpF ⟨sp, xe⟩ nm__law_ranks.length ir__law_ranks ds dr Q := by
  intro ds dr Q h
  unfold sp__law_ranks at h
  obtain ⟨C, hC⟩ : ∃ C : PC, C = ⟨sp, xe⟩ := ⟨_, rfl⟩
  rw [← hC]
  have h__law_tidy : C.sp 207 = sp__law_tidy := by rw [hC]; exact h__law_tidy
  have h_draw : C.sp 50 = sp_draw := by rw [hC]; exact h_draw
  obtain ⟨n, rfl, hn, hz, hdr, hq⟩ := h
  show wpS C ir__law_ranks ⟨[.val .pool, .val (enc n), .no], dr⟩ ⟨fun ρ => Q (.val .non) ρ.dr, Q, fun _ => False, fun _ => False⟩
  unfold ir__law_ranks
  refine hs_retW (wp_callA (wp_aF ?_))
  refine wp_compD (xs := List.range n) (f := enc) (c := 1) (sl := [.val .pool, .val (enc n), .no]) (dr := dr) (T := fun x m => ⟨[.val .pool, .val (enc n), .val (enc x)], m⟩) (fun _ (_ : Nat) => True) rfl ?ei rfl (fun _ => rfl) (fun _ _ => tg_nm) (fun x hx m hm Q' q' => ?_) (fun ys m hE hm => ?_)
  case' ei => walk_at "ei"
  · rw [List.length_range] at hm
    refine wp_draw (m := n) (by assumption) (ρ1 := ⟨[.val .pool, .val (enc n), .val (enc x)], m⟩) (eva_F (ev_var rfl) kp_val (eva_F (ev_var rfl) kp_val eva_nil)) hn (by show m < _; omega) fun v hv => ?_
    exact q' v _ _ kp_val trivial ⟨m + 1, Nat.le_refl _, rfl⟩
  · rw [List.length_range] at hm
    have hl : ys.length = n := by have := hE.1; rw [List.length_range] at this; exact this
    refine kp_own _ (wp_a0 ?_)
    rw [h__law_tidy]
    refine vl__law_tidy (numbers := ⟨ys⟩) (by show ys.length ≤ 1000; omega) _ _ _ ?_
    exact hq _ _ ⟨by unfold tidyA; rw [List.length_map]; exact hl, ys, rfl⟩ (by show m ≤ _; omega)
@[irreducible] def sp__law_random_picks : Spec := fun ds dr Q _ => ∃ ms : List Nat, ds = [.pool, enc ms] ∧ ms ≠ [] ∧ ms.length ≤ 1000 ∧ dr + ms.length + 1 < 2 ^ 40 ∧ ∀ (rs : List Nat) (dr' : Nat), rs ≠ [] → rs.Sublist ms → dr' ≤ dr + ms.length + 1 → Q (.val (enc rs)) dr'
def nm__law_random_picks : List Str := ["pool", "menu", "found", "thing"]
def ir__law_random_picks : IS :=
(.seq (.asg (.nm 2) (.blt .tuple (.acons (.comp [3] (.nm 3) (.itSeq (.bor 1)) (.cmp .eq (.call 50 (.acons (.var 0) (.acons (.cst (.int 2)) .anil))) (.cst (.int 0))) (.var 3)) .anil)))
  (.seq (.ifs (.cmp .eq (.blt .len (.acons (.bor 2) .anil)) (.cst (.int 0)))
 (.seq (.asg (.nm 2) (.tup (.acons (.idx (.bor 1) (.call 50 (.acons (.var 0) (.acons (.blt .len (.acons (.bor 1) .anil)) .anil)))) .anil)))
  .skip)
 .skip)
  (.seq (.ret (.var 2))
  .skip)))
def fs__law_random_picks : List (Nat × Str) := [(50, "_law_draw")]
def cs__law_random_picks : List (Str × D) := []
theorem wp__law_random_picks (sp : Nat → Spec) (xe : Nat → Nat → Prop) (h_draw : sp 50 = sp_draw) : ∀ ds dr Q, sp__law_random_picks ds dr Q (fun _ _ => False) → wpF ⟨sp, xe⟩ nm__law_random_picks.length ir__law_random_picks ds dr Q := by
  intro ds dr Q h
  unfold sp__law_random_picks at h
  obtain ⟨C, hC⟩ : ∃ C : PC, C = ⟨sp, xe⟩ := ⟨_, rfl⟩
  rw [← hC]
  have h_draw : C.sp 50 = sp_draw := by rw [hC]; exact h_draw
  obtain ⟨ms, rfl, hne, hz, hdr, hq⟩ := h
  show wpS C ir__law_random_picks ⟨[.val .pool, .val (enc ms), .no, .no], dr⟩ ⟨fun ρ => Q (.val .non) ρ.dr, Q, fun _ => False, fun _ => False⟩
  unfold ir__law_random_picks
  refine hs_asgW (wp_blt (wp_aT ?_))
  refine wp_compF (xs := ms) (k := 1) (sl := [.val .pool, .val (enc ms), .no, .no]) (dr := dr) rfl ?ei rfl (fun _ => rfl) (fun _ _ => rfl) (fun _ _ => rfl) (fun x hx m hm Q' q' => ?_) (fun ys m hs hm => ?_)
  case' ei => walk_at "ei"
  · refine wp_cmp ?_
    refine wp_draw (m := 2) (by assumption) (ρ1 := ⟨[.val .pool, .val (enc ms), .no, .val (enc x)], m⟩) (eva_F (ev_var rfl) kp_val (eva_F ev_cst kp_val eva_nil)) (by decide) (by show m < _; omega) fun v hv => ?_
    refine ev_cst _ ?_
    exact q' _ (m + 1) (Nat.le_refl _)
  · refine wp_a0 ?_
    show wpS C _ ⟨[.val .pool, .val (enc ms), .val (.tup (ys.map enc)), .no], m⟩ _
    refine' hs_ifs (k := decide (ys.length = 0)) ?c0 (fun h0 => ?y0) (fun h0 => ?n0)
    case' c0 => walk_at "ev"
    case' y0 =>
      have hp := List.length_pos_iff.mpr hne
      refine hs_assoc (hs_asgW (wp_tup (wp_aF (wp_idx ((ev_bor rfl : Ev C (.bor 1) _ _ _) _ ?_)))))
      refine wp_draw (m := ms.length) (by assumption) (ρ1 := ⟨[.val .pool, .val (enc ms), .val (.tup (ys.map enc)), .no], m⟩) ?ea hp (by show m < _; omega) fun v hv => ?_
      case' ea => walk_at "ea"
      refine idx_T hv _ ?_
      refine kp_val _ (wp_a0 ⟨show 1 ≤ sizeLine by decide, ?_⟩)
      refine hs_skip (hs_ret (ev_var rfl) ?_)
      have : ms.getD v default ∈ ms := by rw [List.getD_eq_getElem?_getD, List.getElem?_eq_getElem hv]; exact List.getElem_mem hv
      exact hq [ms.getD v default] _ (by simp) (List.singleton_sublist.mpr this) (by show m + 1 ≤ _; omega)
    case' n0 =>
      refine hs_skip (hs_ret (ev_var rfl) ?_)
      refine hq ys m (fun e => ?_) hs (by omega)
      subst e; cases h0
/-- all pairs go down a line -/
def Along (n : Nat) (l : List Nat) (rel : List (Nat × Nat)) : Prop := IsLine n l ∧ ∀ p ∈ rel, p.1 < n ∧ p.2 < n ∧ ixo l p.1 < ixo l p.2
@[irreducible] def sp__law_beats : Spec := fun ds dr Q _ => ∃ n lean : Nat, ds = [.pool, enc n, enc lean] ∧ n ≤ 20 ∧ 0 < lean ∧ dr + 1000 < 2 ^ 40 ∧ ∀ (l : List Nat) (rel : List (Nat × Nat)) (dr' : Nat), Along n l rel → rel.Pairwise (fun a b => Od.lt a b = true) → dr' ≤ dr + 1000 → Q (.val (enc rel)) dr'
theorem ixo_getElem {α : Type} [DecidableEq α] {l : List α} (nd : l.Nodup) {i : Nat} (h : i < l.length) : ixo l l[i] = i := by
  have hm : l[i] ∈ l := List.getElem_mem h
  have h1 := ixo_get hm
  obtain ⟨h2, h3⟩ := List.getElem?_eq_some_iff.mp h1
  exact (List.getElem_inj nd).mp h3
theorem IsLine.nodup {n : Nat} {l : List Nat} (h : IsLine n l) : l.Nodup := h.nodup_iff.mpr List.nodup_range
theorem IsLine.len {n : Nat} {l : List Nat} (h : IsLine n l) : l.length = n := by have := h.length_eq; rwa [List.length_range] at this
theorem IsLine.mem {n : Nat} {l : List Nat} (h : IsLine n l) {x : Nat} : x ∈ l ↔ x < n := by rw [h.mem_iff, List.mem_range]
def nm__law_beats : List Str := ["pool", "n", "lean", "line", "found", "i", "j"]
def ir__law_beats : IS :=
(.seq (.asg (.nm 3) (.call 101 (.acons (.var 0) (.acons (.var 1) .anil))))
  (.seq (.asg (.nm 4) (.lst .anil))
  (.seq (.fr (.nm 5) (.itR1 (.bor 1))
 (.seq (.fr (.nm 6) (.itR2 (.bin .add (.bor 5) (.cst (.int 1))) (.bor 1))
 (.seq (.ifs (.cmp .gt (.call 50 (.acons (.var 0) (.acons (.var 2) .anil))) (.cst (.int 0)))
 (.seq (.app 4 (.tup (.acons (.idx (.bor 3) (.bor 5)) (.acons (.idx (.bor 3) (.bor 6)) .anil))))
  .skip)
 .skip)
  .skip))
  .skip))
  (.seq (.ret (.blt .tuple (.acons (.blt .sorted (.acons (.bor 4) .anil)) .anil)))
  .skip))))
def fs__law_beats : List (Nat × Str) := [(101, "_law_line"), (50, "_law_draw")]
def cs__law_beats : List (Str × D) := []
theorem wp__law_beats (sp : Nat → Spec) (xe : Nat → Nat → Prop) (h__law_line : sp 101 = sp__law_line) (h_draw : sp 50 = sp_draw) : ∀ ds dr Q, sp__law_beats ds dr Q (fun _ _ => False) → wpF ⟨sp, xe⟩ nm__law_beats.length ir__law_beats ds dr Q := by
  intro ds dr Q h
  unfold sp__law_beats at h
  obtain ⟨C, hC⟩ : ∃ C : PC, C = ⟨sp, xe⟩ := ⟨_, rfl⟩
  rw [← hC]
  have h__law_line : C.sp 101 = sp__law_line := by rw [hC]; exact h__law_line
  have h_draw : C.sp 50 = sp_draw := by rw [hC]; exact h_draw
  obtain ⟨n, lean, rfl, hn, hl, hdr, hq⟩ := h
  have sz := sizeLine_eq
  show wpS C ir__law_beats ⟨[.val .pool, .val (enc n), .val (enc lean), .no, .no, .no, .no], dr⟩ ⟨fun ρ => Q (.val .non) ρ.dr, Q, fun _ => False, fun _ => False⟩
  unfold ir__law_beats
  refine' hs_asgW (wp_call h__law_line (eva_F (ev_var rfl) kp_val (eva_F (ev_var rfl) kp_val eva_nil)) ?_)
  unfold sp__law_line
  refine ⟨n, rfl, by omega, by show dr + n < _; omega, fun line m hline hm => ?_⟩
  have hm : m ≤ dr + n := hm
  have hll := hline.len
  refine' hs_asg ?e1 sl_own ?b1
  case' e1 => exact ev_lst eva_nil (by decide)
  have body : ∀ (m0 : Nat) (z5 z6 : SV), z5.plain = true → wpS C (.skip) ⟨[], 0⟩ ⟨fun _ => True, fun _ _ => True, fun _ => True, fun _ => True⟩ := fun _ _ _ _ => trivial
  refine' hs_for (xs := List.range n) (f := enc) (fun i ρ => ∃ (rel : List (Nat × Nat)) (z5 z6 : SV) (m : Nat), ρ = ⟨[.val .pool, .val (enc n), .val (enc lean), .val (enc line), .own (rel.map enc), z5, z6], m⟩ ∧ m ≤ dr + n + 20 * i ∧ rel.Nodup ∧ (∀ p ∈ rel, ∃ a b, a < b ∧ a < i ∧ b < n ∧ line[a]? = some p.1 ∧ line[b]? = some p.2) ∧ rel.length ≤ 20 * i) ?e2 ?h2 ?t2 ?r2
  case' e2 => walk_at "ei"
  case' h2 => exact ⟨[], .no, .no, m, rfl, by omega, List.nodup_nil, fun p h => (by cases h), by simp⟩
  case' t2 =>
    rintro i x ρ hx ⟨rel, z5, z6, m, rfl, hm, hnd, hr, hlr⟩
    obtain ⟨hi, hxi⟩ := List.getElem?_eq_some_iff.mp hx
    rw [List.length_range] at hi
    rw [List.getElem_range] at hxi
    subst hxi
    refine ⟨_, tg_nm, fun Nx hN => ?_⟩
    refine' hs_for (xs := List.range' (i + 1) (n - (i + 1))) (f := enc) (fun j ρ => ∃ (rel : List (Nat × Nat)) (z6 : SV) (m' : Nat), ρ = ⟨[.val .pool, .val (enc n), .val (enc lean), .val (enc line), .own (rel.map enc), .val (enc i), z6], m'⟩ ∧ m' ≤ m + j ∧ rel.Nodup ∧ (∀ p ∈ rel, ∃ a b, a < b ∧ (a < i ∨ (a = i ∧ b < i + 1 + j)) ∧ b < n ∧ line[a]? = some p.1 ∧ line[b]? = some p.2) ∧ rel.length ≤ 20 * i + j) ?e3 ?h3 ?t3 ?r3
    case' e3 =>
      refine evi_r2 (n := i + 1) (m := n) (ev_bin (ev_bor rfl) ev_cst bin_addN1) (ev_bor rfl) rfl rfl (by omega) (by omega)
    case' h3 => exact ⟨rel, z6, m, rfl, by omega, hnd, fun p hp => (let ⟨a, b, h1, h2, h3⟩ := hr p hp; ⟨a, b, h1, .inl h2, h3⟩), by omega⟩
    case' t3 =>
      rintro j y ρ hy ⟨rel, z6, m', rfl, hm', hnd, hr, hlr⟩
      obtain ⟨hj, hyj⟩ := List.getElem?_eq_some_iff.mp hy
      rw [List.length_range'] at hj
      rw [List.getElem_range'] at hyj
      have hyj : y = i + 1 + j := by omega
      subst hyj
      refine ⟨_, tg_nm, fun Nx2 hN2 => ?_⟩
      refine hs_ifsW (wp_cmp ?_)
      refine wp_draw (m := lean) (by assumption) (ρ1 := ⟨[.val .pool, .val (enc n), .val (enc lean), .val (enc line), .own (rel.map enc), .val (enc i), .val (enc (i + 1 + j))], m'⟩) (eva_F (ev_var rfl) kp_val (eva_F (ev_var rfl) kp_val eva_nil)) hl (by show m' < _; omega) fun v hv => ?_
      refine ev_cst _ ⟨_, rfl, fun _ => ?_, fun _ => ?_⟩
      · have hi2 : i < line.length := by omega
        have hj2 : i + 1 + j < line.length := by omega
        refine hs_assoc ?_
        refine' hs_app (d := enc (line.getD i default, line.getD (i + 1 + j) default)) rfl ?e4 ?x4 ?z4 ?b4
        case' e4 => walk_at "ek"
        case' x4 => rfl
        case' z4 => rw [List.length_map]; omega
        case' b4 =>
          refine hs_skip (hs_end (hN2 _ ⟨rel ++ [(line.getD i default, line.getD (i + 1 + j) default)], _, m' + 1, by rw [List.map_append]; rfl, by omega, ?_, ?_, by rw [List.length_append, List.length_singleton]; omega⟩))
          · rw [List.nodup_append]
            refine ⟨hnd, by simp, fun p hp q hq e => ?_⟩
            rw [List.mem_singleton.mp hq] at e
            subst e
            obtain ⟨a, b, h1, h2, h3, h4, h5⟩ := hr _ hp
            have ea : line[a]? = line[i]? := by rw [h4]; exact (getD_some hi2).symm
            have eb : line[b]? = line[i + 1 + j]? := by rw [h5]; exact (getD_some hj2).symm
            obtain ⟨la, _⟩ := List.getElem?_eq_some_iff.mp h4
            obtain ⟨lb, _⟩ := List.getElem?_eq_some_iff.mp h5
            have ia : a = i := (List.getElem?_inj la hline.nodup).mp ea
            have ib : b = i + 1 + j := (List.getElem?_inj lb hline.nodup).mp eb
            omega
          · intro p hp
            rcases List.mem_append.mp hp with hp | hp
            · obtain ⟨a, b, h1, h2, h3⟩ := hr p hp
              exact ⟨a, b, h1, by omega, h3⟩
            · rw [List.mem_singleton.mp hp]
              exact ⟨i, i + 1 + j, by omega, by omega, by omega, getD_some hi2, getD_some hj2⟩
      · refine hs_skip (hs_end (hN2 _ ⟨rel, _, m' + 1, rfl, by omega, hnd, fun p hp => ?_, by omega⟩))
        obtain ⟨a, b, h1, h2, h3⟩ := hr p hp
        exact ⟨a, b, h1, by omega, h3⟩
    case' r3 =>
      rintro ρ ⟨rel, z6, m', rfl, hm', hnd, hr, hlr⟩
      rw [List.length_range'] at hm' hlr
      refine hs_end (hN _ ⟨rel, _, z6, m', rfl, by omega, hnd, fun p hp => ?_, by omega⟩)
      obtain ⟨a, b, h1, h2, h3⟩ := hr p hp
      exact ⟨a, b, h1, by omega, h3⟩
  case' r2 =>
    rintro ρ ⟨rel, z5, z6, m, rfl, hm, hnd, hr, hlr⟩
    rw [List.length_range] at hm
    refine' hs_ret (r := .val (.tup ((srt rel).map enc))) ?e5 ?q5
    case' e5 => walk_at "ev"
    refine hq line (srt rel) m ⟨hline, fun p hp => ?_⟩ (srt_lt hnd) (by show m ≤ _; omega)
    obtain ⟨a, b, h1, h2, h3, h4, h5⟩ := hr p (mem_srt.mp hp)
    obtain ⟨la, ea⟩ := List.getElem?_eq_some_iff.mp h4
    obtain ⟨lb, eb⟩ := List.getElem?_eq_some_iff.mp h5
    refine ⟨hline.mem.mp (ea ▸ List.getElem_mem la), hline.mem.mp (eb ▸ List.getElem_mem lb), ?_⟩
    rw [← ea, ← eb, ixo_getElem hline.nodup la, ixo_getElem hline.nodup lb]
    exact h1
theorem pairs_le {n : Nat} {f : List (Nat × Nat)} (nd : f.Nodup) (h : ∀ p ∈ f, p.1 < n ∧ p.2 < n) : f.length ≤ n * n := by
  have sub : f ⊆ (List.range n).flatMap fun a => (List.range n).map fun b => (a, b) := fun p hp => by
    obtain ⟨h1, h2⟩ := h p hp
    rw [List.mem_flatMap]
    exact ⟨p.1, List.mem_range.mpr h1, List.mem_map.mpr ⟨p.2, List.mem_range.mpr h2, rfl⟩⟩
  have := List.Nodup.length_le_of_subset nd sub
  have e : ((List.range n).flatMap fun a => (List.range n).map fun b => (a, b)).length = n * n := by
    rw [List.length_flatMap]
    have : ((List.range n).map fun a => ((List.range n).map fun b => (a, b)).length) = List.replicate n n := by
      rw [List.eq_replicate_iff]
      exact ⟨by simp, fun b hb => by obtain ⟨a, _, rfl⟩ := List.mem_map.mp hb; simp⟩
    rw [this, List.sum_replicate_nat]
  omega
@[irreducible] def sp__law_steps : Spec := fun ds dr Q _ => ∃ (n : Nat) (l : List Nat) (rel : List (Nat × Nat)), ds = [enc rel] ∧ n ≤ 20 ∧ Along n l rel ∧ rel.Nodup ∧ ∀ out : List (Nat × Nat), Along n l out → out.Pairwise (fun a b => Od.lt a b = true) → Q (.val (enc out)) dr
def nm__law_steps : List Str := ["relation", "found", "pair", "k", "a", "b", "c", "d"]
def ir__law_steps : IS :=
(.seq (.asg (.nm 1) (.comp [2] (.nm 2) (.itSeq (.bor 0)) (.cst (.bl true)) (.var 2)))
  (.seq (.fr (.nm 3) (.itR1 (.cst (.int 6)))
 (.seq (.fr (.tp [4, 5]) (.itSeq (.bin .add (.bor 1) (.lst .anil)))
 (.seq (.fr (.tp [6, 7]) (.itSeq (.bin .add (.bor 1) (.lst .anil)))
 (.seq (.ifs (.and (.cmp .eq (.bor 5) (.bor 6)) (.and (.cmp .ne (.bor 4) (.bor 7)) (.cmp .notin (.tup (.acons (.var 4) (.acons (.var 7) .anil))) (.bor 1))))
 (.seq (.app 1 (.tup (.acons (.var 4) (.acons (.var 7) .anil))))
  .skip)
 .skip)
  .skip))
  .skip))
  .skip))
  (.seq (.ret (.blt .tuple (.acons (.blt .sorted (.acons (.bor 1) .anil)) .anil)))
  .skip)))
def fs__law_steps : List (Nat × Str) := []
def cs__law_steps : List (Str × D) := []
theorem wp__law_steps (sp : Nat → Spec) (xe : Nat → Nat → Prop)  : ∀ ds dr Q, sp__law_steps ds dr Q (fun _ _ => False) → wpF ⟨sp, xe⟩ nm__law_steps.length ir__law_steps ds dr Q := by
  intro ds dr Q h
  unfold sp__law_steps at h
  obtain ⟨C, hC⟩ : ∃ C : PC, C = ⟨sp, xe⟩ := ⟨_, rfl⟩
  rw [← hC]
  obtain ⟨n, l, rel, rfl, hn, hal, hnd, hq⟩ := h
  have sz := sizeLine_eq
  show wpS C ir__law_steps ⟨[.val (enc rel), .no, .no, .no, .no, .no, .no, .no], dr⟩ ⟨fun ρ => Q (.val .non) ρ.dr, Q, fun _ => False, fun _ => False⟩
  unfold ir__law_steps
  have P : ∀ {f : List (Nat × Nat)}, f.Nodup ∧ Along n l f → f.length ≤ 400 := fun ⟨h1, h2⟩ => by
    have := pairs_le h1 fun p hp => ⟨(h2.2 p hp).1, (h2.2 p hp).2.1⟩
    have : n * n ≤ 20 * 20 := Nat.mul_le_mul hn hn
    omega
  have e : rel.filter (fun _ => true) = rel := List.filter_eq_self.mpr (fun _ _ => rfl)
  refine' hs_asg (r := .own ((rel.filter fun _ => true).map enc)) ?e0 sl_own ?b0
  case' e0 => walk_at "ev"
  rw [e]
  refine' hs_for (xs := List.range 6) (f := enc) (fun i ρ => ∃ (f : List (Nat × Nat)) (z3 z4 z5 z6 z7 : SV), ρ = ⟨[.val (enc rel), .own (f.map enc), .no, z3, z4, z5, z6, z7], dr⟩ ∧ f.Nodup ∧ Along n l f) ?e2 ?h2 ?t2 ?r2
  case' e2 => exact evi_r1 (n := 6) ev_cst rfl (by decide)
  case' h2 => exact ⟨rel, .no, .no, .no, .no, .no, rfl, hnd, hal⟩
  case' t2 =>
    rintro i x ρ hx ⟨f, z3, z4, z5, z6, z7, rfl, hf⟩
    refine ⟨_, tg_nm, fun Nx hN => ?_⟩
    refine' hs_for (xs := f) (f := enc) (fun i ρ => ∃ (f : List (Nat × Nat)) (z3 z4 z5 z6 z7 : SV), ρ = ⟨[.val (enc rel), .own (f.map enc), .no, z3, z4, z5, z6, z7], dr⟩ ∧ f.Nodup ∧ Along n l f) ?e3 ?h3 ?t3 ?r3
    case' e3 => exact evi_F (ev_bin (ev_borO rfl) (ev_lst eva_nil (by decide)) (bin_addL0 (by have := P hf; omega))) kp_own itm_lst
    case' h3 => exact ⟨f, _, _, _, _, _, rfl, hf⟩
    case' t3 =>
      rintro j ab ρ hab ⟨f', z3, z4, z5, z6, z7, rfl, hf'⟩
      have mab : ab ∈ f := List.mem_of_getElem? hab
      refine ⟨_, tg_tp2, fun Nx2 hN2 => ?_⟩
      refine' hs_for (xs := f') (f := enc) (fun i ρ => ∃ (f : List (Nat × Nat)) (z6 z7 : SV), ρ = ⟨[.val (enc rel), .own (f.map enc), .no, z3, .val (enc ab.1), .val (enc ab.2), z6, z7], dr⟩ ∧ f.Nodup ∧ Along n l f) ?e4 ?h4 ?t4 ?r4
      case' e4 => exact evi_F (ev_bin (ev_borO rfl) (ev_lst eva_nil (by decide)) (bin_addL0 (by have := P hf'; omega))) kp_own itm_lst
      case' h4 => exact ⟨f', _, _, rfl, hf'⟩
      case' t4 =>
        rintro j2 cd ρ hcd ⟨f2, z6, z7, rfl, hf2⟩
        have mcd : cd ∈ f' := List.mem_of_getElem? hcd
        refine ⟨_, tg_tp2, fun Nx3 hN3 => ?_⟩
        refine' hs_ifs (k := (decide (ab.2 = cd.1) && (!decide (ab.1 = cd.2) && !decide ((ab.1, cd.2) ∈ f2)))) ?c5 (fun h => ?y5) (fun _ => ?n5)
        case' c5 =>
          refine ev_and (ev_cmp (ev_bor rfl) (ev_bor rfl) cmp_eqN) fun _ => ev_and (ev_cmp (ev_bor rfl) (ev_bor rfl) cmp_neN) fun _ => ev_cmp (r := .val (.tup [enc ab.1, enc cd.2])) ?_ (ev_borO rfl) cmp_ninLp
          walk_at "ev"
        case' y5 =>
          simp only [Bool.and_eq_true, decide_eq_true_eq, Bool.not_eq_true', decide_eq_false_iff_not] at h
          obtain ⟨h1, h2, h3⟩ := h
          refine hs_assoc ?_
          refine' hs_app (d := enc (ab.1, cd.2)) rfl ?e6 ?x6 ?z6 ?b6
          case' e6 => walk_at "ek"
          case' x6 => rfl
          case' z6 => rw [List.length_map]; have := P hf2; omega
          case' b6 =>
            refine hs_skip (hs_end (hN3 _ ⟨f2 ++ [(ab.1, cd.2)], _, _, by rw [List.map_append]; rfl, ?_, hal.1, fun p hp => ?_⟩))
            · rw [List.nodup_append]
              exact ⟨hf2.1, by simp, fun p hp q hq e => h3 (by rw [List.mem_singleton.mp hq] at e; rw [← e]; exact hp)⟩
            · rcases List.mem_append.mp hp with hp | hp
              · exact hf2.2.2 p hp
              · rw [List.mem_singleton.mp hp]
                have a1 := hf.2.2 ab mab
                have a2 := hf'.2.2 cd mcd
                rw [← h1] at a2
                exact ⟨a1.1, a2.2.1, Nat.lt_trans a1.2.2 a2.2.2⟩
        case' n5 => exact hs_skip (hs_end (hN3 _ ⟨f2, _, _, rfl, hf2⟩))
      case' r4 =>
        rintro ρ ⟨f2, z6, z7, rfl, hf2⟩
        exact hs_end (hN2 _ ⟨f2, _, _, _, _, _, rfl, hf2⟩)
    case' r3 =>
      rintro ρ ⟨f2, z3, z4, z5, z6, z7, rfl, hf2⟩
      exact hs_end (hN _ ⟨f2, _, _, _, _, _, rfl, hf2⟩)
  case' r2 =>
    rintro ρ ⟨f, z3, z4, z5, z6, z7, rfl, hf⟩
    refine' hs_ret (r := .val (.tup ((srt f).map enc))) ?e7 ?q7
    case' e7 => walk_at "ev"
    exact hq (srt f) ⟨hal.1, fun p hp => hf.2.2 p (mem_srt.mp hp)⟩ (srt_lt hf.1)

end PL
/-! KTab -/
namespace PL
open PySem PySem.Spec PyProof.Rows L2
open En
local macro_rules | `(tactic| walk_at "side") => `(tactic| first
  | assumption | trivial | decide | omega
  | (simp only [List.length_map, List.length_range, List.length_append, List.length_cons, List.length_nil, List.length_singleton, sizeLine_eq] at *; omega)
  | (simp_all; done) | skip)
local macro_rules | `(tactic| walk_at "vl") => `(tactic| skip)
local macro_rules | `(tactic| walk_at "kp") => `(tactic| first | exact kp_val | exact kp_own | exact kp_owd)
local macro_rules | `(tactic| walk_at "as") => `(tactic| first
  | exact as_enc | exact as_N | exact as_I | exact as_B | exact as_S | exact as_T | exact as_L
  | (refine' as_T1 ?h; (case' h => walk_at "as")) | (refine' as_P ?h ?i; (case' h => walk_at "as"); (case' i => walk_at "as")) | (refine' as_ite ?h ?i; (case' h => walk_at "as"); (case' i => walk_at "as")) | exact as_D | skip)
local macro_rules | `(tactic| walk_at "op") => `(tactic| first
  | exact cmp_eqN0 | exact cmp_ltN0 | exact cmp_leN0 | exact cmp_gtN0 | exact cmp_geN0 | exact cmp_neN0 | exact cmp_eqN1 | exact cmp_ltN1 | exact cmp_leN1 | exact cmp_gtN1 | exact cmp_geN1 | exact cmp_neN1 | exact cmp_eqN2 | exact cmp_ltN2 | exact cmp_leN2 | exact cmp_gtN2 | exact cmp_geN2 | exact cmp_neN2 | exact cmp_eqN3 | exact cmp_ltN3 | exact cmp_leN3 | exact cmp_gtN3 | exact cmp_geN3 | exact cmp_neN3 | exact cmp_eqN4 | exact cmp_ltN4 | exact cmp_leN4 | exact cmp_gtN4 | exact cmp_geN4 | exact cmp_neN4 | exact cmp_eqN5 | exact cmp_ltN5 | exact cmp_leN5 | exact cmp_gtN5 | exact cmp_geN5 | exact cmp_neN5 | exact bin_addN1 | exact bin_add1N
  | exact cmp_eqN | exact cmp_neN | exact cmp_ltN | exact cmp_leN | exact cmp_gtN | exact cmp_geN | exact bin_addN
  | exact cmp_eqI | exact cmp_eqS | exact cmp_eqB | exact cmp_eqT | exact cmp_eqT1 | exact cmp_eqT0 | exact cmp_eqL | exact cmp_eqE
  | exact cmp_neI | exact cmp_neS | exact cmp_neB | exact cmp_neT | exact cmp_neL | exact cmp_neE
  | exact cmp_lt | exact cmp_le | exact cmp_gt | exact cmp_ge | exact cmp_ltT
  | exact cmp_inT | exact cmp_ninT | exact cmp_inL | exact cmp_ninL | exact cmp_inTp | exact cmp_ninTp | exact cmp_inLp | exact cmp_ninLp | exact cmp_inD | exact cmp_ninD | exact cmp_inN | exact cmp_ninN
  | exact cmp_isN | exact cmp_isnN | exact cmp_isB | exact cmp_isnB
  | exact bin_add | exact bin_sub | (refine' bin_mul ?_; walk_at "side") | (refine' bin_fdiv ?_; walk_at "side") | (refine' bin_mod ?_; walk_at "side")
  | (refine' bin_addT ?_; walk_at "side") | (refine' bin_addT1 ?_; walk_at "side") | (refine' bin_addL0 ?_; walk_at "side") | (refine' bin_addL ?_; walk_at "side") | (refine' bin_addL1 ?_; walk_at "side") | (refine' bin_repL ?_; walk_at "side")
  | (refine' idx_0T ?_; walk_at "side") | (refine' idx_0L ?_; walk_at "side") | (refine' idx_T ?_; walk_at "side") | (refine' idx_L ?_; walk_at "side") | (refine' idx_D ?h; (case' h => first | assumption | skip)) | (refine' idx_0T ?_; walk_at "side") | (refine' idx_0L ?_; walk_at "side") | (refine' idx_lastL ?_; walk_at "side") | (refine' idx_lastT ?_; walk_at "side")
  | (refine' idx_IT ?_; walk_at "side") | (refine' idx_IL ?_; walk_at "side")
  | exact slc_T | exact slc_L | exact rev_T | exact rev_L
  | exact tru_B | exact tru_I | exact tru_N | exact tru_T | exact tru_L
  | exact blt_lenT | exact blt_lenL | exact blt_lenD | exact blt_lenTr | exact blt_lenLr | exact blt_intI | exact blt_intB | exact blt_tupL | exact blt_tupT | (refine' blt_tupR ?_; walk_at "side")
  | exact blt_lstL | exact blt_lstT | exact blt_lstD | (refine' blt_lstR ?_; walk_at "side") | (refine' blt_rngN ?_; walk_at "side") | (refine' blt_rng1 ?_; walk_at "side")
  | exact blt_srtL | exact blt_srtT | exact blt_srtD | exact blt_srtP
  | (refine' blt_minLN ?_; walk_at "side") | (refine' blt_maxLN ?_; walk_at "side") | (refine' blt_minTN ?_; walk_at "side") | (refine' blt_maxTN ?_; walk_at "side")
  | (refine' blt_minL ?_; walk_at "side") | (refine' blt_maxL ?_; walk_at "side") | (refine' blt_minT ?_; walk_at "side") | (refine' blt_maxT ?_; walk_at "side")
  | exact blt_sumLN | exact blt_sumL | exact blt_any | exact blt_all | exact blt_abs | exact blt_min2 | exact blt_max2
  | (refine' mth_ixT ?_; walk_at "side") | (refine' mth_ixL ?_; walk_at "side")
  | exact itm_tup | exact itm_lst | exact itm_dct | (refine' itm_rng ?_; walk_at "side")
  | exact sq_tup | exact sq_lst
  | skip)
local macro_rules | `(tactic| walk_at "tg") => `(tactic| first | exact fun _ => tg_nm | exact fun _ => tg_tp2 | exact fun _ => tg_tp3 | exact fun _ => tg_tp1 | skip)
local macro_rules | `(tactic| walk_at "ek") => `(tactic| first
  | (refine' evk_gen ?e ?k; (case' e => walk_at "ev"); (case' k => first | exact kpa_own | (refine' kpa_val ?h; (case' h => walk_at "as"))))
  | skip)
local macro_rules | `(tactic| walk_at "ea") => `(tactic| first
  | exact eva_nil
  | (refine' eva_T ?e ?d ?r; (case' e => walk_at "ev"); (case' d => first | rfl | skip); (case' r => walk_at "ea"))
  | (refine' eva_F ?e ?d ?r; (case' e => walk_at "ev"); (case' d => first | walk_at "kp" | skip); (case' r => walk_at "ea"))
  | skip)
local macro_rules | `(tactic| walk_at "ei") => `(tactic| first
  | (refine' evi_r1 ?e ?h ?z; (case' e => walk_at "ev"); (case' h => first | rfl | skip); (case' z => walk_at "side"))
  | (refine' evi_r21 ?e ?e2 ?h ?h2 ?z; (case' e => walk_at "ev"); (case' e2 => walk_at "ev"); (case' h => rfl); (case' h2 => rfl); (case' z => walk_at "side"))
  | (refine' evi_r2 ?e ?e2 ?h ?h2 ?z ?z2; (case' e => walk_at "ev"); (case' e2 => walk_at "ev"); (case' h => first | rfl | skip); (case' h2 => first | rfl | skip); (case' z => walk_at "side"); (case' z2 => walk_at "side"))
  | (refine' evi_T ?e ?h; (case' e => walk_at "ev"); (case' h => walk_at "op"))
  | (refine' evi_F ?e ?k ?h; (case' e => walk_at "ev"); (case' k => first | walk_at "kp" | skip); (case' h => walk_at "op"))
  | (refine' evi_zipT ?e ?e2 ?h ?h2; (case' e => walk_at "ev"); (case' e2 => walk_at "ev"); (case' h => walk_at "op"); (case' h2 => walk_at "op"))
  | (refine' evi_zipF ?e ?k ?e2 ?k2 ?h ?h2; (case' e => walk_at "ev"); (case' k => walk_at "kp"); (case' e2 => walk_at "ev"); (case' k2 => walk_at "kp"); (case' h => walk_at "op"); (case' h2 => walk_at "op"))
  | (refine' evi_zip3T ?e ?e2 ?e3 ?h ?h2 ?h3; (case' e => walk_at "ev"); (case' e2 => walk_at "ev"); (case' e3 => walk_at "ev"); (case' h => walk_at "op"); (case' h2 => walk_at "op"); (case' h3 => walk_at "op"))
  | (refine' evi_enumT ?e ?h; (case' e => walk_at "ev"); (case' h => walk_at "op"))
  | (refine' evi_itemsT ?e ?h; (case' e => walk_at "ev"); (case' h => first | rfl | skip))
  | (refine' evi_itemsF ?e ?k ?h; (case' e => walk_at "ev"); (case' k => walk_at "kp"); (case' h => first | rfl | skip))
  | skip)
local macro_rules | `(tactic| walk_at "ev") => `(tactic| first
  | exact ev_cst
  | exact ev_bor rfl | exact ev_borO rfl | exact ev_borD rfl
  | exact ev_var rfl | exact ev_varO rfl | exact ev_varD rfl
  | (refine' ev_bin ?a ?b ?o; (case' a => walk_at "ev"); (case' b => walk_at "ev"); (case' o => walk_at "op"))
  | (refine' ev_cmp ?a ?b ?o; (case' a => walk_at "ev"); (case' b => walk_at "ev"); (case' o => walk_at "op"))
  | (refine' ev_cmp2 ?a ?b ?o ?c ?o2; (case' a => walk_at "ev"); (case' b => walk_at "ev"); (case' o => walk_at "op"); (case' c => walk_at "ev"); (case' o2 => walk_at "op"))
  | (refine' ev_tst ?a ?o; (case' a => walk_at "ev"); (case' o => walk_at "op"))
  | (refine' ev_and ?a ?b; (case' a => walk_at "ev"); (case' b => (intro _; walk_at "ev")))
  | (refine' ev_or ?a ?b; (case' a => walk_at "ev"); (case' b => (intro _; walk_at "ev")))
  | (refine' ev_not ?a; (case' a => walk_at "ev"))
  | (refine' ev_ite ?a ?b ?c; (case' a => walk_at "ev"); (case' b => (intro _; walk_at "ev")); (case' c => (intro _; walk_at "ev")))
  | (refine' ev_idx ?a ?b ?o; (case' a => walk_at "ev"); (case' b => walk_at "ev"); (case' o => walk_at "op"))
  | (refine' ev_blt ?a ?o; (case' a => walk_at "ea"); (case' o => walk_at "op"))
  | (refine' ev_call ?h ?a ?o; (case' h => first | assumption | skip); (case' a => walk_at "ea"); (case' o => walk_at "vl"))
  | (refine' ev_tup ?a ?z; (case' a => walk_at "ea"); (case' z => walk_at "side"))
  | (refine' ev_lst ?a ?z; (case' a => walk_at "ea"); (case' z => walk_at "side"))
  | exact ev_dnew
  | (refine' ev_neg ?a ?o; (case' a => walk_at "ev"); (case' o => first | rfl | skip))
  | (refine' ev_mth ?a ?b ?o; (case' a => walk_at "ev"); (case' b => walk_at "ea"); (case' o => walk_at "op"))
  | (refine' ev_slc0 ?a ?o; (case' a => walk_at "ev"); (case' o => walk_at "op"))
  | (refine' ev_slcF rfl ?a ?b ?h ?o; (case' a => walk_at "ev"); (case' b => walk_at "ev"); (case' h => first | rfl | skip); (case' o => walk_at "op"))
  | (refine' ev_slcT rfl ?a ?b ?h ?o; (case' a => walk_at "ev"); (case' b => walk_at "ev"); (case' h => first | rfl | skip); (case' o => walk_at "op"))
  | (refine' ev_slc2 rfl rfl ?a ?b ?h ?c ?i ?o; (case' a => walk_at "ev"); (case' b => walk_at "ev"); (case' h => first | rfl | skip); (case' c => walk_at "ev"); (case' i => first | rfl | skip); (case' o => walk_at "op"))
  | (refine' ev_rev ?a ?o; (case' a => walk_at "ev"); (case' o => walk_at "op"))
  | (refine' ev_isi ?a ?t ?b; (case' a => walk_at "ev"); (case' t => first | rfl | skip); (case' b => first | rfl | skip))
  | (refine' ev_compI rfl ?hi ?ht ?he ?hw ?hb ?hc; (case' hi => walk_at "ei"); (case' ht => exact fun _ => tg_nm); (case' he => exact fun _ => rfl); (case' hw => exact fun _ => rfl); (case' hb => rfl); (case' hc => (intro _ _; walk_at "ev")))
  | (refine' ev_compA rfl ?hi ?ht ?hw ?hb ?he; (case' hi => walk_at "ei"); (case' ht => walk_at "tg"); (case' hw => exact fun _ => rfl); (case' hb => rfl); (case' he => (intro _ _; walk_at "ek")))
  | (refine' ev_compAG rfl ?hi ?ht ?hw ?hb ?he; (case' hi => walk_at "ei"); (case' ht => walk_at "tg"); (case' hw => exact fun _ => rfl); (case' hb => rfl); (case' he => (intro _ _; walk_at "ek")))
  | (refine' ev_comp rfl ?hi ?ht ?hw ?hb ?hc ?he; (case' hi => walk_at "ei"); (case' ht => walk_at "tg"); (case' hw => exact fun _ => rfl); (case' hb => rfl); (case' hc => (intro _ _; walk_at "ev")); (case' he => (intro _ _ _; walk_at "ek")))
  | (refine' ev_compG rfl ?hi ?ht ?hw ?hb ?hc ?he; (case' hi => walk_at "ei"); (case' ht => walk_at "tg"); (case' hw => exact fun _ => rfl); (case' hb => rfl); (case' hc => (intro _ _; walk_at "ev")); (case' he => (intro _ _ _; walk_at "ek")))
  | (refine' ev_dcompA ?i1 ?i2 ?i3 rfl ?hi ?ht ?hw ?hb ?he ?hv ?hd; (case' hi => walk_at "ei"); (case' ht => walk_at "tg"); (case' hw => exact fun _ => rfl); (case' hb => rfl); (case' he => (intro _ _; walk_at "ek")); (case' hv => (intro _ _; walk_at "ek")); (case' i1 => infer_instance); (case' i2 => infer_instance); (case' i3 => infer_instance); (case' hd => decide))
  | skip)
local macro_rules | `(tactic| walk_at "st") => `(tactic| first
  | (refine' rt_seqR (rt_ret ?e ?d ?q); (case' e => walk_at "ev"); (case' d => rfl))
  | (refine' rt_ret ?e ?d ?q; (case' e => walk_at "ev"); (case' d => rfl))
  | (refine' rt_asg ?e ?s ?b; (case' e => walk_at "ev"); (case' s => first | exact sl_val | exact sl_own | exact sl_owd | skip); (case' b => walk_at "st"))
  | (refine' rt_asgT ?e ?s ?t ?b; (case' e => walk_at "ev"); (case' s => walk_at "kp"); (case' t => first | exact tg_tp2 | exact tg_tp3 | exact tg_tp4 | skip); (case' b => walk_at "st"))
  | (refine' rt_ifs ?e ?a ?b; (case' e => walk_at "ev"); (case' a => (intro _; walk_at "st")); (case' b => (intro _; walk_at "st")))
  | (refine' rt_app rfl ?e ?x ?z ?b; (case' e => walk_at "ek"); (case' x => rfl); (case' z => walk_at "side"); (case' b => walk_at "st"))
  | (refine' rt_asgL ?e ?p ?k ?j ?x ?l ?b; (case' e => walk_at "ek"); (case' p => rfl); (case' k => walk_at "ev"); (case' j => first | rfl | skip); (case' x => rfl); (case' l => walk_at "side"); (case' b => walk_at "st"))
  | (refine' rt_aug rfl ?e ?y ?b; (case' e => walk_at "ev"); (case' y => first | rfl | skip); (case' b => walk_at "st"))
  | (refine' rt_assoc ?_; walk_at "st")
  | (refine' rt_skip ?_; walk_at "st")
  | skip)
local macro_rules | `(tactic| walk_at "bo") => `(tactic| first
  | (refine' bo_asg ?e ?s ?b; (case' e => walk_at "ev"); (case' s => first | exact sl_val | exact sl_own | exact sl_owd | skip); (case' b => walk_at "bo"))
  | (refine' bo_asgT ?e ?s ?t ?b; (case' e => walk_at "ev"); (case' s => walk_at "kp"); (case' t => first | exact tg_tp2 | exact tg_tp3 | exact tg_tp4 | skip); (case' b => walk_at "bo"))
  | (refine' bo_app rfl ?e ?x ?z ?b; (case' e => walk_at "ek"); (case' x => rfl); (case' z => walk_at "side"); (case' b => walk_at "bo"))
  | (refine' bo_asgL ?e ?p ?k ?j ?x ?l ?b; (case' e => walk_at "ek"); (case' p => rfl); (case' k => walk_at "ev"); (case' j => first | rfl | skip); (case' x => rfl); (case' l => walk_at "side"); (case' b => walk_at "bo"))
  | (refine' bo_aug rfl ?e ?y ?b; (case' e => walk_at "ev"); (case' y => first | rfl | skip); (case' b => walk_at "bo"))
  | (refine' bo_ret ?e ?d; (case' e => walk_at "ev"); (case' d => rfl))
  | (refine' bo_ifs' ?e ?a ?b; (case' e => walk_at "ev"); (case' a => (intro _; walk_at "bo")); (case' b => (intro _; walk_at "bo")))
  | (refine' bo_assoc ?_; walk_at "bo")
  | (refine' bo_sk ?_; walk_at "bo")
  | refine' bo_skip ?_ | refine' bo_seqC ?_ | refine' bo_cnt ?_
  | skip)
local macro_rules | `(tactic| walk_at "bof") => `(tactic| first
  | (refine' bo_asg ?e ?s ?b; (case' e => walk_at "ev"); (case' s => first | exact sl_val | exact sl_own | exact sl_owd | skip); (case' b => walk_at "bof"))
  | (refine' bo_asgT ?e ?s ?t ?b; (case' e => walk_at "ev"); (case' s => walk_at "kp"); (case' t => first | exact tg_tp2 | exact tg_tp3 | exact tg_tp4 | skip); (case' b => walk_at "bof"))
  | (refine' bo_ret ?e ?d; (case' e => walk_at "ev"); (case' d => rfl))
  | (refine' bo_ifs ?e ?a ?b; (case' e => walk_at "ev"); (case' a => (intro _; walk_at "bof")); (case' b => (intro _; walk_at "bof")))
  | (refine' bo_assoc ?_; walk_at "bof")
  | (refine' bo_sk ?_; walk_at "bof")
  | refine' bo_skip ?_ | refine' bo_seqC ?_ | refine' bo_cnt ?_
  | skip)
local macro_rules | `(tactic| walk_at "vl") => `(tactic| (refine' vl_is_integer ?_; walk_at "side"))
local macro_rules | `(tactic| walk_at "vl") => `(tactic| (refine' vl_is_number ?_; walk_at "side"))
local macro_rules | `(tactic| walk_at "vl") => `(tactic| (refine' vl_is_tuple ?_; walk_at "side"))
local macro_rules | `(tactic| walk_at "vl") => `(tactic| (refine' vl_is_tagged ?_; walk_at "side"))
local macro_rules | `(tactic| walk_at "vl") => `(tactic| (refine' vl_is_between ?_; walk_at "side"))
local macro_rules | `(tactic| walk_at "vl") => `(tactic| (refine' vl_are_integers ?_; walk_at "side"))
local macro_rules | `(tactic| walk_at "vl") => `(tactic| (refine' vl_is_ascending ?_; walk_at "side"))
local macro_rules | `(tactic| walk_at "vl") => `(tactic| (refine' vl_are_numbers ?_; walk_at "side"))
local macro_rules | `(tactic| walk_at "vl") => `(tactic| (refine' vl_is_menu ?_; walk_at "side"))
local macro_rules | `(tactic| walk_at "vl") => `(tactic| (refine' vl_subsets_of ?_; walk_at "side"))
local macro_rules | `(tactic| walk_at "vl") => `(tactic| (refine' vl_menus ?_; walk_at "side"))
local macro_rules | `(tactic| walk_at "vl") => `(tactic| (refine' vl_things_of ?_; walk_at "side"))
local macro_rules | `(tactic| walk_at "vl") => `(tactic| (refine' vl_by_menus ?_; walk_at "side"))
local macro_rules | `(tactic| walk_at "vl") => `(tactic| (refine' vl_picks ?_; walk_at "side"))
local macro_rules | `(tactic| walk_at "vl") => `(tactic| (refine' vl__law_kind ?_; walk_at "side"))
local macro_rules | `(tactic| walk_at "vl") => `(tactic| exact vl__law_is)
local macro_rules | `(tactic| walk_at "vl") => `(tactic| (refine' vl__law_int ?_; walk_at "side"))
local macro_rules | `(tactic| walk_at "vl") => `(tactic| (refine' vl__law_ints ?_; walk_at "side"))
local macro_rules | `(tactic| walk_at "vl") => `(tactic| (refine' vl__law_up ?_; walk_at "side"))
local macro_rules | `(tactic| walk_at "vl") => `(tactic| (refine' vl__law_set ?_; walk_at "side"))
local macro_rules | `(tactic| walk_at "vl") => `(tactic| (refine' vl__law_menus ?_; walk_at "side"))
local macro_rules | `(tactic| walk_at "vl") => `(tactic| exact vl__law_in)
local macro_rules | `(tactic| walk_at "vl") => `(tactic| exact vl__law_both)
local macro_rules | `(tactic| walk_at "vl") => `(tactic| (refine' vl__law_least ?_; walk_at "side"))
local macro_rules | `(tactic| walk_at "vl") => `(tactic| exact vl__law_best)
local macro_rules | `(tactic| walk_at "vl") => `(tactic| (refine' vl__law_first ?_; walk_at "side"))
local macro_rules | `(tactic| walk_at "vl") => `(tactic| (refine' vl__law_tidy ?_; walk_at "side"))
local macro_rules | `(tactic| walk_at "vl") => `(tactic| (refine' vl__law_picks_of_lines ?_; walk_at "side"))
/-! the laws' tables -/
/-- a table: some things of each menu -/
def GoodTab (n : Nat) (t : List (List Nat)) : Prop := Each (fun m p => p.Sublist m ∧ p ≠ []) (menusL n) t
theorem goodMap {n : Nat} (f : List Nat → List Nat) (h : ∀ m ∈ menusL n, (f m).Sublist m ∧ f m ≠ []) : GoodTab n ((menusL n).map f) := ⟨List.length_map .., fun i m p e1 e2 => by
  rw [List.getElem?_map, e1] at e2
  cases e2
  exact h m (List.mem_of_getElem? e1)⟩
theorem GoodTab.isTab {n : Nat} {t : List (List Nat)} (h : GoodTab n t) (h1 : 1 ≤ n) (h8 : n ≤ 8) : IsTab n t := ⟨h1, h8, h.1⟩
theorem menu_lt {n : Nat} {m : List Nat} (h : m ∈ menusL n) : ∀ w ∈ m, w < n := fun w hw => List.mem_range.mp ((mem_menusL.mp h).1.subset hw)
theorem menu_ne {n : Nat} {m : List Nat} (h : m ∈ menusL n) : m ≠ [] := (mem_menusL.mp h).2
theorem menu_len {n : Nat} {m : List Nat} (h : m ∈ menusL n) : m.length ≤ n := by have := (mem_menusL.mp h).1.length_le; rwa [List.length_range] at this
theorem menu_asc {n : Nat} {m : List Nat} (h : m ∈ menusL n) : m.Pairwise (· < ·) := List.Pairwise.sublist (mem_menusL.mp h).1 List.pairwise_lt_range
theorem menu_nodup {n : Nat} {m : List Nat} (h : m ∈ menusL n) : m.Nodup := (List.nodup_range).sublist (mem_menusL.mp h).1
theorem leastN_ne {rk mn : List Nat} (h : mn ≠ []) : leastN rk mn ≠ [] := by
  have h1 : mn.map (fun w => rk.getD w 0) ≠ [] := fun e => h (List.map_eq_nil_iff.mp e)
  obtain ⟨w, hw, e⟩ := List.mem_map.mp (minN_mem h1)
  intro e2
  have := List.filter_eq_nil_iff.mp e2 w hw
  exact this (decide_eq_true e)
theorem bestN_ne {n : Nat} {l : List Nat} {rel : List (Nat × Nat)} {mn : List Nat} (ha : Along n l rel) (h : mn ≠ []) : bestN rel mn ≠ [] := by
  have h1 : mn.map (ixo l) ≠ [] := fun e => h (List.map_eq_nil_iff.mp e)
  obtain ⟨w, hw, e⟩ := List.mem_map.mp (minN_mem h1)
  intro e2
  have := List.filter_eq_nil_iff.mp e2 w hw
  refine this ?_
  rw [Bool.not_eq_true', Bool.eq_false_iff]
  intro hany
  obtain ⟨o, ho, h3⟩ := List.any_eq_true.mp hany
  rw [decide_eq_true_eq] at h3
  have h4 : ixo l o < ixo l w := (ha.2 _ h3).2.2
  have h5 := minN_le (List.mem_map.mpr ⟨o, ho, rfl⟩ : ixo l o ∈ mn.map (ixo l))
  omega
/-- things put in order, of a menu -/
theorem srt_sub {m xs : List Nat} (ha : m.Pairwise (· < ·)) (nd : xs.Nodup) (h : ∀ x ∈ xs, x ∈ m) : srt xs = m.filter fun t => decide (t ∈ xs) := by
  have nm : m.Nodup := ha.imp fun h e => by omega
  refine srt_of ?_ (((ha.sublist List.filter_sublist)).imp fun {a b} h => by show decide (b < a) = false; rw [decide_eq_false_iff_not]; omega)
  refine (List.perm_ext_iff_of_nodup (nm.filter _) nd).mpr fun a => ?_
  rw [List.mem_filter, decide_eq_true_eq]
  exact ⟨fun h => h.2, fun hx => ⟨h a hx, hx⟩⟩
theorem first_mem {l mn : List Nat} (h : ∃ t ∈ l, t ∈ mn) : (l.filter fun t => decide (t ∈ mn)).headD 0 ∈ mn := by
  obtain ⟨t, h1, h2⟩ := h
  cases e : l.filter fun t => decide (t ∈ mn) with
  | nil => exact absurd (List.filter_eq_nil_iff.mp e t h1) (by simp [h2])
  | cons x xs =>
    have : x ∈ l.filter fun t => decide (t ∈ mn) := by rw [e]; exact List.mem_cons_self
    simpa using (List.mem_filter.mp this).2
theorem picksN_good {lines : List (List Nat)} {m : List Nat} (ha : m.Pairwise (· < ·)) (h : ∀ l ∈ lines, ∃ t ∈ l, t ∈ m) (hl : lines ≠ []) : (picksN lines m).Sublist m ∧ picksN lines m ≠ [] := by
  have sub : ∀ x ∈ ded [] (lines.map fun l => (l.filter fun t => decide (t ∈ m)).headD 0), x ∈ m := fun x hx => by
    rw [ded_nil_mem, List.mem_map] at hx
    obtain ⟨l, h1, rfl⟩ := hx
    exact first_mem (h l h1)
  refine ⟨?_, fun e => ?_⟩
  · unfold picksN
    rw [srt_sub ha (nodup_ded List.nodup_nil) sub]
    exact List.filter_sublist
  · obtain ⟨l, hl⟩ := List.exists_mem_of_ne_nil _ hl
    have : (l.filter fun t => decide (t ∈ m)).headD 0 ∈ picksN lines m := by
      unfold picksN
      rw [mem_srt, ded_nil_mem, List.mem_map]
      exact ⟨l, hl, rfl⟩
    rw [e] at this; cases this
theorem line_meets {n : Nat} {l m : List Nat} (hl : IsLine n l) (hm : m ∈ menusL n) : ∃ t ∈ l, t ∈ m := by
  obtain ⟨t, ht⟩ := List.exists_mem_of_ne_nil _ (menu_ne hm)
  exact ⟨t, hl.mem.mpr (menu_lt hm t ht), ht⟩
theorem cut_from1 {α : Type} (xs : List α) (n : Nat) : cutL xs (some ((n : Int) + 1)) none = xs.drop (n + 1) := cut_drop xs (n + 1)
theorem good_set {n : Nat} {t : List (List Nat)} (h : GoodTab n t) {k : Nat} (hk : k < (menusL n).length) {p : List Nat} (hp : p.Sublist ((menusL n).getD k default) ∧ p ≠ []) : GoodTab n (t.take k ++ [p] ++ t.drop (k + 1)) := by
  have e : t.take k ++ [p] ++ t.drop (k + 1) = t.set k p := by
    rw [List.set_eq_take_append_cons_drop, if_pos (by rw [h.1]; exact hk)]
    simp
  rw [e]
  refine ⟨by rw [List.length_set]; exact h.1, fun i m q e1 e2 => ?_⟩
  by_cases hik : k = i
  · subst hik
    rw [List.getElem?_set_self (by rw [h.1]; exact hk)] at e2
    cases e2
    rw [getD_some hk (z := default)] at e1
    cases e1
    exact hp
  · rw [List.getElem?_set_ne hik] at e2
    exact h.2 i m q e1 e2
@[irreducible] def sp__law_table : Spec := fun ds dr Q _ => ∃ n : Nat, ds = [.pool, enc n] ∧ 1 ≤ n ∧ n ≤ 6 ∧ dr + 10000 < 2 ^ 40 ∧ ∀ (t : List (List Nat)) (dr' : Nat), GoodTab n t → dr' ≤ dr + 10000 → Q (.val (enc t)) dr'
def nm__law_table : List Str := ["pool", "n", "rows", "way", "menu", "ranks", "table", "relation", "lines", "k", "at"]
def ir__law_table : IS :=
(.seq (.asg (.nm 2) (.call 112 (.acons (.var 1) .anil)))
  (.seq (.asg (.nm 3) (.call 50 (.acons (.var 0) (.acons (.cst (.int 7)) .anil))))
  (.seq (.ifs (.cmp .eq (.bor 3) (.cst (.int 0)))
 (.seq (.ret (.blt .tuple (.acons (.comp [4] (.nm 4) (.itSeq (.bor 2)) (.cst (.bl true)) (.call 155 (.acons (.var 0) (.acons (.var 4) .anil)))) .anil)))
  .skip)
 .skip)
  (.seq (.ifs (.cmp .lt (.bor 3) (.cst (.int 3)))
 (.seq (.asg (.nm 5) (.call 158 (.acons (.var 0) (.acons (.var 1) .anil))))
  (.seq (.asg (.nm 6) (.blt .tuple (.acons (.comp [4] (.nm 4) (.itSeq (.bor 2)) (.cst (.bl true)) (.call 94 (.acons (.var 5) (.acons (.var 4) .anil)))) .anil)))
  .skip))
 (.seq (.ifs (.cmp .lt (.bor 3) (.cst (.int 5)))
 (.seq (.asg (.nm 7) (.call 15 (.acons (.var 0) (.acons (.var 1) (.acons (.bin .add (.cst (.int 2)) (.call 50 (.acons (.var 0) (.acons (.cst (.int 2)) .anil)))) .anil)))))
  (.seq (.ifs (.cmp .eq (.call 50 (.acons (.var 0) (.acons (.cst (.int 2)) .anil))) (.cst (.int 0)))
 (.seq (.asg (.nm 7) (.call 197 (.acons (.var 7) .anil)))
  .skip)
 .skip)
  (.seq (.asg (.nm 6) (.blt .tuple (.acons (.comp [4] (.nm 4) (.itSeq (.bor 2)) (.cst (.bl true)) (.call 22 (.acons (.var 7) (.acons (.var 4) .anil)))) .anil)))
  .skip)))
 (.seq (.asg (.nm 8) (.comp [9] (.nm 9) (.itR1 (.bin .add (.cst (.int 1)) (.call 50 (.acons (.var 0) (.acons (.cst (.int 3)) .anil))))) (.cst (.bl true)) (.call 101 (.acons (.var 0) (.acons (.var 1) .anil)))))
  (.seq (.asg (.nm 6) (.blt .tuple (.acons (.comp [4] (.nm 4) (.itSeq (.bor 2)) (.cst (.bl true)) (.call 142 (.acons (.var 8) (.acons (.var 4) .anil)))) .anil)))
  .skip)))
  .skip))
  (.seq (.ifs (.cmp .eq (.call 50 (.acons (.var 0) (.acons (.cst (.int 3)) .anil))) (.cst (.int 0)))
 (.seq (.asg (.nm 10) (.call 50 (.acons (.var 0) (.acons (.blt .len (.acons (.bor 2) .anil)) .anil))))
  (.seq (.asg (.nm 6) (.bin .add (.bin .add (.slc (.bor 6) (.cst .non) (.bor 10)) (.tup (.acons (.call 155 (.acons (.var 0) (.acons (.idx (.bor 2) (.bor 10)) .anil))) .anil))) (.slc (.bor 6) (.bin .add (.bor 10) (.cst (.int 1))) (.cst .non))))
  .skip))
 .skip)
  (.seq (.ret (.var 6))
  .skip))))))
def fs__law_table : List (Nat × Str) := [(112, "_law_menus"), (50, "_law_draw"), (155, "_law_random_picks"), (158, "_law_ranks"), (94, "_law_least"), (15, "_law_beats"), (197, "_law_steps"), (22, "_law_best"), (101, "_law_line"), (142, "_law_picks_of_lines")]
def cs__law_table : List (Str × D) := []
theorem wp__law_table (sp : Nat → Spec) (xe : Nat → Nat → Prop) (h__law_menus : sp 112 = sp__law_menus) (h_draw : sp 50 = sp_draw) (h__law_random_picks : sp 155 = sp__law_random_picks) (h__law_ranks : sp 158 = sp__law_ranks) (h__law_least : sp 94 = sp__law_least) (h__law_beats : sp 15 = sp__law_beats) (h__law_steps : sp 197 = sp__law_steps) (h__law_best : sp 22 = sp__law_best) (h__law_line : sp 101 = sp__law_line) (h__law_picks_of_lines : sp 142 = sp__law_picks_of_lines) : ∀ ds dr Q, sp__law_table ds dr Q (fun _ _ => False) → wpF ⟨sp, xe⟩ nm__law_table.length ir__law_table ds dr Q := by
  intro ds dr Q h
  unfold sp__law_table at h
  obtain ⟨C, hC⟩ : ∃ C : PC, C = ⟨sp, xe⟩ := ⟨_, rfl⟩
  rw [← hC]
  have h__law_menus : C.sp 112 = sp__law_menus := by rw [hC]; exact h__law_menus
  have h_draw : C.sp 50 = sp_draw := by rw [hC]; exact h_draw
  have h__law_random_picks : C.sp 155 = sp__law_random_picks := by rw [hC]; exact h__law_random_picks
  have h__law_ranks : C.sp 158 = sp__law_ranks := by rw [hC]; exact h__law_ranks
  have h__law_least : C.sp 94 = sp__law_least := by rw [hC]; exact h__law_least
  have h__law_beats : C.sp 15 = sp__law_beats := by rw [hC]; exact h__law_beats
  have h__law_steps : C.sp 197 = sp__law_steps := by rw [hC]; exact h__law_steps
  have h__law_best : C.sp 22 = sp__law_best := by rw [hC]; exact h__law_best
  have h__law_line : C.sp 101 = sp__law_line := by rw [hC]; exact h__law_line
  have h__law_picks_of_lines : C.sp 142 = sp__law_picks_of_lines := by rw [hC]; exact h__law_picks_of_lines
  obtain ⟨n, rfl, h1, h6, hdr, hq⟩ := h
  have sz := sizeLine_eq
  have ml : (menusL n).length ≤ 63 := by
    rw [menusL_len]
    have : 2 ^ n ≤ 2 ^ 6 := Nat.pow_le_pow_right (by decide) h6
    omega
  have mp : 0 < (menusL n).length := by
    rw [menusL_len]
    have : 2 ^ 1 ≤ 2 ^ n := Nat.pow_le_pow_right (by decide) h1
    omega
  show wpS C ir__law_table ⟨[.val .pool, .val (enc n), .no, .no, .no, .no, .no, .no, .no, .no, .no], dr⟩ ⟨fun ρ => Q (.val .non) ρ.dr, Q, fun _ => False, fun _ => False⟩
  unfold ir__law_table
  refine' hs_asg (r := .own ((menusL n).map enc)) ?e0 sl_own ?b0
  case' e0 => walk_at "ev"
  refine hs_asgW (wp_draw (m := 7) (by assumption) (ρ1 := ⟨[.val .pool, .val (enc n), .own ((menusL n).map enc), .no, .no, .no, .no, .no, .no, .no, .no], dr⟩) (eva_F (ev_var rfl) kp_val (eva_F ev_cst kp_val eva_nil)) (by decide) (by show dr < _; omega) fun way hway => ?_)
  -- the last part
  have tail : ∀ (t : List (List Nat)) (m : Nat) (z3 z5 z7 z8 z10 : SV), GoodTab n t → m ≤ dr + 9000 → wpS C (.seq (.ifs (.cmp .eq (.call 50 (.acons (.var 0) (.acons (.cst (.int 3)) .anil))) (.cst (.int 0)))
 (.seq (.asg (.nm 10) (.call 50 (.acons (.var 0) (.acons (.blt .len (.acons (.bor 2) .anil)) .anil))))
  (.seq (.asg (.nm 6) (.bin .add (.bin .add (.slc (.bor 6) (.cst .non) (.bor 10)) (.tup (.acons (.call 155 (.acons (.var 0) (.acons (.idx (.bor 2) (.bor 10)) .anil))) .anil))) (.slc (.bor 6) (.bin .add (.bor 10) (.cst (.int 1))) (.cst .non))))
  .skip))
 .skip)
  (.seq (.ret (.var 6))
  .skip)) ⟨[.val .pool, .val (enc n), .own ((menusL n).map enc), z3, .no, z5, .val (enc t), z7, z8, .no, z10], m⟩ ⟨fun ρ => Q (.val .non) ρ.dr, Q, fun _ => False, fun _ => False⟩ := fun t m z3 z5 z7 z8 z10 ht hm => by
    refine hs_ifsW (wp_cmp ?_)
    refine wp_draw (m := 3) (by assumption) (ρ1 := ⟨[.val .pool, .val (enc n), .own ((menusL n).map enc), z3, .no, z5, .val (enc t), z7, z8, .no, z10], m⟩) (eva_F (ev_var rfl) kp_val (eva_F ev_cst kp_val eva_nil)) (by decide) (by show m < _; omega) fun v hv => ?_
    refine ev_cst _ ⟨_, rfl, fun _ => ?_, fun _ => ?_⟩
    · refine hs_assoc (hs_asgW (wp_draw (m := (menusL n).length) (by assumption) (ρ1 := ⟨[.val .pool, .val (enc n), .own ((menusL n).map enc), z3, .no, z5, .val (enc t), z7, z8, .no, z10], m + 1⟩) ?ea mp (by show m + 1 < _; omega) fun k hk => ?_))
      case' ea => walk_at "ea"
      have tl : t.length = (menusL n).length := ht.1
      have mem : (menusL n).getD k default ∈ menusL n := by rw [List.getD_eq_getElem?_getD, List.getElem?_eq_getElem hk]; exact List.getElem_mem hk
      refine hs_assoc (hs_asgW (wp_bin (wp_bin ?_)))
      refine ev_slcT (s := .val (.int (k : Nat))) rfl (ev_bor rfl) (ev_bor rfl) rfl slc_T _ ?_
      refine wp_tup (wp_aF (wp_call h__law_random_picks (ds := [.pool, enc ((menusL n).getD k default)]) (eva_F (ev_var rfl) kp_val (eva_F (ev_idx (ev_borO rfl) (ev_bor rfl) (idx_L hk)) kp_val eva_nil)) ?_))
      have ml2 := menu_len mem
      unfold sp__law_random_picks
      refine ⟨_, rfl, menu_ne mem, by omega, by show m + 1 + 1 + _ + 1 < _; omega, fun rs dr' r1 r2 r3 => ?_⟩
      have r3 : dr' ≤ m + 1 + 1 + ((menusL n).getD k default).length + 1 := r3
      refine kp_val _ (wp_a0 ⟨show 1 ≤ sizeLine by decide, ?_⟩)
      rw [cut_take]
      refine bin_addT1 (by rw [List.length_take]; omega) _ ?_
      refine ev_slcF rfl (ev_bor rfl) (ev_bin (ev_bor rfl) ev_cst bin_add) rfl slc_T _ ?_
      rw [cut_from1]
      refine bin_addT (by simp; omega) _ ?_
      refine hs_skip (hs_ret (ev_var rfl) ?_)
      exact hq _ _ (good_set ht hk ⟨r2, r1⟩) (by show dr' ≤ _; omega)
    · refine hs_skip (hs_ret (ev_var rfl) ?_)
      exact hq _ _ ht (by show m + 1 ≤ _; omega)
  refine' hs_ifs (k := decide (way = 0)) ?c1 (fun _ => ?y1) (fun _ => ?n1)
  case' c1 => walk_at "ev"
  case' y1 =>
    refine hs_assoc (hs_retW (wp_blt (wp_aT ?_)))
    refine wp_compD (xs := menusL n) (f := enc) (c := 8) (β := List Nat) (sl := [.val .pool, .val (enc n), .own ((menusL n).map enc), .val (.int (way : Nat)), .no, .no, .no, .no, .no, .no, .no]) (dr := dr + 1) (T := fun x m => ⟨[.val .pool, .val (enc n), .own ((menusL n).map enc), .val (.int (way : Nat)), .val (enc x), .no, .no, .no, .no, .no, .no], m⟩) (fun m p => p.Sublist m ∧ p ≠ []) rfl ?ei rfl (fun _ => rfl) (fun _ _ => tg_nm) (fun x hx m hm Q' q' => ?_) (fun ys m hE hm => ?_)
    case' ei => walk_at "ei"
    · have l1 := menu_len hx
      refine wp_call h__law_random_picks (ds := [.pool, enc x]) (eva_F (ev_var rfl) kp_val (eva_F (ev_var rfl) kp_val eva_nil)) ?_
      unfold sp__law_random_picks
      refine ⟨x, rfl, menu_ne hx, by omega, by show m + x.length + 1 < _; omega, fun rs dr' r1 r2 r3 => ?_⟩
      have r3 : dr' ≤ m + x.length + 1 := r3
      exact q' rs _ _ kp_val ⟨r2, r1⟩ ⟨dr', by omega, rfl⟩
    · refine wp_a0 ?_
      exact hq ys m hE (by omega)
  case' n1 =>
    refine' hs_skip (hs_ifs (k := decide (way < 3)) ?c2 (fun _ => ?y2) (fun _ => ?n2))
    case' c2 => walk_at "ev"
    case' y2 =>
      refine hs_assoc (hs_asgW (wp_call h__law_ranks (ds := [.pool, enc n]) (eva_F (ev_var rfl) kp_val (eva_F (ev_var rfl) kp_val eva_nil)) ?_))
      unfold sp__law_ranks
      refine ⟨n, rfl, by omega, by omega, by show dr + 1 + n < _; omega, fun rk m hrk hm => ?_⟩
      have hm : m ≤ dr + 1 + n := hm
      refine hs_assoc ?_
      refine' hs_asg (r := .val (enc ((menusL n).map (leastN rk)))) ?e3 sl_val ?b3
      case' e3 =>
        walk_at "ev"
        rename_i x hx
        exact ⟨menu_ne hx, fun w hw => by rw [hrk.1]; exact menu_lt hx w hw⟩
      case' b3 => exact hs_skip (tail _ m _ _ _ _ _ (goodMap _ fun x hx => ⟨List.filter_sublist, leastN_ne (menu_ne hx)⟩) (by omega))
    case' n2 =>
      refine' hs_assoc (hs_ifs (k := decide (way < 5)) ?c4 (fun _ => ?y4) (fun _ => ?n4))
      case' c4 => walk_at "ev"
      case' y4 =>
        have fin : ∀ (l : List Nat) (rel : List (Nat × Nat)) (m : Nat), Along n l rel → m ≤ dr + 5000 → wpS C (.seq (.asg (.nm 6) (.blt .tuple (.acons (.comp [4] (.nm 4) (.itSeq (.bor 2)) (.cst (.bl true)) (.call 22 (.acons (.var 7) (.acons (.var 4) .anil)))) .anil)))
   (.seq (.ifs (.cmp .eq (.call 50 (.acons (.var 0) (.acons (.cst (.int 3)) .anil))) (.cst (.int 0)))
 (.seq (.asg (.nm 10) (.call 50 (.acons (.var 0) (.acons (.blt .len (.acons (.bor 2) .anil)) .anil))))
  (.seq (.asg (.nm 6) (.bin .add (.bin .add (.slc (.bor 6) (.cst .non) (.bor 10)) (.tup (.acons (.call 155 (.acons (.var 0) (.acons (.idx (.bor 2) (.bor 10)) .anil))) .anil))) (.slc (.bor 6) (.bin .add (.bor 10) (.cst (.int 1))) (.cst .non))))
  .skip))
 .skip)
  (.seq (.ret (.var 6))
  .skip))) ⟨[.val .pool, .val (enc n), .own ((menusL n).map enc), .val (.int (way : Nat)), .no, .no, .no, .val (enc rel), .no, .no, .no], m⟩ ⟨fun ρ => Q (.val .non) ρ.dr, Q, fun _ => False, fun _ => False⟩ := fun l rel m ha hm => by
          refine' hs_asg (r := .val (enc ((menusL n).map (bestN rel)))) ?e5 sl_val ?b5
          case' e5 => walk_at "ev"
          case' b5 => exact tail _ m _ _ _ _ _ (goodMap _ fun x hx => ⟨List.filter_sublist, bestN_ne ha (menu_ne hx)⟩) (by omega)
        refine hs_assoc (hs_assoc (hs_asgW (wp_callA ?_)))
        refine (wp_aF (wp_ev (ev_var rfl) (kp_val _ (wp_aF (wp_ev (ev_var rfl) (kp_val _ (wp_aF (wp_bin (wp_ev ev_cst ?_)))))))))
        refine wp_draw (m := 2) (by assumption) (ρ1 := ⟨[.val .pool, .val (enc n), .own ((menusL n).map enc), .val (.int (way : Nat)), .no, .no, .no, .no, .no, .no, .no], dr + 1⟩) (eva_F (ev_var rfl) kp_val (eva_F ev_cst kp_val eva_nil)) (by decide) (by show dr + 1 < _; omega) fun v hv => ?_
        have e2 : (2 : Int) + (v : Nat) = ((2 + v : Nat) : Int) := by omega
        refine bin_add _ ?_
        refine kp_val _ (wp_a0 ?_)
        rw [h__law_beats, e2]
        unfold sp__law_beats
        refine ⟨n, 2 + v, rfl, by omega, by omega, by show dr + 1 + 1 + 1000 < _; omega, fun l rel m ha hs hm => ?_⟩
        have hm : m ≤ dr + 1 + 1 + 1000 := hm
        refine hs_assoc (hs_ifsW (wp_cmp ?_))
        refine wp_draw (m := 2) (by assumption) (ρ1 := ⟨[.val .pool, .val (enc n), .own ((menusL n).map enc), .val (.int (way : Nat)), .no, .no, .no, .val (enc rel), .no, .no, .no], m⟩) (eva_F (ev_var rfl) kp_val (eva_F ev_cst kp_val eva_nil)) (by decide) (by show m < _; omega) fun v2 hv2 => ?_
        refine ev_cst _ ⟨_, rfl, fun _ => ?_, fun _ => ?_⟩
        · refine hs_assoc (hs_asgW (wp_call h__law_steps (ds := [enc rel]) (eva_F (ev_var rfl) kp_val eva_nil) ?_))
          unfold sp__law_steps
          have nd : rel.Nodup := hs.imp fun {a b} h e => by subst e; rw [Od.lin.ir] at h; cases h
          refine ⟨n, l, rel, rfl, by omega, ha, nd, fun out ho _ => ?_⟩
          exact fin l out _ ho (by show m + 1 ≤ _; omega)
        · exact fin l rel _ ha (by show m + 1 ≤ _; omega)
      case' n4 =>
        refine hs_assoc (hs_assoc (hs_asgW ?_))
        refine ⟨rfl, wp_bin (wp_ev ev_cst (wp_draw (m := 3) (by assumption) (ρ1 := ⟨[.val .pool, .val (enc n), .own ((menusL n).map enc), .val (.int (way : Nat)), .no, .no, .no, .no, .no, .no, .no], dr + 1⟩) (eva_F (ev_var rfl) kp_val (eva_F ev_cst kp_val eva_nil)) (by decide) (by show dr + 1 < _; omega) fun v hv => ?_))⟩
        refine ⟨(1 + v : Nat), by show D.int (1 + (v : Int)) = _; rw [show (1 + (v : Int)) = ((1 + v : Nat) : Int) by omega], ⟨by omega, by omega⟩, ?_⟩
        rw [rng_map]
        refine compL_D (xs := List.range (1 + v)) (f := enc) (c := n) (β := List Nat) (sl0 := [.val .pool, .val (enc n), .own ((menusL n).map enc), .val (.int (way : Nat)), .no, .no, .no, .no, .no, .no, .no]) (dr := dr + 1 + 1) (T := fun x m => ⟨[.val .pool, .val (enc n), .own ((menusL n).map enc), .val (.int (way : Nat)), .no, .no, .no, .no, .no, .val (enc x), .no], m⟩) (fun _ l => IsLine n l) (by rw [List.length_range]; omega) (fun _ _ => tg_nm) (fun x hx m hm Q' q' => ?_) (fun lines m hE hm => ?_)
        · rw [List.length_range] at hm
          have : n * (1 + v) ≤ 6 * 3 := Nat.mul_le_mul h6 (by omega)
          refine wp_call h__law_line (ds := [.pool, enc n]) (eva_F (ev_var rfl) kp_val (eva_F (ev_var rfl) kp_val eva_nil)) ?_
          unfold sp__law_line
          refine ⟨n, rfl, by omega, by show m + n < _; omega, fun l dr' hl hd => ?_⟩
          exact q' l _ _ kp_val hl ⟨dr', hd, rfl⟩
        · rw [List.length_range] at hm
          have : n * (1 + v) ≤ 6 * 3 := Nat.mul_le_mul h6 (by omega)
          have hl : lines.length = 1 + v := by have := hE.1; rwa [List.length_range] at this
          have meets : ∀ x ∈ menusL n, ∀ l ∈ lines, ∃ t ∈ l, t ∈ x := fun x hx l hl' => by
            obtain ⟨i, hi, e⟩ := List.getElem_of_mem hl'
            have h3 : (List.range (1 + v))[i]? = some i := by rw [List.getElem?_range (by omega)]
            exact line_meets (hE.2 i i l h3 (by rw [List.getElem?_eq_getElem hi, e])) hx
          show wpS C _ ⟨[.val .pool, .val (enc n), .own ((menusL n).map enc), .val (.int (way : Nat)), .no, .no, .no, .no, .own (lines.map enc), .no, .no], m⟩ _
          refine hs_assoc ?_
          refine hs_asgW (wp_blt (wp_aT ⟨rfl, (ev_borO (C := C) rfl) _ ⟨_, rfl, fun hz => ?_⟩⟩))
          refine compL_I (g := picksN lines) (fun ρ => ρ = ⟨[.val .pool, .val (enc n), .own ((menusL n).map enc), .val (.int (way : Nat)), .no, .no, .no, .no, .own (lines.map enc), .no, .no], m⟩ ∨ ρ = ⟨[.val .pool, .val (enc n), .own ((menusL n).map enc), .val (.int (way : Nat)), .no, .no, .no, .no, .val (enc (Ls.mk lines)), .no, .no], m⟩) (by omega) (fun x hx ρ hI => ?_) (.inl rfl) (fun ρ hI => ?_)
          · refine ⟨_, tg_nm, fun Q' q' => ?_⟩
            have vl := vl__law_picks_of_lines (lines := ⟨lines⟩) (menu := x) ⟨by show lines.length ≤ 1000; omega, meets x hx⟩
            rcases hI with rfl | rfl
            · exact ev_call h__law_picks_of_lines (eva_F (ev_varO rfl) kp_val (eva_F (ev_var rfl) kp_val eva_nil)) vl _ (q' _ _ kp_val (.inr rfl))
            · exact ev_call h__law_picks_of_lines (eva_F (ev_var rfl) kp_val (eva_F (ev_var rfl) kp_val eva_nil)) vl _ (q' _ _ kp_val (.inr rfl))
          · refine wp_a0 ?_
            have gd : GoodTab n ((menusL n).map (picksN lines)) := goodMap _ fun x hx => picksN_good (menu_asc hx) (meets x hx) (fun e => by rw [e] at hl; have hl : 0 = 1 + v := hl; omega)
            rcases hI with rfl | rfl
            · exact hs_skip (hs_skip (tail _ m _ _ _ _ _ gd (by omega)))
            · exact hs_skip (hs_skip (tail _ m _ _ _ _ _ gd (by omega)))

end PL
/-! KF -/
namespace PL
open PySem PySem.Spec PyProof.Rows L2
open En
local macro_rules | `(tactic| walk_at "side") => `(tactic| first
  | assumption | trivial | decide | omega
  | (simp only [List.length_map, List.length_range, List.length_append, List.length_cons, List.length_nil, List.length_singleton, sizeLine_eq] at *; omega)
  | (simp_all; done) | skip)
local macro_rules | `(tactic| walk_at "vl") => `(tactic| skip)
local macro_rules | `(tactic| walk_at "kp") => `(tactic| first | exact kp_val | exact kp_own | exact kp_owd)
local macro_rules | `(tactic| walk_at "as") => `(tactic| first
  | exact as_enc | exact as_N | exact as_I | exact as_B | exact as_S | exact as_T | exact as_L
  | (refine' as_T1 ?h; (case' h => walk_at "as")) | (refine' as_P ?h ?i; (case' h => walk_at "as"); (case' i => walk_at "as")) | (refine' as_ite ?h ?i; (case' h => walk_at "as"); (case' i => walk_at "as")) | exact as_D | skip)
local macro_rules | `(tactic| walk_at "op") => `(tactic| first
  | exact cmp_eqN0 | exact cmp_ltN0 | exact cmp_leN0 | exact cmp_gtN0 | exact cmp_geN0 | exact cmp_neN0 | exact cmp_eqN1 | exact cmp_ltN1 | exact cmp_leN1 | exact cmp_gtN1 | exact cmp_geN1 | exact cmp_neN1 | exact cmp_eqN2 | exact cmp_ltN2 | exact cmp_leN2 | exact cmp_gtN2 | exact cmp_geN2 | exact cmp_neN2 | exact cmp_eqN3 | exact cmp_ltN3 | exact cmp_leN3 | exact cmp_gtN3 | exact cmp_geN3 | exact cmp_neN3 | exact cmp_eqN4 | exact cmp_ltN4 | exact cmp_leN4 | exact cmp_gtN4 | exact cmp_geN4 | exact cmp_neN4 | exact cmp_eqN5 | exact cmp_ltN5 | exact cmp_leN5 | exact cmp_gtN5 | exact cmp_geN5 | exact cmp_neN5 | exact bin_addN1 | exact bin_add1N
  | exact cmp_eqN | exact cmp_neN | exact cmp_ltN | exact cmp_leN | exact cmp_gtN | exact cmp_geN | exact bin_addN
  | exact cmp_eqI | exact cmp_eqS | exact cmp_eqB | exact cmp_eqT | exact cmp_eqT1 | exact cmp_eqT0 | exact cmp_eqL | exact cmp_eqE
  | exact cmp_neI | exact cmp_neS | exact cmp_neB | exact cmp_neT | exact cmp_neL | exact cmp_neE
  | exact cmp_lt | exact cmp_le | exact cmp_gt | exact cmp_ge | exact cmp_ltT
  | exact cmp_inT | exact cmp_ninT | exact cmp_inL | exact cmp_ninL | exact cmp_inTp | exact cmp_ninTp | exact cmp_inLp | exact cmp_ninLp | exact cmp_inD | exact cmp_ninD | exact cmp_inN | exact cmp_ninN
  | exact cmp_isN | exact cmp_isnN | exact cmp_isB | exact cmp_isnB
  | exact bin_add | exact bin_sub | (refine' bin_mul ?_; walk_at "side") | (refine' bin_fdiv ?_; walk_at "side") | (refine' bin_mod ?_; walk_at "side")
  | (refine' bin_addT ?_; walk_at "side") | (refine' bin_addT1 ?_; walk_at "side") | (refine' bin_addL0 ?_; walk_at "side") | (refine' bin_addL ?_; walk_at "side") | (refine' bin_addL1 ?_; walk_at "side") | (refine' bin_repL ?_; walk_at "side")
  | (refine' idx_0T ?_; walk_at "side") | (refine' idx_0L ?_; walk_at "side") | (refine' idx_T ?_; walk_at "side") | (refine' idx_L ?_; walk_at "side") | (refine' idx_D ?h; (case' h => first | assumption | skip)) | (refine' idx_0T ?_; walk_at "side") | (refine' idx_0L ?_; walk_at "side") | (refine' idx_lastL ?_; walk_at "side") | (refine' idx_lastT ?_; walk_at "side")
  | (refine' idx_IT ?_; walk_at "side") | (refine' idx_IL ?_; walk_at "side")
  | exact slc_T | exact slc_L | exact rev_T | exact rev_L
  | exact tru_B | exact tru_I | exact tru_N | exact tru_T | exact tru_L
  | exact blt_lenT | exact blt_lenL | exact blt_lenD | exact blt_lenTr | exact blt_lenLr | exact blt_intI | exact blt_intB | exact blt_tupL | exact blt_tupT | (refine' blt_tupR ?_; walk_at "side")
  | exact blt_lstL | exact blt_lstT | exact blt_lstD | (refine' blt_lstR ?_; walk_at "side") | (refine' blt_rngN ?_; walk_at "side") | (refine' blt_rng1 ?_; walk_at "side")
  | exact blt_srtL | exact blt_srtT | exact blt_srtD | exact blt_srtP
  | (refine' blt_minLN ?_; walk_at "side") | (refine' blt_maxLN ?_; walk_at "side") | (refine' blt_minTN ?_; walk_at "side") | (refine' blt_maxTN ?_; walk_at "side")
  | (refine' blt_minL ?_; walk_at "side") | (refine' blt_maxL ?_; walk_at "side") | (refine' blt_minT ?_; walk_at "side") | (refine' blt_maxT ?_; walk_at "side")
  | exact blt_sumLN | exact blt_sumL | exact blt_any | exact blt_all | exact blt_abs | exact blt_min2 | exact blt_max2
  | (refine' mth_ixT ?_; walk_at "side") | (refine' mth_ixL ?_; walk_at "side")
  | exact itm_tup | exact itm_lst | exact itm_dct | (refine' itm_rng ?_; walk_at "side")
  | exact sq_tup | exact sq_lst
  | skip)
local macro_rules | `(tactic| walk_at "tg") => `(tactic| first | exact fun _ => tg_nm | exact fun _ => tg_tp2 | exact fun _ => tg_tp3 | exact fun _ => tg_tp1 | skip)
local macro_rules | `(tactic| walk_at "ek") => `(tactic| first
  | (refine' evk_gen ?e ?k; (case' e => walk_at "ev"); (case' k => first | exact kpa_own | (refine' kpa_val ?h; (case' h => walk_at "as"))))
  | skip)
local macro_rules | `(tactic| walk_at "ea") => `(tactic| first
  | exact eva_nil
  | (refine' eva_T ?e ?d ?r; (case' e => walk_at "ev"); (case' d => first | rfl | skip); (case' r => walk_at "ea"))
  | (refine' eva_F ?e ?d ?r; (case' e => walk_at "ev"); (case' d => first | walk_at "kp" | skip); (case' r => walk_at "ea"))
  | skip)
local macro_rules | `(tactic| walk_at "ei") => `(tactic| first
  | (refine' evi_r1 ?e ?h ?z; (case' e => walk_at "ev"); (case' h => first | rfl | skip); (case' z => walk_at "side"))
  | (refine' evi_r21 ?e ?e2 ?h ?h2 ?z; (case' e => walk_at "ev"); (case' e2 => walk_at "ev"); (case' h => rfl); (case' h2 => rfl); (case' z => walk_at "side"))
  | (refine' evi_r2 ?e ?e2 ?h ?h2 ?z ?z2; (case' e => walk_at "ev"); (case' e2 => walk_at "ev"); (case' h => first | rfl | skip); (case' h2 => first | rfl | skip); (case' z => walk_at "side"); (case' z2 => walk_at "side"))
  | (refine' evi_T ?e ?h; (case' e => walk_at "ev"); (case' h => walk_at "op"))
  | (refine' evi_F ?e ?k ?h; (case' e => walk_at "ev"); (case' k => first | walk_at "kp" | skip); (case' h => walk_at "op"))
  | (refine' evi_zipT ?e ?e2 ?h ?h2; (case' e => walk_at "ev"); (case' e2 => walk_at "ev"); (case' h => walk_at "op"); (case' h2 => walk_at "op"))
  | (refine' evi_zipF ?e ?k ?e2 ?k2 ?h ?h2; (case' e => walk_at "ev"); (case' k => walk_at "kp"); (case' e2 => walk_at "ev"); (case' k2 => walk_at "kp"); (case' h => walk_at "op"); (case' h2 => walk_at "op"))
  | (refine' evi_zip3T ?e ?e2 ?e3 ?h ?h2 ?h3; (case' e => walk_at "ev"); (case' e2 => walk_at "ev"); (case' e3 => walk_at "ev"); (case' h => walk_at "op"); (case' h2 => walk_at "op"); (case' h3 => walk_at "op"))
  | (refine' evi_enumT ?e ?h; (case' e => walk_at "ev"); (case' h => walk_at "op"))
  | (refine' evi_itemsT ?e ?h; (case' e => walk_at "ev"); (case' h => first | rfl | skip))
  | (refine' evi_itemsF ?e ?k ?h; (case' e => walk_at "ev"); (case' k => walk_at "kp"); (case' h => first | rfl | skip))
  | skip)
local macro_rules | `(tactic| walk_at "ev") => `(tactic| first
  | exact ev_cst
  | exact ev_bor rfl | exact ev_borO rfl | exact ev_borD rfl
  | exact ev_var rfl | exact ev_varO rfl | exact ev_varD rfl
  | (refine' ev_bin ?a ?b ?o; (case' a => walk_at "ev"); (case' b => walk_at "ev"); (case' o => walk_at "op"))
  | (refine' ev_cmp ?a ?b ?o; (case' a => walk_at "ev"); (case' b => walk_at "ev"); (case' o => walk_at "op"))
  | (refine' ev_cmp2 ?a ?b ?o ?c ?o2; (case' a => walk_at "ev"); (case' b => walk_at "ev"); (case' o => walk_at "op"); (case' c => walk_at "ev"); (case' o2 => walk_at "op"))
  | (refine' ev_tst ?a ?o; (case' a => walk_at "ev"); (case' o => walk_at "op"))
  | (refine' ev_and ?a ?b; (case' a => walk_at "ev"); (case' b => (intro _; walk_at "ev")))
  | (refine' ev_or ?a ?b; (case' a => walk_at "ev"); (case' b => (intro _; walk_at "ev")))
  | (refine' ev_not ?a; (case' a => walk_at "ev"))
  | (refine' ev_ite ?a ?b ?c; (case' a => walk_at "ev"); (case' b => (intro _; walk_at "ev")); (case' c => (intro _; walk_at "ev")))
  | (refine' ev_idx ?a ?b ?o; (case' a => walk_at "ev"); (case' b => walk_at "ev"); (case' o => walk_at "op"))
  | (refine' ev_blt ?a ?o; (case' a => walk_at "ea"); (case' o => walk_at "op"))
  | (refine' ev_call ?h ?a ?o; (case' h => first | assumption | skip); (case' a => walk_at "ea"); (case' o => walk_at "vl"))
  | (refine' ev_tup ?a ?z; (case' a => walk_at "ea"); (case' z => walk_at "side"))
  | (refine' ev_lst ?a ?z; (case' a => walk_at "ea"); (case' z => walk_at "side"))
  | exact ev_dnew
  | (refine' ev_neg ?a ?o; (case' a => walk_at "ev"); (case' o => first | rfl | skip))
  | (refine' ev_mth ?a ?b ?o; (case' a => walk_at "ev"); (case' b => walk_at "ea"); (case' o => walk_at "op"))
  | (refine' ev_slc0 ?a ?o; (case' a => walk_at "ev"); (case' o => walk_at "op"))
  | (refine' ev_slcF rfl ?a ?b ?h ?o; (case' a => walk_at "ev"); (case' b => walk_at "ev"); (case' h => first | rfl | skip); (case' o => walk_at "op"))
  | (refine' ev_slcT rfl ?a ?b ?h ?o; (case' a => walk_at "ev"); (case' b => walk_at "ev"); (case' h => first | rfl | skip); (case' o => walk_at "op"))
  | (refine' ev_slc2 rfl rfl ?a ?b ?h ?c ?i ?o; (case' a => walk_at "ev"); (case' b => walk_at "ev"); (case' h => first | rfl | skip); (case' c => walk_at "ev"); (case' i => first | rfl | skip); (case' o => walk_at "op"))
  | (refine' ev_rev ?a ?o; (case' a => walk_at "ev"); (case' o => walk_at "op"))
  | (refine' ev_isi ?a ?t ?b; (case' a => walk_at "ev"); (case' t => first | rfl | skip); (case' b => first | rfl | skip))
  | (refine' ev_compI rfl ?hi ?ht ?he ?hw ?hb ?hc; (case' hi => walk_at "ei"); (case' ht => exact fun _ => tg_nm); (case' he => exact fun _ => rfl); (case' hw => exact fun _ => rfl); (case' hb => rfl); (case' hc => (intro _ _; walk_at "ev")))
  | (refine' ev_compA rfl ?hi ?ht ?hw ?hb ?he; (case' hi => walk_at "ei"); (case' ht => walk_at "tg"); (case' hw => exact fun _ => rfl); (case' hb => rfl); (case' he => (intro _ _; walk_at "ek")))
  | (refine' ev_compAG rfl ?hi ?ht ?hw ?hb ?he; (case' hi => walk_at "ei"); (case' ht => walk_at "tg"); (case' hw => exact fun _ => rfl); (case' hb => rfl); (case' he => (intro _ _; walk_at "ek")))
  | (refine' ev_comp rfl ?hi ?ht ?hw ?hb ?hc ?he; (case' hi => walk_at "ei"); (case' ht => walk_at "tg"); (case' hw => exact fun _ => rfl); (case' hb => rfl); (case' hc => (intro _ _; walk_at "ev")); (case' he => (intro _ _ _; walk_at "ek")))
  | (refine' ev_compG rfl ?hi ?ht ?hw ?hb ?hc ?he; (case' hi => walk_at "ei"); (case' ht => walk_at "tg"); (case' hw => exact fun _ => rfl); (case' hb => rfl); (case' hc => (intro _ _; walk_at "ev")); (case' he => (intro _ _ _; walk_at "ek")))
  | (refine' ev_dcompA ?i1 ?i2 ?i3 rfl ?hi ?ht ?hw ?hb ?he ?hv ?hd; (case' hi => walk_at "ei"); (case' ht => walk_at "tg"); (case' hw => exact fun _ => rfl); (case' hb => rfl); (case' he => (intro _ _; walk_at "ek")); (case' hv => (intro _ _; walk_at "ek")); (case' i1 => infer_instance); (case' i2 => infer_instance); (case' i3 => infer_instance); (case' hd => decide))
  | skip)
local macro_rules | `(tactic| walk_at "st") => `(tactic| first
  | (refine' rt_seqR (rt_ret ?e ?d ?q); (case' e => walk_at "ev"); (case' d => rfl))
  | (refine' rt_ret ?e ?d ?q; (case' e => walk_at "ev"); (case' d => rfl))
  | (refine' rt_asg ?e ?s ?b; (case' e => walk_at "ev"); (case' s => first | exact sl_val | exact sl_own | exact sl_owd | skip); (case' b => walk_at "st"))
  | (refine' rt_asgT ?e ?s ?t ?b; (case' e => walk_at "ev"); (case' s => walk_at "kp"); (case' t => first | exact tg_tp2 | exact tg_tp3 | exact tg_tp4 | skip); (case' b => walk_at "st"))
  | (refine' rt_ifs ?e ?a ?b; (case' e => walk_at "ev"); (case' a => (intro _; walk_at "st")); (case' b => (intro _; walk_at "st")))
  | (refine' rt_app rfl ?e ?x ?z ?b; (case' e => walk_at "ek"); (case' x => rfl); (case' z => walk_at "side"); (case' b => walk_at "st"))
  | (refine' rt_asgL ?e ?p ?k ?j ?x ?l ?b; (case' e => walk_at "ek"); (case' p => rfl); (case' k => walk_at "ev"); (case' j => first | rfl | skip); (case' x => rfl); (case' l => walk_at "side"); (case' b => walk_at "st"))
  | (refine' rt_aug rfl ?e ?y ?b; (case' e => walk_at "ev"); (case' y => first | rfl | skip); (case' b => walk_at "st"))
  | (refine' rt_assoc ?_; walk_at "st")
  | (refine' rt_skip ?_; walk_at "st")
  | skip)
local macro_rules | `(tactic| walk_at "bo") => `(tactic| first
  | (refine' bo_asg ?e ?s ?b; (case' e => walk_at "ev"); (case' s => first | exact sl_val | exact sl_own | exact sl_owd | skip); (case' b => walk_at "bo"))
  | (refine' bo_asgT ?e ?s ?t ?b; (case' e => walk_at "ev"); (case' s => walk_at "kp"); (case' t => first | exact tg_tp2 | exact tg_tp3 | exact tg_tp4 | skip); (case' b => walk_at "bo"))
  | (refine' bo_app rfl ?e ?x ?z ?b; (case' e => walk_at "ek"); (case' x => rfl); (case' z => walk_at "side"); (case' b => walk_at "bo"))
  | (refine' bo_asgL ?e ?p ?k ?j ?x ?l ?b; (case' e => walk_at "ek"); (case' p => rfl); (case' k => walk_at "ev"); (case' j => first | rfl | skip); (case' x => rfl); (case' l => walk_at "side"); (case' b => walk_at "bo"))
  | (refine' bo_aug rfl ?e ?y ?b; (case' e => walk_at "ev"); (case' y => first | rfl | skip); (case' b => walk_at "bo"))
  | (refine' bo_ret ?e ?d; (case' e => walk_at "ev"); (case' d => rfl))
  | (refine' bo_ifs' ?e ?a ?b; (case' e => walk_at "ev"); (case' a => (intro _; walk_at "bo")); (case' b => (intro _; walk_at "bo")))
  | (refine' bo_assoc ?_; walk_at "bo")
  | (refine' bo_sk ?_; walk_at "bo")
  | refine' bo_skip ?_ | refine' bo_seqC ?_ | refine' bo_cnt ?_
  | skip)
local macro_rules | `(tactic| walk_at "bof") => `(tactic| first
  | (refine' bo_asg ?e ?s ?b; (case' e => walk_at "ev"); (case' s => first | exact sl_val | exact sl_own | exact sl_owd | skip); (case' b => walk_at "bof"))
  | (refine' bo_asgT ?e ?s ?t ?b; (case' e => walk_at "ev"); (case' s => walk_at "kp"); (case' t => first | exact tg_tp2 | exact tg_tp3 | exact tg_tp4 | skip); (case' b => walk_at "bof"))
  | (refine' bo_ret ?e ?d; (case' e => walk_at "ev"); (case' d => rfl))
  | (refine' bo_ifs ?e ?a ?b; (case' e => walk_at "ev"); (case' a => (intro _; walk_at "bof")); (case' b => (intro _; walk_at "bof")))
  | (refine' bo_assoc ?_; walk_at "bof")
  | (refine' bo_sk ?_; walk_at "bof")
  | refine' bo_skip ?_ | refine' bo_seqC ?_ | refine' bo_cnt ?_
  | skip)
local macro_rules | `(tactic| walk_at "vl") => `(tactic| (refine' vl_is_integer ?_; walk_at "side"))
local macro_rules | `(tactic| walk_at "vl") => `(tactic| (refine' vl_is_number ?_; walk_at "side"))
local macro_rules | `(tactic| walk_at "vl") => `(tactic| (refine' vl_is_tuple ?_; walk_at "side"))
local macro_rules | `(tactic| walk_at "vl") => `(tactic| (refine' vl_is_tagged ?_; walk_at "side"))
local macro_rules | `(tactic| walk_at "vl") => `(tactic| (refine' vl_is_between ?_; walk_at "side"))
local macro_rules | `(tactic| walk_at "vl") => `(tactic| (refine' vl_are_integers ?_; walk_at "side"))
local macro_rules | `(tactic| walk_at "vl") => `(tactic| (refine' vl_is_ascending ?_; walk_at "side"))
local macro_rules | `(tactic| walk_at "vl") => `(tactic| (refine' vl_are_numbers ?_; walk_at "side"))
local macro_rules | `(tactic| walk_at "vl") => `(tactic| (refine' vl_is_menu ?_; walk_at "side"))
local macro_rules | `(tactic| walk_at "vl") => `(tactic| (refine' vl_subsets_of ?_; walk_at "side"))
local macro_rules | `(tactic| walk_at "vl") => `(tactic| (refine' vl_menus ?_; walk_at "side"))
local macro_rules | `(tactic| walk_at "vl") => `(tactic| (refine' vl_things_of ?_; walk_at "side"))
local macro_rules | `(tactic| walk_at "vl") => `(tactic| (refine' vl_by_menus ?_; walk_at "side"))
local macro_rules | `(tactic| walk_at "vl") => `(tactic| (refine' vl_picks ?_; walk_at "side"))
local macro_rules | `(tactic| walk_at "vl") => `(tactic| (refine' vl__law_kind ?_; walk_at "side"))
local macro_rules | `(tactic| walk_at "vl") => `(tactic| exact vl__law_is)
local macro_rules | `(tactic| walk_at "vl") => `(tactic| (refine' vl__law_int ?_; walk_at "side"))
local macro_rules | `(tactic| walk_at "vl") => `(tactic| (refine' vl__law_ints ?_; walk_at "side"))
local macro_rules | `(tactic| walk_at "vl") => `(tactic| (refine' vl__law_up ?_; walk_at "side"))
local macro_rules | `(tactic| walk_at "vl") => `(tactic| (refine' vl__law_set ?_; walk_at "side"))
local macro_rules | `(tactic| walk_at "vl") => `(tactic| (refine' vl__law_menus ?_; walk_at "side"))
local macro_rules | `(tactic| walk_at "vl") => `(tactic| exact vl__law_in)
local macro_rules | `(tactic| walk_at "vl") => `(tactic| exact vl__law_both)
local macro_rules | `(tactic| walk_at "vl") => `(tactic| (refine' vl__law_least ?_; walk_at "side"))
local macro_rules | `(tactic| walk_at "vl") => `(tactic| exact vl__law_best)
local macro_rules | `(tactic| walk_at "vl") => `(tactic| (refine' vl__law_first ?_; walk_at "side"))
local macro_rules | `(tactic| walk_at "vl") => `(tactic| (refine' vl__law_tidy ?_; walk_at "side"))
local macro_rules | `(tactic| walk_at "vl") => `(tactic| (refine' vl__law_picks_of_lines ?_; walk_at "side"))
/-! _law_equal of two that are the same -/
/-- data that _law_equal goes through; L: how deep -/
def okQ : Nat → D → Prop
  | 0, x => (match x with | .int _ => True | .bl _ => True | .str _ => True | .non => True | _ => False)
  | L + 1, x => (match x with | .int _ => True | .bl _ => True | .str _ => True | .non => True | .tup xs => xs.length ≤ 1000000 ∧ ∀ d ∈ xs, okQ L d | .lst xs => xs.length ≤ 1000000 ∧ ∀ d ∈ xs, okQ L d | _ => False)
@[irreducible] def sp__law_equal (L : Nat) : Spec := fun ds dr Q _ => ∃ x, ds = [x, x] ∧ okQ L x ∧ Q (.val (.bl true)) dr
theorem okQ_ty {L : Nat} {x : D} (h : okQ L x) : hasTy x = true ∧ kindD x ≠ 0 := by
  cases L <;> cases x <;> first | exact h.elim | exact ⟨rfl, show (6 : Int) ≠ 0 by decide⟩ | exact ⟨rfl, show (1 : Int) ≠ 0 by decide⟩ | exact ⟨rfl, show (2 : Int) ≠ 0 by decide⟩ | exact ⟨rfl, show (3 : Int) ≠ 0 by decide⟩ | exact ⟨rfl, show (4 : Int) ≠ 0 by decide⟩ | exact ⟨rfl, show (5 : Int) ≠ 0 by decide⟩
def nm__law_equal : List Str := ["x", "due", "k"]
def ir__law_equal : IS :=
(.seq (.ifs (.or (.cmp .ne (.call 91 (.acons (.var 0) .anil)) (.call 91 (.acons (.var 1) .anil))) (.cmp .eq (.call 91 (.acons (.var 0) .anil)) (.cst (.int 0))))
 (.seq (.ret (.cst (.bl false)))
  .skip)
 .skip)
  (.seq (.ifs (.or (.tst (.isi (.bor 1) .tuple)) (.tst (.isi (.bor 1) .list)))
 (.seq (.ifs (.cmp .ne (.blt .len (.acons (.bor 0) .anil)) (.blt .len (.acons (.bor 1) .anil)))
 (.seq (.ret (.cst (.bl false)))
  .skip)
 .skip)
  (.seq (.fr (.nm 2) (.itR1 (.blt .len (.acons (.bor 1) .anil)))
 (.seq (.ifs (.not (.tst (.call 52 (.acons (.idx (.bor 0) (.bor 2)) (.acons (.idx (.bor 1) (.bor 2)) .anil)))))
 (.seq (.ret (.cst (.bl false)))
  .skip)
 .skip)
  .skip))
  (.seq (.ret (.cst (.bl true)))
  .skip)))
 .skip)
  (.seq (.ret (.cmp .eq (.bor 0) (.bor 1)))
  .skip)))
def fs__law_equal : List (Nat × Str) := [(91, "_law_kind"), (52, "_law_equal")]
def cs__law_equal : List (Str × D) := []
theorem rt_equal {C : PC} {n : Nat} (L : Nat) (h__law_kind : C.sp 91 = sp__law_kind) (h : ∀ M, L = M + 1 → C.sp 52 = sp__law_equal M) (x : D) (hx : okQ L x) : Rt C ir__law_equal ⟨[.val x, .val x, .no], n⟩ n (.val (.bl true)) := by
  obtain ⟨ht, hk⟩ := okQ_ty hx
  have kc : ∀ (i : Nat) (z : SV), i < 2 → Ev C (.call 91 (.acons (.var i) .anil)) ⟨[.val x, .val x, z], n⟩ (.val (enc (kindD x))) ⟨[.val x, .val x, z], n⟩ := fun i z hi => by
    refine ev_call h__law_kind (eva_F (ev_var ?_) kp_val eva_nil) (vl__law_kind (x := x) ht)
    match i, hi with
    | 0, _ => rfl
    | 1, _ => rfl
  unfold ir__law_equal
  refine rt_ifs (k := !decide (kindD x = kindD x) || decide (kindD x = 0)) (ev_or (ev_cmp (kc 0 _ (by decide)) (kc 1 _ (by decide)) cmp_neI) fun _ => ev_cmp (kc 0 _ (by decide)) ev_cst cmp_eqI) (fun h => ?_) fun _ => ?_
  · simp [hk] at h
  refine rt_skip ?_
  have ct : Ev C (.or (.tst (.isi (.bor 1) .tuple)) (.tst (.isi (.bor 1) .list))) ⟨[.val x, .val x, .no], n⟩ (.val (.bl (isTy .tuple x || isTy .list x))) ⟨[.val x, .val x, .no], n⟩ := ev_or (ev_tst (ev_isi (ev_bor rfl) ht rfl) tru_B) fun _ => ev_tst (ev_isi (ev_bor rfl) ht rfl) tru_B
  refine rt_ifs ct (fun hs => ?_) fun hs => ?_
  · have hseq : ∃ xs M, (x = .tup xs ∨ x = .lst xs) ∧ L = M + 1 ∧ xs.length ≤ 1000000 ∧ ∀ d ∈ xs, okQ M d := by
      cases L with
      | zero => cases x <;> first | exact hx.elim | cases hs
      | succ M => cases x <;> first | exact ⟨_, M, .inl rfl, rfl, hx.1, hx.2⟩ | exact ⟨_, M, .inr rfl, rfl, hx.1, hx.2⟩ | exact hx.elim | cases hs
    obtain ⟨xs, M, hxs, hL, hz, hd⟩ := hseq
    have len : ∀ i z, i < 2 → Ev C (.blt .len (.acons (.bor i) .anil)) ⟨[.val x, .val x, z], n⟩ (.val (.int (xs.length : Nat))) ⟨[.val x, .val x, z], n⟩ := fun i z hi => by
      rcases hxs with rfl | rfl
      · refine ev_blt (eva_T (ev_bor ?_) rfl eva_nil) blt_lenTr
        match i, hi with
        | 0, _ => rfl
        | 1, _ => rfl
      · refine ev_blt (eva_T (ev_bor ?_) rfl eva_nil) blt_lenLr
        match i, hi with
        | 0, _ => rfl
        | 1, _ => rfl
    refine rt_assoc (rt_ifs (k := !decide (xs.length = xs.length)) (ev_cmp (len 0 _ (by decide)) (len 1 _ (by decide)) cmp_neN) (fun h => ?_) fun _ => rt_skip ?_)
    · simp at h
    refine rt_assoc ?_
    refine rt_all (xs := List.range xs.length) (f := enc) (p := fun _ => true) (fun ρ => ∃ z, ρ = ⟨[.val x, .val x, z], n⟩) (evi_r1 (len 1 _ (by decide)) rfl (by omega)) ⟨_, rfl⟩ ?t1 ?r1 ?r2
    case' t1 =>
      rintro k hk ρ ⟨z, rfl⟩
      have hk := List.mem_range.mp hk
      refine ⟨_, tg_nm, ?_⟩
      have ix : ∀ i, i < 2 → Ev C (.idx (.bor i) (.bor 2)) ⟨[.val x, .val x, .val (enc k)], n⟩ (.val xs[k]) ⟨[.val x, .val x, .val (enc k)], n⟩ := fun i hi => by
        have g : xs[k]? = some xs[k] := List.getElem?_eq_getElem hk
        rcases hxs with rfl | rfl
        · refine ev_idx (ev_bor ?_) (ev_bor rfl) (idx_litT (n := k) g)
          match i, hi with
          | 0, _ => rfl
          | 1, _ => rfl
        · refine ev_idx (ev_bor ?_) (ev_bor rfl) (idx_litL (n := k) g)
          match i, hi with
          | 0, _ => rfl
          | 1, _ => rfl
      refine bo_ifs' (k := !true) (ev_not (ev_tst (ev_call (h M hL) (eva_F (ix 0 (by decide)) kp_val (eva_F (ix 1 (by decide)) kp_val eva_nil)) (r := .val (.bl true)) fun dr Q xe q => ?_) tru_B)) (fun h => by cases h) fun _ => bo_sk (bo_skip ⟨_, rfl⟩)
      unfold sp__law_equal
      exact ⟨_, rfl, hd _ (List.getElem_mem hk), q⟩
    case' r1 => (intro h; simp at h)
    case' r2 =>
      rintro _ ρ ⟨z, rfl⟩
      refine rt_assoc ?_
      walk_at "st"
      rfl
  · refine rt_skip ?_
    have e : CmpR .eq x x true := by
      have t : ∀ {p : Prop} [Decidable p], p → decide p = true := fun h => decide_eq_true h
      cases L with
      | zero =>
        cases x with
        | int i => have := @cmp_eqI i i; rwa [t rfl] at this
        | bl i => have := @cmp_eqB i i; rwa [t rfl] at this
        | str i => have := @cmp_eqS i i; rwa [t rfl] at this
        | non => exact fun Q q => q
        | _ => exact hx.elim
      | succ M =>
        cases x with
        | int i => have := @cmp_eqI i i; rwa [t rfl] at this
        | bl i => have := @cmp_eqB i i; rwa [t rfl] at this
        | str i => have := @cmp_eqS i i; rwa [t rfl] at this
        | non => exact fun Q q => q
        | tup xs => cases hs
        | lst xs => cases hs
        | _ => exact hx.elim
    exact rt_seqR (rt_ret (ev_cmp (ev_bor rfl) (ev_bor rfl) e) rfl rfl)
theorem wp__law_equal (L : Nat) (sp : Nat → Spec) (xe : Nat → Nat → Prop) (h0 : sp 91 = sp__law_kind) (h1 : ∀ M, L = M + 1 → sp 52 = sp__law_equal M) : ∀ ds dr Q, sp__law_equal L ds dr Q (fun _ _ => False) → wpF ⟨sp, xe⟩ nm__law_equal.length ir__law_equal ds dr Q := by
  intro ds dr Q h
  unfold sp__law_equal at h
  obtain ⟨x, rfl, hx, hq⟩ := h
  exact wpF_of (rt_equal (C := ⟨sp, xe⟩) L h0 h1 x hx) hq
/-- _law_equal is asked -/
theorem ev_equal {C : PC} {L f : Nat} {a b : IE} {ρ ρ1 ρ2 : PEnv} {r s : RV} {x : D} (hS : C.sp f = sp__law_equal L) (ha : Ev C a ρ r ρ1) (ka : Kp r x) (hb : Ev C b ρ1 s ρ2) (kb : Kp s x) (hx : okQ L x) : Ev C (.call f (.acons a (.acons b .anil))) ρ (.val (.bl true)) ρ2 :=
  ev_call hS (eva_F ha ka (eva_F hb kb eva_nil)) fun dr Q xe q => by unfold sp__law_equal; exact ⟨x, rfl, hx, q⟩
/-- typed data is such -/
theorem okQ_N (L : Nat) (n : Nat) : okQ L (enc n) := by cases L <;> trivial
theorem okQ_I (L : Nat) (n : Int) : okQ L (enc n) := by cases L <;> trivial
theorem okQ_T {α : Type} [En α] {L : Nat} {xs : List α} (hz : xs.length ≤ 1000000) (h : ∀ x ∈ xs, okQ L (enc x)) : okQ (L + 1) (enc xs) := ⟨by rw [List.length_map]; exact hz, fun d hd => by
  obtain ⟨x, hx, rfl⟩ := List.mem_map.mp hd
  exact h x hx⟩
theorem okQ_L {α : Type} [En α] {L : Nat} {xs : List α} (hz : xs.length ≤ 1000000) (h : ∀ x ∈ xs, okQ L (enc x)) : okQ (L + 1) (.lst (xs.map enc)) := ⟨by rw [List.length_map]; exact hz, fun d hd => by
  obtain ⟨x, hx, rfl⟩ := List.mem_map.mp hd
  exact h x hx⟩
theorem okQ_P {α β : Type} [En α] [En β] {L : Nat} {p : α × β} (h1 : okQ L (enc p.1)) (h2 : okQ L (enc p.2)) : okQ (L + 1) (enc p) := ⟨by simp, fun d hd => by
  rcases List.mem_cons.mp hd with rfl | hd
  · exact h1
  · rw [List.mem_singleton.mp hd]; exact h2⟩
theorem okQ_Ns {L : Nat} {xs : List Nat} (hz : xs.length ≤ 1000000) : okQ (L + 1) (enc xs) := okQ_T hz fun x _ => okQ_N L x

end PL
/-! G02 -/
namespace PL
open PySem PySem.Spec PyProof.Rows L2
open En
local macro_rules | `(tactic| walk_at "side") => `(tactic| first
  | assumption | trivial | decide | omega
  | (simp only [List.length_map, List.length_range, List.length_append, List.length_cons, List.length_nil, List.length_singleton, sizeLine_eq] at *; omega)
  | (simp_all; done) | skip)
local macro_rules | `(tactic| walk_at "vl") => `(tactic| skip)
local macro_rules | `(tactic| walk_at "kp") => `(tactic| first | exact kp_val | exact kp_own | exact kp_owd)
local macro_rules | `(tactic| walk_at "as") => `(tactic| first
  | exact as_enc | exact as_N | exact as_I | exact as_B | exact as_S | exact as_T | exact as_L
  | (refine' as_T1 ?h; (case' h => walk_at "as")) | (refine' as_P ?h ?i; (case' h => walk_at "as"); (case' i => walk_at "as")) | (refine' as_ite ?h ?i; (case' h => walk_at "as"); (case' i => walk_at "as")) | exact as_D | skip)
local macro_rules | `(tactic| walk_at "op") => `(tactic| first
  | exact cmp_eqN0 | exact cmp_ltN0 | exact cmp_leN0 | exact cmp_gtN0 | exact cmp_geN0 | exact cmp_neN0 | exact cmp_eqN1 | exact cmp_ltN1 | exact cmp_leN1 | exact cmp_gtN1 | exact cmp_geN1 | exact cmp_neN1 | exact cmp_eqN2 | exact cmp_ltN2 | exact cmp_leN2 | exact cmp_gtN2 | exact cmp_geN2 | exact cmp_neN2 | exact cmp_eqN3 | exact cmp_ltN3 | exact cmp_leN3 | exact cmp_gtN3 | exact cmp_geN3 | exact cmp_neN3 | exact cmp_eqN4 | exact cmp_ltN4 | exact cmp_leN4 | exact cmp_gtN4 | exact cmp_geN4 | exact cmp_neN4 | exact cmp_eqN5 | exact cmp_ltN5 | exact cmp_leN5 | exact cmp_gtN5 | exact cmp_geN5 | exact cmp_neN5 | exact bin_addN1 | exact bin_add1N
  | exact cmp_eqN | exact cmp_neN | exact cmp_ltN | exact cmp_leN | exact cmp_gtN | exact cmp_geN | exact bin_addN
  | exact cmp_eqI | exact cmp_eqS | exact cmp_eqB | exact cmp_eqT | exact cmp_eqT1 | exact cmp_eqT0 | exact cmp_eqL | exact cmp_eqE
  | exact cmp_neI | exact cmp_neS | exact cmp_neB | exact cmp_neT | exact cmp_neL | exact cmp_neE
  | exact cmp_lt | exact cmp_le | exact cmp_gt | exact cmp_ge | exact cmp_ltT
  | exact cmp_inT | exact cmp_ninT | exact cmp_inL | exact cmp_ninL | exact cmp_inTp | exact cmp_ninTp | exact cmp_inLp | exact cmp_ninLp | exact cmp_inD | exact cmp_ninD | exact cmp_inN | exact cmp_ninN
  | exact cmp_isN | exact cmp_isnN | exact cmp_isB | exact cmp_isnB
  | exact bin_add | exact bin_sub | (refine' bin_mul ?_; walk_at "side") | (refine' bin_fdiv ?_; walk_at "side") | (refine' bin_mod ?_; walk_at "side")
  | (refine' bin_addT ?_; walk_at "side") | (refine' bin_addT1 ?_; walk_at "side") | (refine' bin_addL0 ?_; walk_at "side") | (refine' bin_addL ?_; walk_at "side") | (refine' bin_addL1 ?_; walk_at "side") | (refine' bin_repL ?_; walk_at "side")
  | (refine' idx_0T ?_; walk_at "side") | (refine' idx_0L ?_; walk_at "side") | (refine' idx_T ?_; walk_at "side") | (refine' idx_L ?_; walk_at "side") | (refine' idx_D ?h; (case' h => first | assumption | skip)) | (refine' idx_0T ?_; walk_at "side") | (refine' idx_0L ?_; walk_at "side") | (refine' idx_lastL ?_; walk_at "side") | (refine' idx_lastT ?_; walk_at "side")
  | (refine' idx_IT ?_; walk_at "side") | (refine' idx_IL ?_; walk_at "side")
  | exact slc_T | exact slc_L | exact rev_T | exact rev_L
  | exact tru_B | exact tru_I | exact tru_N | exact tru_T | exact tru_L
  | exact blt_lenT | exact blt_lenL | exact blt_lenD | exact blt_lenTr | exact blt_lenLr | exact blt_intI | exact blt_intB | exact blt_tupL | exact blt_tupT | (refine' blt_tupR ?_; walk_at "side")
  | exact blt_lstL | exact blt_lstT | exact blt_lstD | (refine' blt_lstR ?_; walk_at "side") | (refine' blt_rngN ?_; walk_at "side") | (refine' blt_rng1 ?_; walk_at "side")
  | exact blt_srtL | exact blt_srtT | exact blt_srtD | exact blt_srtP
  | (refine' blt_minLN ?_; walk_at "side") | (refine' blt_maxLN ?_; walk_at "side") | (refine' blt_minTN ?_; walk_at "side") | (refine' blt_maxTN ?_; walk_at "side")
  | (refine' blt_minL ?_; walk_at "side") | (refine' blt_maxL ?_; walk_at "side") | (refine' blt_minT ?_; walk_at "side") | (refine' blt_maxT ?_; walk_at "side")
  | exact blt_sumLN | exact blt_sumL | exact blt_any | exact blt_all | exact blt_abs | exact blt_min2 | exact blt_max2
  | (refine' mth_ixT ?_; walk_at "side") | (refine' mth_ixL ?_; walk_at "side")
  | exact itm_tup | exact itm_lst | exact itm_dct | (refine' itm_rng ?_; walk_at "side")
  | exact sq_tup | exact sq_lst
  | skip)
local macro_rules | `(tactic| walk_at "tg") => `(tactic| first | exact fun _ => tg_nm | exact fun _ => tg_tp2 | exact fun _ => tg_tp3 | exact fun _ => tg_tp1 | skip)
local macro_rules | `(tactic| walk_at "ek") => `(tactic| first
  | (refine' evk_gen ?e ?k; (case' e => walk_at "ev"); (case' k => first | exact kpa_own | (refine' kpa_val ?h; (case' h => walk_at "as"))))
  | skip)
local macro_rules | `(tactic| walk_at "ea") => `(tactic| first
  | exact eva_nil
  | (refine' eva_T ?e ?d ?r; (case' e => walk_at "ev"); (case' d => first | rfl | skip); (case' r => walk_at "ea"))
  | (refine' eva_F ?e ?d ?r; (case' e => walk_at "ev"); (case' d => first | walk_at "kp" | skip); (case' r => walk_at "ea"))
  | skip)
local macro_rules | `(tactic| walk_at "ei") => `(tactic| first
  | (refine' evi_r1 ?e ?h ?z; (case' e => walk_at "ev"); (case' h => first | rfl | skip); (case' z => walk_at "side"))
  | (refine' evi_r21 ?e ?e2 ?h ?h2 ?z; (case' e => walk_at "ev"); (case' e2 => walk_at "ev"); (case' h => rfl); (case' h2 => rfl); (case' z => walk_at "side"))
  | (refine' evi_r2 ?e ?e2 ?h ?h2 ?z ?z2; (case' e => walk_at "ev"); (case' e2 => walk_at "ev"); (case' h => first | rfl | skip); (case' h2 => first | rfl | skip); (case' z => walk_at "side"); (case' z2 => walk_at "side"))
  | (refine' evi_T ?e ?h; (case' e => walk_at "ev"); (case' h => walk_at "op"))
  | (refine' evi_F ?e ?k ?h; (case' e => walk_at "ev"); (case' k => first | walk_at "kp" | skip); (case' h => walk_at "op"))
  | (refine' evi_zipT ?e ?e2 ?h ?h2; (case' e => walk_at "ev"); (case' e2 => walk_at "ev"); (case' h => walk_at "op"); (case' h2 => walk_at "op"))
  | (refine' evi_zipF ?e ?k ?e2 ?k2 ?h ?h2; (case' e => walk_at "ev"); (case' k => walk_at "kp"); (case' e2 => walk_at "ev"); (case' k2 => walk_at "kp"); (case' h => walk_at "op"); (case' h2 => walk_at "op"))
  | (refine' evi_zip3T ?e ?e2 ?e3 ?h ?h2 ?h3; (case' e => walk_at "ev"); (case' e2 => walk_at "ev"); (case' e3 => walk_at "ev"); (case' h => walk_at "op"); (case' h2 => walk_at "op"); (case' h3 => walk_at "op"))
  | (refine' evi_enumT ?e ?h; (case' e => walk_at "ev"); (case' h => walk_at "op"))
  | (refine' evi_itemsT ?e ?h; (case' e => walk_at "ev"); (case' h => first | rfl | skip))
  | (refine' evi_itemsF ?e ?k ?h; (case' e => walk_at "ev"); (case' k => walk_at "kp"); (case' h => first | rfl | skip))
  | skip)
local macro_rules | `(tactic| walk_at "ev") => `(tactic| first
  | exact ev_cst
  | exact ev_bor rfl | exact ev_borO rfl | exact ev_borD rfl
  | exact ev_var rfl | exact ev_varO rfl | exact ev_varD rfl
  | (refine' ev_bin ?a ?b ?o; (case' a => walk_at "ev"); (case' b => walk_at "ev"); (case' o => walk_at "op"))
  | (refine' ev_cmp ?a ?b ?o; (case' a => walk_at "ev"); (case' b => walk_at "ev"); (case' o => walk_at "op"))
  | (refine' ev_cmp2 ?a ?b ?o ?c ?o2; (case' a => walk_at "ev"); (case' b => walk_at "ev"); (case' o => walk_at "op"); (case' c => walk_at "ev"); (case' o2 => walk_at "op"))
  | (refine' ev_tst ?a ?o; (case' a => walk_at "ev"); (case' o => walk_at "op"))
  | (refine' ev_and ?a ?b; (case' a => walk_at "ev"); (case' b => (intro _; walk_at "ev")))
  | (refine' ev_or ?a ?b; (case' a => walk_at "ev"); (case' b => (intro _; walk_at "ev")))
  | (refine' ev_not ?a; (case' a => walk_at "ev"))
  | (refine' ev_ite ?a ?b ?c; (case' a => walk_at "ev"); (case' b => (intro _; walk_at "ev")); (case' c => (intro _; walk_at "ev")))
  | (refine' ev_idx ?a ?b ?o; (case' a => walk_at "ev"); (case' b => walk_at "ev"); (case' o => walk_at "op"))
  | (refine' ev_blt ?a ?o; (case' a => walk_at "ea"); (case' o => walk_at "op"))
  | (refine' ev_call ?h ?a ?o; (case' h => first | assumption | skip); (case' a => walk_at "ea"); (case' o => walk_at "vl"))
  | (refine' ev_tup ?a ?z; (case' a => walk_at "ea"); (case' z => walk_at "side"))
  | (refine' ev_lst ?a ?z; (case' a => walk_at "ea"); (case' z => walk_at "side"))
  | exact ev_dnew
  | (refine' ev_neg ?a ?o; (case' a => walk_at "ev"); (case' o => first | rfl | skip))
  | (refine' ev_mth ?a ?b ?o; (case' a => walk_at "ev"); (case' b => walk_at "ea"); (case' o => walk_at "op"))
  | (refine' ev_slc0 ?a ?o; (case' a => walk_at "ev"); (case' o => walk_at "op"))
  | (refine' ev_slcF rfl ?a ?b ?h ?o; (case' a => walk_at "ev"); (case' b => walk_at "ev"); (case' h => first | rfl | skip); (case' o => walk_at "op"))
  | (refine' ev_slcT rfl ?a ?b ?h ?o; (case' a => walk_at "ev"); (case' b => walk_at "ev"); (case' h => first | rfl | skip); (case' o => walk_at "op"))
  | (refine' ev_slc2 rfl rfl ?a ?b ?h ?c ?i ?o; (case' a => walk_at "ev"); (case' b => walk_at "ev"); (case' h => first | rfl | skip); (case' c => walk_at "ev"); (case' i => first | rfl | skip); (case' o => walk_at "op"))
  | (refine' ev_rev ?a ?o; (case' a => walk_at "ev"); (case' o => walk_at "op"))
  | (refine' ev_isi ?a ?t ?b; (case' a => walk_at "ev"); (case' t => first | rfl | skip); (case' b => first | rfl | skip))
  | (refine' ev_compI rfl ?hi ?ht ?he ?hw ?hb ?hc; (case' hi => walk_at "ei"); (case' ht => exact fun _ => tg_nm); (case' he => exact fun _ => rfl); (case' hw => exact fun _ => rfl); (case' hb => rfl); (case' hc => (intro _ _; walk_at "ev")))
  | (refine' ev_compA rfl ?hi ?ht ?hw ?hb ?he; (case' hi => walk_at "ei"); (case' ht => walk_at "tg"); (case' hw => exact fun _ => rfl); (case' hb => rfl); (case' he => (intro _ _; walk_at "ek")))
  | (refine' ev_compAG rfl ?hi ?ht ?hw ?hb ?he; (case' hi => walk_at "ei"); (case' ht => walk_at "tg"); (case' hw => exact fun _ => rfl); (case' hb => rfl); (case' he => (intro _ _; walk_at "ek")))
  | (refine' ev_comp rfl ?hi ?ht ?hw ?hb ?hc ?he; (case' hi => walk_at "ei"); (case' ht => walk_at "tg"); (case' hw => exact fun _ => rfl); (case' hb => rfl); (case' hc => (intro _ _; walk_at "ev")); (case' he => (intro _ _ _; walk_at "ek")))
  | (refine' ev_compG rfl ?hi ?ht ?hw ?hb ?hc ?he; (case' hi => walk_at "ei"); (case' ht => walk_at "tg"); (case' hw => exact fun _ => rfl); (case' hb => rfl); (case' hc => (intro _ _; walk_at "ev")); (case' he => (intro _ _ _; walk_at "ek")))
  | (refine' ev_dcompA ?i1 ?i2 ?i3 rfl ?hi ?ht ?hw ?hb ?he ?hv ?hd; (case' hi => walk_at "ei"); (case' ht => walk_at "tg"); (case' hw => exact fun _ => rfl); (case' hb => rfl); (case' he => (intro _ _; walk_at "ek")); (case' hv => (intro _ _; walk_at "ek")); (case' i1 => infer_instance); (case' i2 => infer_instance); (case' i3 => infer_instance); (case' hd => decide))
  | skip)
local macro_rules | `(tactic| walk_at "st") => `(tactic| first
  | (refine' rt_seqR (rt_ret ?e ?d ?q); (case' e => walk_at "ev"); (case' d => rfl))
  | (refine' rt_ret ?e ?d ?q; (case' e => walk_at "ev"); (case' d => rfl))
  | (refine' rt_asg ?e ?s ?b; (case' e => walk_at "ev"); (case' s => first | exact sl_val | exact sl_own | exact sl_owd | skip); (case' b => walk_at "st"))
  | (refine' rt_asgT ?e ?s ?t ?b; (case' e => walk_at "ev"); (case' s => walk_at "kp"); (case' t => first | exact tg_tp2 | exact tg_tp3 | exact tg_tp4 | skip); (case' b => walk_at "st"))
  | (refine' rt_ifs ?e ?a ?b; (case' e => walk_at "ev"); (case' a => (intro _; walk_at "st")); (case' b => (intro _; walk_at "st")))
  | (refine' rt_app rfl ?e ?x ?z ?b; (case' e => walk_at "ek"); (case' x => rfl); (case' z => walk_at "side"); (case' b => walk_at "st"))
  | (refine' rt_asgL ?e ?p ?k ?j ?x ?l ?b; (case' e => walk_at "ek"); (case' p => rfl); (case' k => walk_at "ev"); (case' j => first | rfl | skip); (case' x => rfl); (case' l => walk_at "side"); (case' b => walk_at "st"))
  | (refine' rt_aug rfl ?e ?y ?b; (case' e => walk_at "ev"); (case' y => first | rfl | skip); (case' b => walk_at "st"))
  | (refine' rt_assoc ?_; walk_at "st")
  | (refine' rt_skip ?_; walk_at "st")
  | skip)
local macro_rules | `(tactic| walk_at "bo") => `(tactic| first
  | (refine' bo_asg ?e ?s ?b; (case' e => walk_at "ev"); (case' s => first | exact sl_val | exact sl_own | exact sl_owd | skip); (case' b => walk_at "bo"))
  | (refine' bo_asgT ?e ?s ?t ?b; (case' e => walk_at "ev"); (case' s => walk_at "kp"); (case' t => first | exact tg_tp2 | exact tg_tp3 | exact tg_tp4 | skip); (case' b => walk_at "bo"))
  | (refine' bo_app rfl ?e ?x ?z ?b; (case' e => walk_at "ek"); (case' x => rfl); (case' z => walk_at "side"); (case' b => walk_at "bo"))
  | (refine' bo_asgL ?e ?p ?k ?j ?x ?l ?b; (case' e => walk_at "ek"); (case' p => rfl); (case' k => walk_at "ev"); (case' j => first | rfl | skip); (case' x => rfl); (case' l => walk_at "side"); (case' b => walk_at "bo"))
  | (refine' bo_aug rfl ?e ?y ?b; (case' e => walk_at "ev"); (case' y => first | rfl | skip); (case' b => walk_at "bo"))
  | (refine' bo_ret ?e ?d; (case' e => walk_at "ev"); (case' d => rfl))
  | (refine' bo_ifs' ?e ?a ?b; (case' e => walk_at "ev"); (case' a => (intro _; walk_at "bo")); (case' b => (intro _; walk_at "bo")))
  | (refine' bo_assoc ?_; walk_at "bo")
  | (refine' bo_sk ?_; walk_at "bo")
  | refine' bo_skip ?_ | refine' bo_seqC ?_ | refine' bo_cnt ?_
  | skip)
local macro_rules | `(tactic| walk_at "bof") => `(tactic| first
  | (refine' bo_asg ?e ?s ?b; (case' e => walk_at "ev"); (case' s => first | exact sl_val | exact sl_own | exact sl_owd | skip); (case' b => walk_at "bof"))
  | (refine' bo_asgT ?e ?s ?t ?b; (case' e => walk_at "ev"); (case' s => walk_at "kp"); (case' t => first | exact tg_tp2 | exact tg_tp3 | exact tg_tp4 | skip); (case' b => walk_at "bof"))
  | (refine' bo_ret ?e ?d; (case' e => walk_at "ev"); (case' d => rfl))
  | (refine' bo_ifs ?e ?a ?b; (case' e => walk_at "ev"); (case' a => (intro _; walk_at "bof")); (case' b => (intro _; walk_at "bof")))
  | (refine' bo_assoc ?_; walk_at "bof")
  | (refine' bo_sk ?_; walk_at "bof")
  | refine' bo_skip ?_ | refine' bo_seqC ?_ | refine' bo_cnt ?_
  | skip)
local macro_rules | `(tactic| walk_at "vl") => `(tactic| (refine' vl_is_integer ?_; walk_at "side"))
local macro_rules | `(tactic| walk_at "vl") => `(tactic| (refine' vl_is_number ?_; walk_at "side"))
local macro_rules | `(tactic| walk_at "vl") => `(tactic| (refine' vl_is_tuple ?_; walk_at "side"))
local macro_rules | `(tactic| walk_at "vl") => `(tactic| (refine' vl_is_tagged ?_; walk_at "side"))
local macro_rules | `(tactic| walk_at "vl") => `(tactic| (refine' vl_is_between ?_; walk_at "side"))
local macro_rules | `(tactic| walk_at "vl") => `(tactic| (refine' vl_are_integers ?_; walk_at "side"))
local macro_rules | `(tactic| walk_at "vl") => `(tactic| (refine' vl_is_ascending ?_; walk_at "side"))
local macro_rules | `(tactic| walk_at "vl") => `(tactic| (refine' vl_are_numbers ?_; walk_at "side"))
local macro_rules | `(tactic| walk_at "vl") => `(tactic| (refine' vl_is_menu ?_; walk_at "side"))
local macro_rules | `(tactic| walk_at "vl") => `(tactic| (refine' vl_subsets_of ?_; walk_at "side"))
local macro_rules | `(tactic| walk_at "vl") => `(tactic| (refine' vl_menus ?_; walk_at "side"))
local macro_rules | `(tactic| walk_at "vl") => `(tactic| (refine' vl_things_of ?_; walk_at "side"))
local macro_rules | `(tactic| walk_at "vl") => `(tactic| (refine' vl_by_menus ?_; walk_at "side"))
local macro_rules | `(tactic| walk_at "vl") => `(tactic| (refine' vl_picks ?_; walk_at "side"))
local macro_rules | `(tactic| walk_at "vl") => `(tactic| (refine' vl__law_kind ?_; walk_at "side"))
local macro_rules | `(tactic| walk_at "vl") => `(tactic| exact vl__law_is)
local macro_rules | `(tactic| walk_at "vl") => `(tactic| (refine' vl__law_int ?_; walk_at "side"))
local macro_rules | `(tactic| walk_at "vl") => `(tactic| (refine' vl__law_ints ?_; walk_at "side"))
local macro_rules | `(tactic| walk_at "vl") => `(tactic| (refine' vl__law_up ?_; walk_at "side"))
local macro_rules | `(tactic| walk_at "vl") => `(tactic| (refine' vl__law_set ?_; walk_at "side"))
local macro_rules | `(tactic| walk_at "vl") => `(tactic| (refine' vl__law_menus ?_; walk_at "side"))
local macro_rules | `(tactic| walk_at "vl") => `(tactic| exact vl__law_in)
local macro_rules | `(tactic| walk_at "vl") => `(tactic| exact vl__law_both)
local macro_rules | `(tactic| walk_at "vl") => `(tactic| (refine' vl__law_least ?_; walk_at "side"))
local macro_rules | `(tactic| walk_at "vl") => `(tactic| exact vl__law_best)
local macro_rules | `(tactic| walk_at "vl") => `(tactic| (refine' vl__law_first ?_; walk_at "side"))
local macro_rules | `(tactic| walk_at "vl") => `(tactic| (refine' vl__law_tidy ?_; walk_at "side"))
local macro_rules | `(tactic| walk_at "vl") => `(tactic| (refine' vl__law_picks_of_lines ?_; walk_at "side"))
/-! k02: tables cut and named -/
theorem lk_zip {κ ν : Type} [DecidableEq κ] : ∀ (ks : List κ) (vs : List ν) (k : κ), vs.length = ks.length → lk (ks.zip vs) k = if k ∈ ks then vs[ixo ks k]? else none
  | [], [], k, _ => by simp [lk]
  | a :: ks, v :: vs, k, h => by
    have ih := lk_zip ks vs k (by simpa using h)
    unfold lk at *
    rw [List.zip_cons_cons, List.find?_cons]
    by_cases e : a = k
    · subst e
      have e2 : ixo (a :: ks) a = 0 := by unfold ixo; rw [List.findIdx_cons]; simp
      rw [e2]; simp
    · have e2 : ixo (a :: ks) k = ixo ks k + 1 := by unfold ixo; rw [List.findIdx_cons]; simp [e]
      rw [e2]
      have e3 : decide ((a, v).1 = k) = false := decide_eq_false e
      rw [e3]
      have e4 : (k ∈ a :: ks) ↔ (k ∈ ks) := by rw [List.mem_cons]; exact ⟨fun h => h.resolve_left fun z => e z.symm, .inr⟩
      simp only [e4, List.getElem?_cons_succ]
      exact ih
  | [], _ :: _, _, h => by cases h
  | _ :: _, [], _, h => by cases h
theorem pick_ix {n : Nat} {t : List (List Nat)} (h : IsTab n t) {m : List Nat} (hm : m ∈ menusL n) : t[ixo (menusL n) m]? = some (pick t m) := by
  have h1 := lk_some h hm
  unfold rowsOf at h1
  rw [h.things, lk_zip _ _ _ h.2.2, if_pos hm] at h1
  exact h1
theorem pick_getD {n : Nat} {t : List (List Nat)} (h : IsTab n t) {m : List Nat} (hm : m ∈ menusL n) : t.getD (ixo (menusL n) m) default = pick t m := by
  rw [List.getD_eq_getElem?_getD, pick_ix h hm]; rfl
theorem pick_good {n : Nat} {t : List (List Nat)} (h1 : 1 ≤ n) (h8 : n ≤ 8) (h : GoodTab n t) {m : List Nat} (hm : m ∈ menusL n) : (pick t m).Sublist m ∧ pick t m ≠ [] := h.2 _ m _ (ixo_get hm) (pick_ix (h.isTab h1 h8) hm)
theorem map_getD_range (m : List Nat) : (List.range m.length).map (fun p => m.getD p 0) = m := by
  apply List.ext_getElem
  · simp
  · intro i h1 h2
    simp at h1
    simp [List.getD_eq_getElem?_getD, h2]
theorem sub_menu {n : Nat} {m own : List Nat} (hm : m ∈ menusL n) (ho : own ∈ menusL m.length) : (own.map fun p => m.getD p 0) ∈ menusL n := by
  obtain ⟨h1, h2⟩ := mem_menusL.mp hm
  obtain ⟨h3, h4⟩ := mem_menusL.mp ho
  refine mem_menusL.mpr ⟨?_, fun e => h4 (List.map_eq_nil_iff.mp e)⟩
  have := h3.map fun p => m.getD p 0
  rw [map_getD_range] at this
  exact this.trans h1
theorem sub_own {m own : List Nat} (ho : own ∈ menusL m.length) : ∀ x ∈ (own.map fun p => m.getD p 0), x ∈ m := by
  obtain ⟨h3, h4⟩ := mem_menusL.mp ho
  have := h3.map fun p => m.getD p 0
  rw [map_getD_range] at this
  exact fun x hx => this.subset hx
def restr1 (t : List (List Nat)) (m own : List Nat) : List Nat := (pick t (own.map fun p => m.getD p 0)).map (ixo m)
/-- places of things in a menu -/
def restrN (t : List (List Nat)) (m : List Nat) : List (List Nat) := (menusL m.length).map (restr1 t m)
def nm_restricted : List Str := ["table", "menu", "rows", "found", "own", "real", "place", "thing"]
def ir_restricted : IS :=
(.seq (.asg (.nm 2) (.call 302 (.acons (.var 0) .anil)))
  (.seq (.asg (.nm 3) (.lst .anil))
  (.seq (.fr (.nm 4) (.itSeq (.call 580 (.acons (.blt .len (.acons (.bor 1) .anil)) .anil)))
 (.seq (.asg (.nm 5) (.blt .tuple (.acons (.comp [6] (.nm 6) (.itSeq (.bor 4)) (.cst (.bl true)) (.idx (.bor 1) (.bor 6))) .anil)))
  (.seq (.app 3 (.blt .tuple (.acons (.comp [7] (.nm 7) (.itSeq (.idx (.bor 2) (.bor 5))) (.cst (.bl true)) (.mth .index (.bor 1) (.acons (.bor 7) .anil))) .anil)))
  .skip)))
  (.seq (.ret (.blt .tuple (.acons (.bor 3) .anil)))
  .skip))))
def fs_restricted : List (Nat × Str) := [(302, "by_menus"), (580, "menus")]
def cs_restricted : List (Str × D) := []
@[irreducible] def sp_restricted : Spec := fun ds dr Q _ => ∃ (table : List (List Nat)) (menu : List Nat), ds = [enc table, enc menu] ∧ (∃ n, 1 ≤ n ∧ n ≤ 6 ∧ GoodTab n table ∧ menu ∈ menusL n ) ∧ Q (.val (enc (restrN table menu : List (List Nat)))) dr
theorem vl_restricted {table : List (List Nat)} {menu : List Nat} (hp : ∃ n, 1 ≤ n ∧ n ≤ 6 ∧ GoodTab n table ∧ menu ∈ menusL n ) : VlR sp_restricted [enc table, enc menu] (.val (enc (restrN table menu : List (List Nat)))) := fun dr Q xe q => by unfold sp_restricted; exact ⟨table, menu, rfl, hp, q⟩
theorem rt_restricted {C : PC} {n : Nat} (h_by_menus : C.sp 302 = sp_by_menus) (h_menus : C.sp 580 = sp_menus) (table : List (List Nat)) (menu : List Nat) (hp : ∃ n, 1 ≤ n ∧ n ≤ 6 ∧ GoodTab n table ∧ menu ∈ menusL n ) : Rt C ir_restricted ⟨[.val (enc table), .val (enc menu), .no, .no, .no, .no, .no, .no], n⟩ n (.val (enc (restrN table menu : List (List Nat)))) := by
  unfold ir_restricted
  obtain ⟨m, h1, h6, hg, hm⟩ := hp
  have ht := hg.isTab h1 (by omega)
  have ml := menu_len hm
  have sz := sizeLine_eq
  refine' rt_asg (r' := .owd (encKV (rowsOf table))) ?e1 sl_owd (rt_asg (r' := .own []) ?e2 sl_own ?b2)
  case' e1 => walk_at "ev"; exact ⟨m, ht⟩
  case' e2 => walk_at "ev"
  case' b2 =>
    refine' rt_for (xs := menusL menu.length) (f := enc) (fun i ρ => ∃ z4 z5, ρ = ⟨[.val (enc table), .val (enc menu), .owd (encKV (rowsOf table)), .own ((((menusL menu.length).take i).map (restr1 table menu)).map enc), z4, z5, .no, .no], n⟩) ?e3 ?h3 ?t3 ?r3
    case' e3 => exact evi_F (ev_call h_menus (eva_F (ev_blt (eva_T (ev_bor rfl) rfl eva_nil) blt_lenT) kp_val eva_nil) (vl_menus (by omega))) kp_own itm_lst
    case' h3 => exact ⟨_, _, rfl⟩
    case' t3 =>
      rintro i own ρ hx ⟨z4, z5, rfl⟩
      refine ⟨_, tg_nm, ?_⟩
      have mem := List.mem_of_getElem? hx
      have rl : (menusL menu.length).length ≤ 63 := by
        rw [menusL_len]
        have : 2 ^ menu.length ≤ 2 ^ 6 := Nat.pow_le_pow_right (by decide) (by omega)
        omega
      have key := sub_menu hm mem
      have hlk := lk_some ht key
      have gp := pick_good h1 (by omega) hg key
      have own_lt : ∀ p ∈ own, p < menu.length := menu_lt mem
      have in_menu : ∀ x ∈ pick table (own.map fun p => menu.getD p 0), x ∈ menu := fun x hx => sub_own mem x (gp.1.subset hx)
      have tk : (menusL menu.length).take (i + 1) = (menusL menu.length).take i ++ [own] := by rw [List.take_add_one, hx]; rfl
      refine' bo_asg (r' := .val (enc (own.map fun p => menu.getD p 0))) ?e4 sl_val ?b4
      case' e4 => walk_at "ev"
      case' b4 =>
        refine' bo_app (d := enc (restr1 table menu own)) rfl ?e5 ?x5 ?z5 ?b5
        case' e5 => walk_at "ek"
        case' x5 => rfl
        case' z5 => rw [List.length_map, List.length_map, List.length_take]; omega
        case' b5 => exact bo_skip ⟨_, _, by rw [tk, List.map_append, List.map_append]; rfl⟩
    case' r3 =>
      rintro hz ρ ⟨z4, z5, rfl⟩
      rw [List.take_length]
      walk_at "st"
      rfl
theorem wp_restricted (sp : Nat → Spec) (xe : Nat → Nat → Prop) (h0 : sp 302 = sp_by_menus) (h1 : sp 580 = sp_menus) : ∀ ds dr Q, sp_restricted ds dr Q (fun _ _ => False) → wpF ⟨sp, xe⟩ nm_restricted.length ir_restricted ds dr Q := by
  intro ds dr Q h
  unfold sp_restricted at h
  obtain ⟨table, menu, rfl, hp, hq⟩ := h
  exact wpF_of (rt_restricted (C := ⟨sp, xe⟩) h0 h1 table menu hp) hq
local macro_rules | `(tactic| walk_at "vl") => `(tactic| (refine' vl_restricted ?_; walk_at "side"))
/-- a row's names -/
def namedN (row names : List Nat) : List Nat := srt (row.map fun t => names.getD t 0)
def nm_named : List Str := ["row", "names", "thing"]
def ir_named : IS :=
(.seq (.ret (.blt .tuple (.acons (.blt .sorted (.acons (.comp [2] (.nm 2) (.itSeq (.bor 0)) (.cst (.bl true)) (.idx (.bor 1) (.bor 2))) .anil)) .anil)))
  .skip)
def fs_named : List (Nat × Str) := []
def cs_named : List (Str × D) := []
@[irreducible] def sp_named : Spec := fun ds dr Q _ => ∃ (row : List Nat) (names : List Nat), ds = [enc row, enc names] ∧ (∀ t ∈ row, t < names.length ) ∧ Q (.val (enc (namedN row names : List Nat))) dr
theorem vl_named {row : List Nat} {names : List Nat} (hp : ∀ t ∈ row, t < names.length ) : VlR sp_named [enc row, enc names] (.val (enc (namedN row names : List Nat))) := fun dr Q xe q => by unfold sp_named; exact ⟨row, names, rfl, hp, q⟩
theorem rt_named {C : PC} {n : Nat}  (row : List Nat) (names : List Nat) (hp : ∀ t ∈ row, t < names.length ) : Rt C ir_named ⟨[.val (enc row), .val (enc names), .no], n⟩ n (.val (enc (namedN row names : List Nat))) := by
  unfold ir_named
  walk_at "st"
  rfl
theorem wp_named (sp : Nat → Spec) (xe : Nat → Nat → Prop)  : ∀ ds dr Q, sp_named ds dr Q (fun _ _ => False) → wpF ⟨sp, xe⟩ nm_named.length ir_named ds dr Q := by
  intro ds dr Q h
  unfold sp_named at h
  obtain ⟨row, names, rfl, hp, hq⟩ := h
  exact wpF_of (rt_named (C := ⟨sp, xe⟩)  row names hp) hq
local macro_rules | `(tactic| walk_at "vl") => `(tactic| (refine' vl_named ?_; walk_at "side"))
theorem asc_sub_range {n : Nat} {xs : List Nat} (ha : xs.Pairwise (· < ·)) (h : ∀ x ∈ xs, x < n) : xs.Sublist (List.range n) := by
  have nd : xs.Nodup := ha.imp fun h e => by omega
  have e := srt_sub (m := List.range n) List.pairwise_lt_range nd fun x hx => List.mem_range.mpr (h x hx)
  have e2 : srt xs = xs := srt_of (List.Perm.refl _) (ha.imp fun {a b} h => by show decide (b < a) = false; rw [decide_eq_false_iff_not]; omega)
  rw [e2] at e
  rw [e]; exact List.filter_sublist
theorem line_lt {n : Nat} {l : List Nat} (h : IsLine n l) {t : Nat} (ht : t < n) : l.getD t 0 < n := by
  have hl : t < l.length := by rw [h.len]; exact ht
  have : l.getD t 0 ∈ l := by rw [List.getD_eq_getElem?_getD, List.getElem?_eq_getElem hl]; exact List.getElem_mem hl
  exact h.mem.mp this
theorem line_inj {n : Nat} {l : List Nat} (h : IsLine n l) {a b : Nat} (ha : a < n) (hb : b < n) (e : l.getD a 0 = l.getD b 0) : a = b := by
  have la : a < l.length := by rw [h.len]; exact ha
  have lb : b < l.length := by rw [h.len]; exact hb
  rw [List.getD_eq_getElem?_getD, List.getD_eq_getElem?_getD, List.getElem?_eq_getElem la, List.getElem?_eq_getElem lb] at e
  exact (List.getElem_inj h.nodup).mp e
theorem namedN_mem {n : Nat} {l m : List Nat} (h : IsLine n l) (hm : m ∈ menusL n) : namedN m l ∈ menusL n := by
  have nd : (m.map fun t => l.getD t 0).Nodup := by
    unfold List.Nodup
    rw [List.pairwise_map]
    exact (List.Pairwise.and_mem.mp (menu_nodup hm)).imp fun {a b} ⟨ha, hb, ne⟩ e => ne (line_inj h (menu_lt hm a ha) (menu_lt hm b hb) e)
  refine mem_menusL.mpr ⟨asc_sub_range ((srt_lt nd).imp fun {a b} h => of_decide_eq_true h) fun x hx => ?_, fun e => ?_⟩
  · rw [namedN, mem_srt, List.mem_map] at hx
    obtain ⟨t, ht, rfl⟩ := hx
    exact line_lt h (menu_lt hm t ht)
  · have := srt_len (m.map fun t => l.getD t 0)
    unfold namedN at e
    rw [e, List.length_map] at this
    exact menu_ne hm (List.length_eq_zero_iff.mp this.symm)
theorem namedN_inj {n : Nat} {l m m' : List Nat} (h : IsLine n l) (hm : m ∈ menusL n) (hm' : m' ∈ menusL n) (e : namedN m l = namedN m' l) : m = m' := by
  have key : ∀ {m m' : List Nat}, m ∈ menusL n → m' ∈ menusL n → namedN m l = namedN m' l → ∀ t ∈ m, t ∈ m' := fun {m m'} hm hm' e t ht => by
    have h1 : l.getD t 0 ∈ namedN m l := by rw [namedN, mem_srt]; exact List.mem_map.mpr ⟨t, ht, rfl⟩
    rw [e, namedN, mem_srt, List.mem_map] at h1
    obtain ⟨t', h2, h3⟩ := h1
    rw [← line_inj h (menu_lt hm' t' h2) (menu_lt hm t ht) h3]; exact h2
  have p : m.Perm m' := (List.perm_ext_iff_of_nodup (menu_nodup hm) (menu_nodup hm')).mpr fun a => ⟨key hm hm' e a, key hm' hm e.symm a⟩
  have le : ∀ {m : List Nat}, m ∈ menusL n → m.Pairwise fun a b => Od.lt b a = false := fun hm => (menu_asc hm).imp fun {a b} h => by show decide (b < a) = false; rw [decide_eq_false_iff_not]; omega
  exact srt_uniq p (le hm) (le hm')
theorem full_of_inj {α : Type} [DecidableEq α] {xs ys : List α} (nd : xs.Nodup) (sub : xs ⊆ ys) (hl : ys.length ≤ xs.length) : ys ⊆ xs := fun y hy => by
  refine Decidable.byContradiction fun hn => ?_
  have : (y :: xs).Nodup := List.nodup_cons.mpr ⟨hn, nd⟩
  have := List.Nodup.length_le_of_subset this (fun z hz => by
    rcases List.mem_cons.mp hz with rfl | hz
    · exact hy
    · exact sub hz)
  rw [List.length_cons] at this
  omega
/-- all menus are named -/
theorem named_all {n : Nat} {l : List Nat} (h : IsLine n l) : ∀ m ∈ menusL n, ∃ m' ∈ menusL n, namedN m' l = m := fun m hm => by
  have nd : ((menusL n).map fun m => namedN m l).Nodup := by
    unfold List.Nodup
    rw [List.pairwise_map]
    exact (List.Pairwise.and_mem.mp (menusL_nodup n)).imp fun {a b} ⟨ha, hb, ne⟩ e => ne (namedN_inj h ha hb e)
  have := full_of_inj nd (fun x hx => by
    obtain ⟨m', h1, rfl⟩ := List.mem_map.mp hx
    exact namedN_mem h h1) (by rw [List.length_map]; exact Nat.le_refl _) hm
  obtain ⟨m', h1, h2⟩ := List.mem_map.mp this
  exact ⟨m', h1, h2⟩
/-- the dict of what is picked under the new names -/
def namedRows (n : Nat) (t : List (List Nat)) (l : List Nat) : List (List Nat × List Nat) := (menusL n).map fun m => (namedN m l, namedN (pick t m) l)
theorem lk_named {n : Nat} {t : List (List Nat)} {l m : List Nat} (h : IsLine n l) (hm : m ∈ menusL n) : lk (namedRows n t l) (namedN m l) = some (namedN (pick t m) l) := by
  unfold lk namedRows
  have : ∀ ms : List (List Nat), m ∈ ms → (∀ x ∈ ms, x ∈ menusL n) → (ms.map fun m => (namedN m l, namedN (pick t m) l)).find? (fun p => decide (p.1 = namedN m l)) = some (namedN m l, namedN (pick t m) l) := fun ms => by
    induction ms with
    | nil => intro h; cases h
    | cons a ms ih =>
      intro h1 h2
      rw [List.map_cons, List.find?_cons]
      by_cases e : namedN a l = namedN m l
      · have := namedN_inj h (h2 a List.mem_cons_self) hm e
        subst this
        simp
      · have e2 : decide ((namedN a l, namedN (pick t a) l).1 = namedN m l) = false := decide_eq_false e
        rw [e2]
        exact ih ((List.mem_cons.mp h1).resolve_left fun z => e (by rw [z])) fun x hx => h2 x (List.mem_cons_of_mem _ hx)
  rw [this _ hm fun x hx => hx]; rfl
def renN (n : Nat) (t : List (List Nat)) (l : List Nat) : List (List Nat) := (menusL n).map fun m => (lk (namedRows n t l) m).getD []
theorem pt_new {κ ν : Type} [DecidableEq κ] {kvs : List (κ × ν)} {k : κ} {v : ν} (h : k ∉ kvs.map (·.1)) : pt kvs k v = kvs ++ [(k, v)] := by
  unfold pt
  rw [if_neg]
  intro hh
  obtain ⟨q, hq, e⟩ := List.any_eq_true.mp hh
  rw [decide_eq_true_eq] at e
  exact h (List.mem_map.mpr ⟨q, hq, e⟩)
theorem rowsOf_pick {n : Nat} {t : List (List Nat)} (h : IsTab n t) {i : Nat} {p : List Nat × List Nat} (hp : (rowsOf t)[i]? = some p) : (menusL n)[i]? = some p.1 ∧ p.2 = pick t p.1 := by
  unfold rowsOf at hp
  rw [h.things, List.getElem?_zip_eq_some] at hp
  obtain ⟨h1, h2⟩ := hp
  refine ⟨h1, ?_⟩
  have hm := List.mem_of_getElem? h1
  have h3 := pick_ix h hm
  have h4 := ixo_get hm
  obtain ⟨l1, e1⟩ := List.getElem?_eq_some_iff.mp h1
  obtain ⟨l4, e4⟩ := List.getElem?_eq_some_iff.mp h4
  have : i = ixo (menusL n) p.1 := (List.getElem_inj (menusL_nodup n)).mp (e1.trans e4.symm)
  rw [← this, h2] at h3
  exact Option.some.inj h3
def nm_renamed : List Str := ["table", "names", "things", "rows", "menu", "picked"]
def ir_renamed : IS :=
(.seq (.asg (.nm 2) (.blt .len (.acons (.bor 1) .anil)))
  (.seq (.asg (.nm 3) .dnew)
  (.seq (.fr (.tp [4, 5]) (.itItems (.call 302 (.acons (.var 0) .anil)))
 (.seq (.asgS 3 (.call 597 (.acons (.var 4) (.acons (.var 1) .anil))) (.call 597 (.acons (.var 5) (.acons (.var 1) .anil))))
  .skip))
  (.seq (.ret (.blt .tuple (.acons (.comp [4] (.nm 4) (.itSeq (.call 580 (.acons (.var 2) .anil))) (.cst (.bl true)) (.idx (.bor 3) (.bor 4))) .anil)))
  .skip))))
def fs_renamed : List (Nat × Str) := [(302, "by_menus"), (597, "named"), (580, "menus")]
def cs_renamed : List (Str × D) := []
@[irreducible] def sp_renamed : Spec := fun ds dr Q _ => ∃ (table : List (List Nat)) (names : List Nat), ds = [enc table, enc names] ∧ (∃ n, n = names.length ∧ 1 ≤ n ∧ n ≤ 6 ∧ GoodTab n table ∧ IsLine n names ) ∧ Q (.val (enc (renN names.length table names : List (List Nat)))) dr
theorem vl_renamed {table : List (List Nat)} {names : List Nat} (hp : ∃ n, n = names.length ∧ 1 ≤ n ∧ n ≤ 6 ∧ GoodTab n table ∧ IsLine n names ) : VlR sp_renamed [enc table, enc names] (.val (enc (renN names.length table names : List (List Nat)))) := fun dr Q xe q => by unfold sp_renamed; exact ⟨table, names, rfl, hp, q⟩
theorem rt_renamed {C : PC} {n : Nat} (h_by_menus : C.sp 302 = sp_by_menus) (h_named : C.sp 597 = sp_named) (h_menus : C.sp 580 = sp_menus) (table : List (List Nat)) (names : List Nat) (hp : ∃ n, n = names.length ∧ 1 ≤ n ∧ n ≤ 6 ∧ GoodTab n table ∧ IsLine n names ) : Rt C ir_renamed ⟨[.val (enc table), .val (enc names), .no, .no, .no, .no], n⟩ n (.val (enc (renN names.length table names : List (List Nat)))) := by
  unfold ir_renamed
  obtain ⟨m, e, h1, h6, hg, hl⟩ := hp
  subst e
  have ht := hg.isTab h1 (by omega)
  have sz := sizeLine_eq
  have ml : (menusL names.length).length ≤ 63 := by
    rw [menusL_len]
    have : 2 ^ names.length ≤ 2 ^ 6 := Nat.pow_le_pow_right (by decide) h6
    omega
  have rl : (rowsOf table).length = (menusL names.length).length := by rw [← rowsOf_keys ht, List.length_map]
  refine' rt_asg (r' := .val (.int (names.length : Nat))) ?e0 sl_val (rt_asg (r' := .owd (encKV ([] : List (List Nat × List Nat)))) ?e1 sl_owd ?b1)
  case' e0 => walk_at "ev"
  case' e1 => walk_at "ev"
  case' b1 =>
    refine' rt_for (xs := rowsOf table) (f := enc) (fun i ρ => ∃ z4 z5, ρ = ⟨[.val (enc table), .val (enc names), .val (.int (names.length : Nat)), .owd (encKV ((namedRows names.length table names).take i)), ov z4, ov z5], n⟩) ?e3 ?h3 ?t3 ?r3
    case' e3 => exact evi_itemsF (ev_call h_by_menus (eva_F (ev_var rfl) kp_val eva_nil) (vl_by_menus ⟨_, ht⟩)) kp_owd rfl
    case' h3 => exact ⟨none, none, rfl⟩
    case' t3 =>
      rintro i p ρ hx ⟨z4, z5, rfl⟩
      obtain ⟨g1, g2⟩ := rowsOf_pick ht hx
      have hm := List.mem_of_getElem? g1
      have gp := pick_good h1 (by omega) hg hm
      have hlt : ∀ t ∈ p.1, t < names.length := menu_lt hm
      have hlt2 : ∀ t ∈ p.2, t < names.length := fun t h => hlt t (by rw [g2] at h; exact gp.1.subset h)
      have nx : (namedRows names.length table names)[i]? = some (namedN p.1 names, namedN p.2 names) := by
        unfold namedRows; rw [List.getElem?_map, g1, g2]; rfl
      have tk : (namedRows names.length table names).take (i + 1) = (namedRows names.length table names).take i ++ [(namedN p.1 names, namedN p.2 names)] := by rw [List.take_add_one, nx]; rfl
      have new : namedN p.1 names ∉ ((namedRows names.length table names).take i).map (·.1) := by
        intro hh
        rw [List.map_take] at hh
        have e : (namedRows names.length table names).map (·.1) = (menusL names.length).map fun m => namedN m names := by unfold namedRows; rw [List.map_map]; rfl
        rw [e, ← List.map_take] at hh
        obtain ⟨m', h2, h3⟩ := List.mem_map.mp hh
        have h4 : m' ∈ menusL names.length := List.mem_of_mem_take h2
        have h5 := namedN_inj hl h4 hm h3
        subst h5
        obtain ⟨j, hj, h6⟩ := List.getElem_of_mem h2
        rw [List.length_take] at hj
        rw [List.getElem_take] at h6
        obtain ⟨li, e2⟩ := List.getElem?_eq_some_iff.mp g1
        have := (List.getElem_inj (menusL_nodup names.length)).mp (h6.trans e2.symm)
        omega
      refine ⟨_, tg_tp2, ?_⟩
      refine' bo_asgD (κ := List Nat) (ν := List Nat) (kvs := (namedRows names.length table names).take i) (a := namedN p.1 names) (v := namedN p.2 names) ?e5 ?p5 ?k5 ?x5 ?l5 ?b5
      case' e5 => walk_at "ek"
      case' p5 => rfl
      case' k5 => walk_at "ek"
      case' x5 => rfl
      case' l5 =>
        have : (namedRows names.length table names).length = (menusL names.length).length := List.length_map ..
        rw [List.length_take]; omega
      case' b5 => exact bo_skip ⟨some _, some _, by rw [pt_new new, tk]; rfl⟩
    case' r3 =>
      rintro hz ρ ⟨z4, z5, rfl⟩
      have hlk : ∀ x ∈ menusL names.length, lk (namedRows names.length table names) x = some ((lk (namedRows names.length table names) x).getD []) := fun x hx => by
        obtain ⟨m', h2, h3⟩ := named_all hl x hx
        rw [← h3, lk_named hl h2]; rfl
      have e : (namedRows names.length table names).take (rowsOf table).length = namedRows names.length table names := by
        rw [List.take_of_length_le]; rw [rl]; unfold namedRows; rw [List.length_map]; exact Nat.le_refl _
      rw [e]
      refine' rt_seqR (rt_ret (r' := .val (enc (renN names.length table names))) (ev_blt (eva_T (ev_compA (g := fun m => (lk (namedRows names.length table names) m).getD []) (xs := menusL names.length) ?p6 ?e6 ?t6 ?w6 ?b6 ?he6) rfl eva_nil) blt_tupL) ?d7 ?q7)
      case' p6 => cases z4 <;> rfl
      case' e6 => walk_at "ei"
      case' t6 => exact fun _ => tg_nm
      case' w6 => exact fun _ => rfl
      case' b6 => cases z4 <;> rfl
      case' he6 =>
        intro x hx
        exact evk (ev_idx (ev_borD rfl) (ev_bor rfl) (idx_D (hlk x hx))) kp_val
      case' d7 => rfl
      case' q7 => rfl
theorem wp_renamed (sp : Nat → Spec) (xe : Nat → Nat → Prop) (h0 : sp 302 = sp_by_menus) (h1 : sp 597 = sp_named) (h2 : sp 580 = sp_menus) : ∀ ds dr Q, sp_renamed ds dr Q (fun _ _ => False) → wpF ⟨sp, xe⟩ nm_renamed.length ir_renamed ds dr Q := by
  intro ds dr Q h
  unfold sp_renamed at h
  obtain ⟨table, names, rfl, hp, hq⟩ := h
  exact wpF_of (rt_renamed (C := ⟨sp, xe⟩) h0 h1 h2 table names hp) hq
local macro_rules | `(tactic| walk_at "vl") => `(tactic| (refine' vl_renamed ?_; walk_at "side"))
def nm_table_with : List Str := ["table", "menu", "picked", "rows", "own", "old"]
def ir_table_with : IS :=
(.seq (.asg (.nm 3) (.call 580 (.acons (.call 725 (.acons (.var 0) .anil)) .anil)))
  (.seq (.ret (.blt .tuple (.acons (.comp [4, 5] (.tp [4, 5]) (.itZip (.bor 3) (.bor 0)) (.cst (.bl true)) (.ite (.cmp .eq (.bor 4) (.bor 1)) (.var 2) (.var 5))) .anil)))
  .skip))
def fs_table_with : List (Nat × Str) := [(580, "menus"), (725, "things_of")]
def cs_table_with : List (Str × D) := []
@[irreducible] def sp_table_with : Spec := fun ds dr Q _ => ∃ (table : List (List Nat)) (menu : List Nat) (picked : List Nat), ds = [enc table, enc menu, enc picked] ∧ (∃ n, IsTab n table ∧ menu ∈ menusL n ) ∧ Q (.val (enc (table.set (ixo (menusL (thingsOf table.length)) menu) picked : List (List Nat)))) dr
theorem vl_table_with {table : List (List Nat)} {menu : List Nat} {picked : List Nat} (hp : ∃ n, IsTab n table ∧ menu ∈ menusL n ) : VlR sp_table_with [enc table, enc menu, enc picked] (.val (enc (table.set (ixo (menusL (thingsOf table.length)) menu) picked : List (List Nat)))) := fun dr Q xe q => by unfold sp_table_with; exact ⟨table, menu, picked, rfl, hp, q⟩
theorem rt_table_with {C : PC} {n : Nat} (h_menus : C.sp 580 = sp_menus) (h_things_of : C.sp 725 = sp_things_of) (table : List (List Nat)) (menu : List Nat) (picked : List Nat) (hp : ∃ n, IsTab n table ∧ menu ∈ menusL n ) : Rt C ir_table_with ⟨[.val (enc table), .val (enc menu), .val (enc picked), .no, .no, .no], n⟩ n (.val (enc (table.set (ixo (menusL (thingsOf table.length)) menu) picked : List (List Nat)))) := by
  unfold ir_table_with
  obtain ⟨m, ht, hm⟩ := hp
  have hth := ht.things
  have : thingsOf table.length ≤ 10 := by have := ht.2.1; omega
  walk_at "st"
  rotate_left
  · exact ⟨m, ht⟩
  · refine congrArg (fun z : List (List Nat) => RV.val (.tup (z.map enc))) ?_
    rw [hth]
    apply List.ext_getElem
    · rw [List.length_map, List.length_zip, List.length_set, ht.2.2]; simp
    · intro i h1 h2
      rw [List.length_set, ht.2.2] at h2
      rw [List.getElem_map, List.getElem_zip, List.getElem_set]
      show (if decide ((menusL m)[i] = menu) = true then picked else table[i]'_) = _
      by_cases e : ixo (menusL m) menu = i
      · have h3 := ixo_get hm
        rw [e, List.getElem?_eq_getElem h2] at h3
        rw [if_pos e, if_pos (by rw [Option.some.inj h3]; simp)]
      · rw [if_neg e, if_neg]
        intro h4
        rw [decide_eq_true_eq] at h4
        refine e ?_
        have := ixo_getElem (menusL_nodup m) h2
        rw [h4] at this
        exact this
theorem wp_table_with (sp : Nat → Spec) (xe : Nat → Nat → Prop) (h0 : sp 580 = sp_menus) (h1 : sp 725 = sp_things_of) : ∀ ds dr Q, sp_table_with ds dr Q (fun _ _ => False) → wpF ⟨sp, xe⟩ nm_table_with.length ir_table_with ds dr Q := by
  intro ds dr Q h
  unfold sp_table_with at h
  obtain ⟨table, menu, picked, rfl, hp, hq⟩ := h
  exact wpF_of (rt_table_with (C := ⟨sp, xe⟩) h0 h1 table menu picked hp) hq
local macro_rules | `(tactic| walk_at "vl") => `(tactic| (refine' vl_table_with ?_; walk_at "side"))
def nm_unlike_menus : List Str := ["one", "two", "rows", "menu", "a", "b"]
def ir_unlike_menus : IS :=
(.seq (.asg (.nm 2) (.call 580 (.acons (.call 725 (.acons (.var 0) .anil)) .anil)))
  (.seq (.ret (.comp [3, 4, 5] (.tp [3, 4, 5]) (.itZip3 (.bor 2) (.bor 0) (.bor 1)) (.cmp .ne (.bor 4) (.bor 5)) (.var 3)))
  .skip))
def fs_unlike_menus : List (Nat × Str) := [(580, "menus"), (725, "things_of")]
def cs_unlike_menus : List (Str × D) := []
@[irreducible] def sp_unlike_menus : Spec := fun ds dr Q _ => ∃ (one : List (List Nat)) (two : List (List Nat)), ds = [enc one, enc two] ∧ (∃ n, IsTab n one ∧ IsTab n two ) ∧ Q (.own (((((menusL (thingsOf one.length)).zip (one.zip two)).filter fun p => !decide (p.2.1 = p.2.2)).map (·.1)).map enc)) dr
theorem vl_unlike_menus {one : List (List Nat)} {two : List (List Nat)} (hp : ∃ n, IsTab n one ∧ IsTab n two ) : VlR sp_unlike_menus [enc one, enc two] (.own (((((menusL (thingsOf one.length)).zip (one.zip two)).filter fun p => !decide (p.2.1 = p.2.2)).map (·.1)).map enc)) := fun dr Q xe q => by unfold sp_unlike_menus; exact ⟨one, two, rfl, hp, q⟩
theorem rt_unlike_menus {C : PC} {n : Nat} (h_menus : C.sp 580 = sp_menus) (h_things_of : C.sp 725 = sp_things_of) (one : List (List Nat)) (two : List (List Nat)) (hp : ∃ n, IsTab n one ∧ IsTab n two ) : Rt C ir_unlike_menus ⟨[.val (enc one), .val (enc two), .no, .no, .no, .no], n⟩ n (.own (((((menusL (thingsOf one.length)).zip (one.zip two)).filter fun p => !decide (p.2.1 = p.2.2)).map (·.1)).map enc)) := by
  unfold ir_unlike_menus
  obtain ⟨m, ht, ht2⟩ := hp
  have hth := ht.things
  have : thingsOf one.length ≤ 10 := by have := ht.2.1; omega
  walk_at "st"
  all_goals first | exact ⟨m, ht⟩ | rfl
theorem wp_unlike_menus (sp : Nat → Spec) (xe : Nat → Nat → Prop) (h0 : sp 580 = sp_menus) (h1 : sp 725 = sp_things_of) : ∀ ds dr Q, sp_unlike_menus ds dr Q (fun _ _ => False) → wpF ⟨sp, xe⟩ nm_unlike_menus.length ir_unlike_menus ds dr Q := by
  intro ds dr Q h
  unfold sp_unlike_menus at h
  obtain ⟨one, two, rfl, hp, hq⟩ := h
  exact wpF_of (rt_unlike_menus (C := ⟨sp, xe⟩) h0 h1 one two hp) hq
local macro_rules | `(tactic| walk_at "vl") => `(tactic| (refine' vl_unlike_menus ?_; walk_at "side"))

theorem zip3_map (a b c : List (List Nat)) (hb : b.length = a.length) (hc : c.length = a.length) : ((a.zip (b.zip c)).filter fun p => !decide (p.2.1 = p.2.2)).map (·.1) = ((List.range a.length).filter fun k => !decide (b.getD k default = c.getD k default)).map fun k => a.getD k default := by
  have e : a.zip (b.zip c) = (List.range a.length).map fun k => (a.getD k default, b.getD k default, c.getD k default) := by
    apply List.ext_getElem
    · simp [hb, hc]
    · intro i h1 h2
      rw [List.length_map, List.length_range] at h2
      rw [List.getElem_zip, List.getElem_zip, List.getElem_map, List.getElem_range]
      rw [List.getD_eq_getElem?_getD, List.getD_eq_getElem?_getD, List.getD_eq_getElem?_getD, List.getElem?_eq_getElem h2, List.getElem?_eq_getElem (by omega), List.getElem?_eq_getElem (by omega)]
      rfl
  rw [e, List.filter_map, List.map_map]
  rfl
def nm_law_k02 : List Str := ["script", "pool", "n", "rows", "table", "menu", "due", "own", "real", "place", "thing", "names", "told", "k", "there", "other", "picked", "at"]
def ir_law_k02 : IS :=
(.seq (.asg (.nm 2) (.bin .add (.cst (.int 1)) (.call 50 (.acons (.var 1) (.acons (.cst (.int 5)) .anil)))))
  (.seq (.asg (.nm 3) (.call 112 (.acons (.var 2) .anil)))
  (.seq (.asg (.nm 4) (.call 202 (.acons (.var 1) (.acons (.var 2) .anil))))
  (.seq (.asg (.nm 5) (.idx (.bor 3) (.call 50 (.acons (.var 1) (.acons (.blt .len (.acons (.bor 3) .anil)) .anil)))))
  (.seq (.asg (.nm 6) (.lst .anil))
  (.seq (.fr (.nm 7) (.itSeq (.call 112 (.acons (.blt .len (.acons (.bor 5) .anil)) .anil)))
 (.seq (.asg (.nm 8) (.blt .tuple (.acons (.comp [9] (.nm 9) (.itSeq (.bor 7)) (.cst (.bl true)) (.idx (.bor 5) (.bor 9))) .anil)))
  (.seq (.app 6 (.blt .tuple (.acons (.comp [10] (.nm 10) (.itSeq (.idx (.bor 4) (.mth .index (.bor 3) (.acons (.bor 8) .anil)))) (.cst (.bl true)) (.mth .index (.bor 5) (.acons (.bor 10) .anil))) .anil)))
  .skip)))
  (.seq (.ifs (.not (.tst (.call 52 (.acons (.call 660 (.acons (.var 4) (.acons (.var 5) .anil))) (.acons (.blt .tuple (.acons (.bor 6) .anil)) .anil)))))
 (.seq (.ret (.cst (.bl false)))
  .skip)
 .skip)
  (.seq (.asg (.nm 11) (.call 101 (.acons (.var 1) (.acons (.var 2) .anil))))
  (.seq (.asg (.nm 12) (.call 656 (.acons (.var 4) (.acons (.var 11) .anil))))
  (.seq (.ifs (.or (.not (.tst (.isi (.bor 12) .tuple))) (.cmp .ne (.blt .len (.acons (.bor 12) .anil)) (.blt .len (.acons (.bor 3) .anil))))
 (.seq (.ret (.cst (.bl false)))
  .skip)
 .skip)
  (.seq (.fr (.nm 13) (.itR1 (.blt .len (.acons (.bor 3) .anil)))
 (.seq (.asg (.nm 14) (.blt .tuple (.acons (.blt .sorted (.acons (.comp [10] (.nm 10) (.itSeq (.idx (.bor 3) (.bor 13))) (.cst (.bl true)) (.idx (.bor 11) (.bor 10))) .anil)) .anil)))
  (.seq (.ifs (.not (.tst (.call 52 (.acons (.idx (.bor 12) (.mth .index (.bor 3) (.acons (.bor 14) .anil))) (.acons (.blt .tuple (.acons (.blt .sorted (.acons (.comp [10] (.nm 10) (.itSeq (.idx (.bor 4) (.bor 13))) (.cst (.bl true)) (.idx (.bor 11) (.bor 10))) .anil)) .anil)) .anil)))))
 (.seq (.ret (.cst (.bl false)))
  .skip)
 .skip)
  .skip)))
  (.seq (.asg (.nm 15) (.call 202 (.acons (.var 1) (.acons (.var 2) .anil))))
  (.seq (.ifs (.not (.tst (.call 52 (.acons (.call 744 (.acons (.var 4) (.acons (.var 15) .anil))) (.acons (.comp [13] (.nm 13) (.itR1 (.blt .len (.acons (.bor 3) .anil))) (.cmp .ne (.idx (.bor 4) (.bor 13)) (.idx (.bor 15) (.bor 13))) (.idx (.bor 3) (.bor 13))) .anil)))))
 (.seq (.ret (.cst (.bl false)))
  .skip)
 .skip)
  (.seq (.asg (.nm 16) (.call 155 (.acons (.var 1) (.acons (.var 5) .anil))))
  (.seq (.asg (.nm 17) (.mth .index (.bor 3) (.acons (.bor 5) .anil)))
  (.seq (.ret (.call 52 (.acons (.call 721 (.acons (.var 4) (.acons (.var 5) (.acons (.var 16) .anil)))) (.acons (.bin .add (.bin .add (.slc (.bor 4) (.cst .non) (.bor 17)) (.tup (.acons (.var 16) .anil))) (.slc (.bor 4) (.bin .add (.bor 17) (.cst (.int 1))) (.cst .non))) .anil))))
  .skip))))))))))))))))
def fs_law_k02 : List (Nat × Str) := [(50, "_law_draw"), (112, "_law_menus"), (202, "_law_table"), (52, "_law_equal"), (660, "restricted"), (101, "_law_line"), (656, "renamed"), (744, "unlike_menus"), (155, "_law_random_picks"), (721, "table_with")]
def cs_law_k02 : List (Str × D) := []
theorem main_k02 (C : PC) (h_draw : C.sp 50 = sp_draw) (h__law_menus : C.sp 112 = sp__law_menus) (h__law_table : C.sp 202 = sp__law_table) (h__law_equal : C.sp 52 = sp__law_equal 3) (h_restricted : C.sp 660 = sp_restricted) (h__law_line : C.sp 101 = sp__law_line) (h_renamed : C.sp 656 = sp_renamed) (h_unlike_menus : C.sp 744 = sp_unlike_menus) (h__law_random_picks : C.sp 155 = sp__law_random_picks) (h_table_with : C.sp 721 = sp_table_with) : wpS C ir_law_k02 (lawEnv nm_law_k02.length) ⟨fun _ => False, fun r _ => r = .val (.bl true), fun _ => False, fun _ => False⟩ := by
  show wpS C ir_law_k02 ⟨[.no, .val .pool, .no, .no, .no, .no, .no, .no, .no, .no, .no, .no, .no, .no, .no, .no, .no, .no], 0⟩ _
  unfold ir_law_k02
  have big := big40
  have sz := sizeLine_eq
  refine hs_asgW (wp_bin (wp_ev ev_cst ?_))
  refine wp_draw (m := 5) (by assumption) (ρ1 := ⟨[.no, .val .pool, .no, .no, .no, .no, .no, .no, .no, .no, .no, .no, .no, .no, .no, .no, .no, .no], 0⟩) (eva_F (ev_var rfl) kp_val (eva_F ev_cst kp_val eva_nil)) (by decide) (by show 0 < _; omega) fun v hv => ?_
  refine bin_add1N _ ?_
  obtain ⟨n, hn⟩ : ∃ n, 1 + v = n := ⟨_, rfl⟩
  rw [hn]
  have n1 : 1 ≤ n := by omega
  have n5 : n ≤ 5 := by omega
  have ml : (menusL n).length ≤ 31 := by
    rw [menusL_len]
    have : 2 ^ n ≤ 2 ^ 5 := Nat.pow_le_pow_right (by decide) n5
    omega
  have mp : 0 < (menusL n).length := by
    rw [menusL_len]
    have : 2 ^ 1 ≤ 2 ^ n := Nat.pow_le_pow_right (by decide) n1
    omega
  refine' hs_asg (r := .own ((menusL n).map enc)) ?e1 sl_own (hs_asgW (wp_call h__law_table (ds := [.pool, enc n]) ?e2 ?_))
  case' e1 => walk_at "ev"
  case' e2 => exact eva_F (ev_var rfl) kp_val (eva_F (ev_var rfl) kp_val eva_nil)
  unfold sp__law_table
  refine ⟨n, rfl, n1, by omega, by show 1 + 10000 < _; omega, fun t d1 gt hd1 => ?_⟩
  have hd1 : d1 ≤ 1 + 10000 := hd1
  have ht := gt.isTab n1 (by omega)
  have tl : t.length = (menusL n).length := ht.2.2
  refine hs_asgW (wp_idx (wp_ev (ev_borO rfl) ?_))
  refine' wp_draw (m := (menusL n).length) (by assumption) (ρ1 := ⟨[.no, .val .pool, .val (enc n), .own ((menusL n).map enc), .val (enc t), .no, .no, .no, .no, .no, .no, .no, .no, .no, .no, .no, .no, .no], d1⟩) ?e3 mp (by show d1 < _; omega) fun k hk => ?_
  case' e3 => exact eva_F (ev_var rfl) kp_val (eva_F (ev_blt (eva_T (ev_borO rfl) rfl eva_nil) blt_lenL) kp_val eva_nil)
  refine idx_L hk _ ?_
  obtain ⟨m, hm'⟩ : ∃ m, (menusL n).getD k default = m := ⟨_, rfl⟩
  rw [hm']
  have hm : m ∈ menusL n := by rw [← hm', List.getD_eq_getElem?_getD, List.getElem?_eq_getElem hk]; exact List.getElem_mem hk
  have hml := menu_len hm
  have rlen : ∀ own ∈ menusL m.length, (restr1 t m own).length ≤ 5 := fun own ho => by
    have h1 := (pick_good n1 (by omega) gt (sub_menu hm ho)).1.length_le
    have h2 := menu_len ho
    rw [List.length_map] at h1
    unfold restr1
    rw [List.length_map]; omega
  have rl : (menusL m.length).length ≤ 31 := by
    rw [menusL_len]
    have : 2 ^ m.length ≤ 2 ^ 5 := Nat.pow_le_pow_right (by decide) (by omega)
    omega
  refine' hs_asg (r := .own []) ?e4 sl_own ?b4
  case' e4 => walk_at "ev"
  case' b4 =>
  refine' hs_for (xs := menusL m.length) (f := enc) (fun i ρ => ∃ z7 z8, ρ = ⟨[.no, .val .pool, .val (enc n), .own ((menusL n).map enc), .val (enc t), .val (enc m), .own ((((menusL m.length).take i).map (restr1 t m)).map enc), z7, z8, .no, .no, .no, .no, .no, .no, .no, .no, .no], d1 + 1⟩) ?e5 ?h5 ?t5 ?r5
  case' e5 => exact evi_F (ev_call h__law_menus (eva_F (ev_blt (eva_T (ev_bor rfl) rfl eva_nil) blt_lenT) kp_val eva_nil) (vl__law_menus (by omega))) kp_own itm_lst
  case' h5 => exact ⟨_, _, rfl⟩
  case' t5 =>
    rintro i own ρ hx ⟨z7, z8, rfl⟩
    refine ⟨_, tg_nm, fun Nx hN => ?_⟩
    have mem := List.mem_of_getElem? hx
    have key := sub_menu hm mem
    have gp := pick_good n1 (by omega) gt key
    have hix : ixo (menusL n) (own.map fun p => m.getD p 0) < t.length := by rw [tl]; exact ixo_lt key
    have own_lt : ∀ p ∈ own, p < m.length := menu_lt mem
    have in_menu : ∀ x ∈ t.getD (ixo (menusL n) (own.map fun p => m.getD p 0)) default, x ∈ m := fun x hx => by
      rw [pick_getD ht key] at hx
      exact sub_own mem x (gp.1.subset hx)
    have tk : (menusL m.length).take (i + 1) = (menusL m.length).take i ++ [own] := by rw [List.take_add_one, hx]; rfl
    refine' hs_asg (r := .val (enc (own.map fun p => m.getD p 0))) ?e6 sl_val ?b6
    case' e6 => walk_at "ev"
    case' b6 =>
      refine' hs_app (d := enc ((t.getD (ixo (menusL n) (own.map fun p => m.getD p 0)) default).map (ixo m))) rfl ?e7 ?x7 ?z7 ?b7
      case' e7 => walk_at "ek"
      case' x7 => rfl
      case' z7 => rw [List.length_map, List.length_map, List.length_take]; omega
      case' b7 => exact hs_end (hN _ ⟨_, _, by rw [tk, List.map_append, List.map_append, pick_getD ht key]; rfl⟩)
  case' r5 =>
  rintro ρ ⟨z7, z8, rfl⟩
  rw [List.take_length]
  -- the first question
  refine' hs_ifs (k := !true) (ev_not (ev_tst (ev_equal h__law_equal (x := enc (restrN t m)) (ev_call h_restricted (eva_F (ev_var rfl) kp_val (eva_F (ev_var rfl) kp_val eva_nil)) (vl_restricted ⟨n, n1, by omega, gt, hm⟩)) kp_val (ev_blt (eva_T (ev_borO rfl) rfl eva_nil) blt_tupL) kp_val ?k8) tru_B)) (fun h => by cases h) fun _ => hs_skip ?_
  case' k8 =>
    refine okQ_T (by unfold restrN; rw [List.length_map]; omega) fun x hx => ?_
    obtain ⟨own, ho, rfl⟩ := List.mem_map.mp hx
    exact okQ_Ns (by have := rlen own ho; omega)
  refine hs_asgW (wp_call h__law_line (ds := [.pool, enc n]) (eva_F (ev_var rfl) kp_val (eva_F (ev_var rfl) kp_val eva_nil)) ?_)
  unfold sp__law_line
  refine ⟨n, rfl, by omega, by show d1 + 1 + n < _; omega, fun names d2 hl hd2 => ?_⟩
  have hd2 : d2 ≤ d1 + 1 + n := hd2
  have nl := hl.len
  have rn : (renN n t names).length = (menusL n).length := List.length_map ..
  refine' hs_asg (r := .val (enc (renN n t names))) ?e9 sl_val ?b9
  case' e9 =>
    have := vl_renamed (table := t) (names := names) ⟨n, nl.symm, n1, by omega, gt, hl⟩
    rw [nl] at this
    exact ev_call h_renamed (eva_F (ev_var rfl) kp_val (eva_F (ev_var rfl) kp_val eva_nil)) this
  case' b9 =>
  refine hs_ifs (k := !true || !decide ((renN n t names).length = (menusL n).length)) (ev_or (ev_not (ev_tst (ev_isi (ev_bor rfl) rfl rfl) tru_B)) fun _ => ev_cmp (ev_blt (eva_T (ev_bor rfl) rfl eva_nil) blt_lenT) (ev_blt (eva_T (ev_borO rfl) rfl eva_nil) blt_lenL) cmp_neN) (fun h => ?_) fun _ => hs_skip ?_
  · simp [rn] at h
  refine' hs_for (xs := List.range (menusL n).length) (f := enc) (fun i ρ => ∃ z13 z14, ρ = ⟨[.no, .val .pool, .val (enc n), .own ((menusL n).map enc), .val (enc t), .val (enc m), .own ((restrN t m).map enc), z7, z8, .no, .no, .val (enc names), .val (enc (renN n t names)), ov z13, z14, .no, .no, .no], d2⟩) ?e10 ?h10 ?t10 ?r10
  case' e10 => exact evi_r1 (ev_blt (eva_T (ev_borO rfl) rfl eva_nil) blt_lenL) rfl (by omega)
  case' h10 => exact ⟨none, _, rfl⟩
  case' t10 =>
    rintro i k ρ hx ⟨z13, z14, rfl⟩
    have hkl : k < (menusL n).length := List.mem_range.mp (List.mem_of_getElem? hx)
    refine ⟨_, tg_nm, fun Nx hN => ?_⟩
    have mk : (menusL n).getD k default ∈ menusL n := by rw [List.getD_eq_getElem?_getD, List.getElem?_eq_getElem hkl]; exact List.getElem_mem hkl
    have tk : t.getD k default = pick t ((menusL n).getD k default) := by
      have h1 := pick_getD ht mk
      have h2 : ixo (menusL n) ((menusL n).getD k default) = k := by
        rw [List.getD_eq_getElem?_getD, List.getElem?_eq_getElem hkl]
        exact ixo_getElem (menusL_nodup n) hkl
      rw [h2] at h1; exact h1
    have gp := pick_good n1 (by omega) gt mk
    have lt1 : ∀ x ∈ (menusL n).getD k default, x < names.length := fun x hx => by rw [nl]; exact menu_lt mk x hx
    have lt2 : ∀ x ∈ t.getD k default, x < names.length := fun x hx => lt1 x (by rw [tk] at hx; exact gp.1.subset hx)
    have hkt : k < t.length := by omega
    have mn := namedN_mem hl mk
    have hix : ixo (menusL n) (namedN ((menusL n).getD k default) names) < (renN n t names).length := by rw [rn]; exact ixo_lt mn
    have told : (renN n t names).getD (ixo (menusL n) (namedN ((menusL n).getD k default) names)) default = namedN (t.getD k default) names := by
      rw [List.getD_eq_getElem?_getD, renN, List.getElem?_map, ixo_get mn, tk]
      show (lk (namedRows n t names) (namedN ((menusL n).getD k default) names)).getD [] = _
      rw [lk_named hl mk]; rfl
    refine' hs_asg (r := .val (enc (namedN ((menusL n).getD k default) names))) ?e11 sl_val ?b11
    case' e11 => walk_at "ev"
    case' b11 =>
    refine' hs_ifs (k := !true) (ev_not (ev_tst (ev_equal h__law_equal (r := .val (enc ((renN n t names).getD (ixo (menusL n) (namedN ((menusL n).getD k default) names)) default))) (x := enc (namedN (t.getD k default) names)) ?e12 (by rw [told]; exact kp_val) (s := .val (enc (namedN (t.getD k default) names))) ?e13 kp_val ?k12) tru_B)) (fun h => by cases h) fun _ => hs_skip (hs_end (hN _ ?n12))
    case' e12 => exact ev_idx (ev_bor rfl) (ev_mth (ev_borO rfl) (eva_T (ev_bor rfl) rfl eva_nil) (mth_ixL mn)) (idx_T hix)
    case' e13 => walk_at "ev"
    case' k12 =>
      refine okQ_Ns ?_
      have := gp.1.length_le
      have := menu_len mk
      rw [namedN, srt_len, List.length_map, tk]; omega
    case' n12 => exact ⟨some _, _, rfl⟩
  case' r10 =>
  rintro ρ ⟨z13, z14, rfl⟩
  refine hs_asgW (wp_call h__law_table (ds := [.pool, enc n]) (eva_F (ev_var rfl) kp_val (eva_F (ev_var rfl) kp_val eva_nil)) ?_)
  unfold sp__law_table
  refine ⟨n, rfl, n1, by omega, by show d2 + 10000 < _; omega, fun t2 d3 gt2 hd3 => ?_⟩
  have hd3 : d3 ≤ d2 + 10000 := hd3
  have ht2 := gt2.isTab n1 (by omega)
  have tl2 : t2.length = (menusL n).length := ht2.2.2
  have ez : (((menusL (thingsOf t.length)).zip (t.zip t2)).filter fun p => !decide (p.2.1 = p.2.2)).map (·.1) = ((List.range (menusL n).length).filter fun k => !decide (t.getD k default = t2.getD k default)).map fun k => (menusL n).getD k default := by
    rw [ht.things]; exact zip3_map _ _ _ tl tl2
  refine' hs_ifs (k := !true) (ev_not (ev_tst (ev_equal h__law_equal (x := .lst ((((List.range (menusL n).length).filter fun k => !decide (t.getD k default = t2.getD k default)).map fun k => (menusL n).getD k default).map enc)) (ev_call h_unlike_menus (eva_F (ev_var rfl) kp_val (eva_F (ev_var rfl) kp_val eva_nil)) (vl_unlike_menus ⟨n, ht, ht2⟩)) (by rw [ez]; exact kp_own) (s := .own ((((List.range (menusL n).length).filter fun k => !decide (t.getD k default = t2.getD k default)).map fun k => (menusL n).getD k default).map enc)) ?e14 kp_own ?k14) tru_B)) (fun h => by cases h) fun _ => hs_skip ?_
  case' e14 =>
    have i1 : ∀ k ∈ List.range (menusL n).length, k < (menusL n).length ∧ k < t.length ∧ k < t2.length := fun k hk => by have := List.mem_range.mp hk; omega
    refine' ev_comp ?p15 ?i15 ?t15 ?w15 ?b15 ?c15 ?d15
    case' p15 => cases z13 <;> rfl
    case' i15 => exact evi_r1 (ev_blt (eva_T (ev_borO rfl) rfl eva_nil) blt_lenL) rfl (by omega)
    case' t15 => exact fun _ => tg_nm
    case' w15 => exact fun _ => rfl
    case' b15 => cases z13 <;> rfl
    case' c15 => exact fun k hk => ev_cmp (ev_idx (ev_bor rfl) (ev_bor rfl) (idx_T (i1 k hk).2.1)) (ev_idx (ev_bor rfl) (ev_bor rfl) (idx_T (i1 k hk).2.2)) cmp_neT
    case' d15 => exact fun k hk _ => evk (ev_idx (ev_borO rfl) (ev_bor rfl) (idx_L (i1 k hk).1)) kp_val
  case' k14 =>
    refine okQ_L ?_ fun x hx => ?_
    · have := List.length_filter_le (fun k => !decide (t.getD k default = t2.getD k default)) (List.range (menusL n).length)
      rw [List.length_range] at this
      rw [List.length_map]; omega
    · obtain ⟨k, hk, rfl⟩ := List.mem_map.mp hx
      have hk := List.mem_range.mp (List.mem_filter.mp hk).1
      have mk : (menusL n).getD k default ∈ menusL n := by rw [List.getD_eq_getElem?_getD, List.getElem?_eq_getElem hk]; exact List.getElem_mem hk
      have := menu_len mk
      exact okQ_Ns (by omega)
  refine hs_asgW (wp_call h__law_random_picks (ds := [.pool, enc m]) (eva_F (ev_var rfl) kp_val (eva_F (ev_var rfl) kp_val eva_nil)) ?_)
  unfold sp__law_random_picks
  refine ⟨m, rfl, menu_ne hm, by omega, by show d3 + m.length + 1 < _; omega, fun rs d4 r1 r2 r3 => ?_⟩
  have im := ixo_lt hm
  refine' hs_asg (r := .val (.int (ixo (menusL n) m : Nat))) ?e16 sl_val ?b16
  case' e16 => exact ev_mth (ev_borO rfl) (eva_T (ev_bor rfl) rfl eva_nil) (mth_ixL hm)
  case' b16 =>
  have eset : t.take (ixo (menusL n) m) ++ [rs] ++ t.drop (ixo (menusL n) m + 1) = t.set (ixo (menusL n) m) rs := by
    rw [List.set_eq_take_append_cons_drop, if_pos (by rw [tl]; exact im)]
    simp
  refine' hs_ret (r := .val (.bl true)) ?e17 rfl
  case' e17 =>
  refine' ev_equal h__law_equal (x := enc (t.set (ixo (menusL n) m) rs)) (r := .val (enc (t.set (ixo (menusL n) m) rs))) ?e18 kp_val (s := .val (.tup ((t.take (ixo (menusL n) m) ++ [rs] ++ t.drop (ixo (menusL n) m + 1)).map enc))) ?e19 (by rw [eset]; exact kp_val) ?k19
  case' e18 =>
    have := vl_table_with (table := t) (menu := m) (picked := rs) ⟨n, ht, hm⟩
    rw [ht.things] at this
    exact ev_call h_table_with (eva_F (ev_var rfl) kp_val (eva_F (ev_var rfl) kp_val (eva_F (ev_var rfl) kp_val eva_nil))) this
  case' e19 =>
    have c1 := ev_slcT (C := C) (ρ := ⟨[.no, .val .pool, .val (enc n), .own ((menusL n).map enc), .val (enc t), .val (enc m), .own ((restrN t m).map enc), z7, z8, .no, .no, .val (enc names), .val (enc (renN n t names)), ov z13, z14, .val (enc t2), .val (enc rs), .val (.int (ixo (menusL n) m : Nat))], d4⟩) (a := .bor 4) (hi := .bor 17) rfl (ev_bor rfl) (ev_bor rfl) rfl (slc_T (xs := t))
    rw [cut_take] at c1
    have c2 := ev_slcF (C := C) (ρ := ⟨[.no, .val .pool, .val (enc n), .own ((menusL n).map enc), .val (enc t), .val (enc m), .own ((restrN t m).map enc), z7, z8, .no, .no, .val (enc names), .val (enc (renN n t names)), ov z13, z14, .val (enc t2), .val (enc rs), .val (.int (ixo (menusL n) m : Nat))], d4⟩) (a := .bor 4) (lo := .bin .add (.bor 17) (.cst (.int 1))) rfl (ev_bor rfl) (ev_bin (ev_bor rfl) ev_cst bin_add) rfl (slc_T (xs := t))
    rw [cut_from1] at c2
    exact ev_bin (ev_bin c1 (ev_tup (eva_F (ev_var rfl) kp_val eva_nil) (by show 1 ≤ sizeLine; decide)) (bin_addT1 (by rw [List.length_take]; omega))) c2 (bin_addT (by simp; omega))
  case' k19 =>
    refine okQ_T (by rw [List.length_set]; omega) fun x hx => okQ_Ns ?_
    rcases List.mem_or_eq_of_mem_set hx with h | rfl
    · obtain ⟨i, hi, e⟩ := List.getElem_of_mem h
      have h1 : (menusL n)[i]? = some (menusL n)[i] := List.getElem?_eq_getElem (by omega)
      have h2 := gt.2 i _ x h1 (by rw [List.getElem?_eq_getElem hi, e])
      have := h2.1.length_le
      have := menu_len (List.mem_of_getElem? h1)
      omega
    · have := r2.length_le; omega

end PL
namespace PL
open PySem PySem.Spec PyProof.Rows L2
def top (i : Nat) : Stmt := PySem.Challenge.pw_whypicked_k02_tables_cut_and_named.main.body.getD i (.Pass ⟨0, 0, 0, 0⟩)
abbrev s__law_cell : Stmt := top 12
abbrev s__law_draw : Stmt := top 15
abbrev s__law_pool : Stmt := top 14
abbrev s__law_numbers : Stmt := top 13
abbrev s__law_menus : Stmt := top 18
abbrev s__law_random_picks : Stmt := top 28
abbrev s__law_tidy : Stmt := top 20
abbrev s__law_ranks : Stmt := top 21
abbrev s__law_least : Stmt := top 22
abbrev s__law_line : Stmt := top 19
abbrev s__law_beats : Stmt := top 24
abbrev s__law_steps : Stmt := top 25
abbrev s__law_best : Stmt := top 23
abbrev s__law_first : Stmt := top 26
abbrev s__law_picks_of_lines : Stmt := top 27
abbrev s__law_table : Stmt := top 29
abbrev s_subsets_of : Stmt := top 1
abbrev s_menus : Stmt := top 3
abbrev s_things_of : Stmt := top 4
abbrev s_by_menus : Stmt := top 5
abbrev s_restricted : Stmt := top 6
abbrev s_named : Stmt := top 8
abbrev s_renamed : Stmt := top 7
abbrev s_unlike_menus : Stmt := top 10
abbrev s_table_with : Stmt := top 9
abbrev s__law_kind : Stmt := top 16
abbrev s__law_equal : Stmt := top 17
abbrev s_law : Stmt := top 30
theorem sc__law_cell : FnScope ["script", "k"] ["script", "k"] (C8.fnScope s__law_cell) := C8.fnScope_by (by decide +kernel)
theorem sc__law_draw : FnScope ["pool", "many", "at", "turn"] ["pool", "many"] (C8.fnScope s__law_draw) := C8.fnScope_by (by decide +kernel)
theorem sc__law_pool : FnScope ["script", "rows", "k"] ["script"] (C8.fnScope s__law_pool) := C8.fnScope_by (by decide +kernel)
theorem sc__law_numbers : FnScope ["cell", "many", "rows", "left", "k", "mixed"] ["cell", "many"] (C8.fnScope s__law_numbers) := C8.fnScope_by (by decide +kernel)
theorem sc__law_menus : FnScope ["n", "found", "thing", "row"] ["n"] (C8.fnScope s__law_menus) := C8.fnScope_by (by decide +kernel)
theorem sc__law_random_picks : FnScope ["pool", "menu", "found", "thing"] ["pool", "menu"] (C8.fnScope s__law_random_picks) := C8.fnScope_by (by decide +kernel)
theorem sc__law_tidy : FnScope ["numbers", "steps", "number"] ["numbers"] (C8.fnScope s__law_tidy) := C8.fnScope_by (by decide +kernel)
theorem sc__law_ranks : FnScope ["pool", "n", "k"] ["pool", "n"] (C8.fnScope s__law_ranks) := C8.fnScope_by (by decide +kernel)
theorem sc__law_least : FnScope ["ranks", "menu", "least", "thing"] ["ranks", "menu"] (C8.fnScope s__law_least) := C8.fnScope_by (by decide +kernel)
theorem sc__law_line : FnScope ["pool", "n", "left", "line", "k"] ["pool", "n"] (C8.fnScope s__law_line) := C8.fnScope_by (by decide +kernel)
theorem sc__law_beats : FnScope ["pool", "n", "lean", "line", "found", "i", "j"] ["pool", "n", "lean"] (C8.fnScope s__law_beats) := C8.fnScope_by (by decide +kernel)
theorem sc__law_steps : FnScope ["relation", "found", "pair", "k", "a", "b", "c", "d"] ["relation"] (C8.fnScope s__law_steps) := C8.fnScope_by (by decide +kernel)
theorem sc__law_best : FnScope ["relation", "menu", "thing", "other"] ["relation", "menu"] (C8.fnScope s__law_best) := C8.fnScope_by (by decide +kernel)
theorem sc__law_first : FnScope ["line", "menu", "thing"] ["line", "menu"] (C8.fnScope s__law_first) := C8.fnScope_by (by decide +kernel)
theorem sc__law_picks_of_lines : FnScope ["lines", "menu", "found", "line"] ["lines", "menu"] (C8.fnScope s__law_picks_of_lines) := C8.fnScope_by (by decide +kernel)
theorem sc__law_table : FnScope ["pool", "n", "rows", "way", "menu", "ranks", "table", "relation", "lines", "k", "at"] ["pool", "n"] (C8.fnScope s__law_table) := C8.fnScope_by (by decide +kernel)
theorem sc_subsets_of : FnScope ["items", "found", "item", "row"] ["items"] (C8.fnScope s_subsets_of) := C8.fnScope_by (by decide +kernel)
theorem sc_menus : FnScope ["things", "row"] ["things"] (C8.fnScope s_menus) := C8.fnScope_by (by decide +kernel)
theorem sc_things_of : FnScope ["table", "found"] ["table"] (C8.fnScope s_things_of) := C8.fnScope_by (by decide +kernel)
theorem sc_by_menus : FnScope ["table", "menu", "picks"] ["table"] (C8.fnScope s_by_menus) := C8.fnScope_by (by decide +kernel)
theorem sc_restricted : FnScope ["table", "menu", "rows", "found", "own", "real", "place", "thing"] ["table", "menu"] (C8.fnScope s_restricted) := C8.fnScope_by (by decide +kernel)
theorem sc_named : FnScope ["row", "names", "thing"] ["row", "names"] (C8.fnScope s_named) := C8.fnScope_by (by decide +kernel)
theorem sc_renamed : FnScope ["table", "names", "things", "rows", "menu", "picked"] ["table", "names"] (C8.fnScope s_renamed) := C8.fnScope_by (by decide +kernel)
theorem sc_unlike_menus : FnScope ["one", "two", "rows", "menu", "a", "b"] ["one", "two"] (C8.fnScope s_unlike_menus) := C8.fnScope_by (by decide +kernel)
theorem sc_table_with : FnScope ["table", "menu", "picked", "rows", "own", "old"] ["table", "menu", "picked"] (C8.fnScope s_table_with) := C8.fnScope_by (by decide +kernel)
theorem sc__law_kind : FnScope ["x"] ["x"] (C8.fnScope s__law_kind) := C8.fnScope_by (by decide +kernel)
theorem sc__law_equal : FnScope ["x", "due", "k"] ["x", "due"] (C8.fnScope s__law_equal) := C8.fnScope_by (by decide +kernel)
theorem sc_law : FnScope ["script", "pool", "n", "rows", "table", "menu", "due", "own", "real", "place", "thing", "names", "told", "k", "there", "other", "picked", "at"] ["script"] (C8.fnScope s_law) := C8.fnScope_by (by decide +kernel)
theorem ck__law_menus : okB ir__law_menus ⟨nm__law_menus, C8.fnScope s__law_menus, none, fs__law_menus, cs__law_menus⟩ (C8.fnBody s__law_menus) = true := by decide +kernel
theorem ck__law_random_picks : okB ir__law_random_picks ⟨nm__law_random_picks, C8.fnScope s__law_random_picks, none, fs__law_random_picks, cs__law_random_picks⟩ (C8.fnBody s__law_random_picks) = true := by decide +kernel
theorem ck__law_tidy : okB ir__law_tidy ⟨nm__law_tidy, C8.fnScope s__law_tidy, none, fs__law_tidy, cs__law_tidy⟩ (C8.fnBody s__law_tidy) = true := by decide +kernel
theorem ck__law_ranks : okB ir__law_ranks ⟨nm__law_ranks, C8.fnScope s__law_ranks, none, fs__law_ranks, cs__law_ranks⟩ (C8.fnBody s__law_ranks) = true := by decide +kernel
theorem ck__law_least : okB ir__law_least ⟨nm__law_least, C8.fnScope s__law_least, none, fs__law_least, cs__law_least⟩ (C8.fnBody s__law_least) = true := by decide +kernel
theorem ck__law_line : okB ir__law_line ⟨nm__law_line, C8.fnScope s__law_line, none, fs__law_line, cs__law_line⟩ (C8.fnBody s__law_line) = true := by decide +kernel
theorem ck__law_beats : okB ir__law_beats ⟨nm__law_beats, C8.fnScope s__law_beats, none, fs__law_beats, cs__law_beats⟩ (C8.fnBody s__law_beats) = true := by decide +kernel
theorem ck__law_steps : okB ir__law_steps ⟨nm__law_steps, C8.fnScope s__law_steps, none, fs__law_steps, cs__law_steps⟩ (C8.fnBody s__law_steps) = true := by decide +kernel
theorem ck__law_best : okB ir__law_best ⟨nm__law_best, C8.fnScope s__law_best, none, fs__law_best, cs__law_best⟩ (C8.fnBody s__law_best) = true := by decide +kernel
theorem ck__law_first : okB ir__law_first ⟨nm__law_first, C8.fnScope s__law_first, none, fs__law_first, cs__law_first⟩ (C8.fnBody s__law_first) = true := by decide +kernel
theorem ck__law_picks_of_lines : okB ir__law_picks_of_lines ⟨nm__law_picks_of_lines, C8.fnScope s__law_picks_of_lines, none, fs__law_picks_of_lines, cs__law_picks_of_lines⟩ (C8.fnBody s__law_picks_of_lines) = true := by decide +kernel
theorem ck__law_table : okB ir__law_table ⟨nm__law_table, C8.fnScope s__law_table, none, fs__law_table, cs__law_table⟩ (C8.fnBody s__law_table) = true := by decide +kernel
theorem ck_subsets_of : okB ir_subsets_of ⟨nm_subsets_of, C8.fnScope s_subsets_of, none, fs_subsets_of, cs_subsets_of⟩ (C8.fnBody s_subsets_of) = true := by decide +kernel
theorem ck_menus : okB ir_menus ⟨nm_menus, C8.fnScope s_menus, none, fs_menus, cs_menus⟩ (C8.fnBody s_menus) = true := by decide +kernel
theorem ck_things_of : okB ir_things_of ⟨nm_things_of, C8.fnScope s_things_of, none, fs_things_of, cs_things_of⟩ (C8.fnBody s_things_of) = true := by decide +kernel
theorem ck_by_menus : okB ir_by_menus ⟨nm_by_menus, C8.fnScope s_by_menus, none, fs_by_menus, cs_by_menus⟩ (C8.fnBody s_by_menus) = true := by decide +kernel
theorem ck_restricted : okB ir_restricted ⟨nm_restricted, C8.fnScope s_restricted, none, fs_restricted, cs_restricted⟩ (C8.fnBody s_restricted) = true := by decide +kernel
theorem ck_named : okB ir_named ⟨nm_named, C8.fnScope s_named, none, fs_named, cs_named⟩ (C8.fnBody s_named) = true := by decide +kernel
theorem ck_renamed : okB ir_renamed ⟨nm_renamed, C8.fnScope s_renamed, none, fs_renamed, cs_renamed⟩ (C8.fnBody s_renamed) = true := by decide +kernel
theorem ck_unlike_menus : okB ir_unlike_menus ⟨nm_unlike_menus, C8.fnScope s_unlike_menus, none, fs_unlike_menus, cs_unlike_menus⟩ (C8.fnBody s_unlike_menus) = true := by decide +kernel
theorem ck_table_with : okB ir_table_with ⟨nm_table_with, C8.fnScope s_table_with, none, fs_table_with, cs_table_with⟩ (C8.fnBody s_table_with) = true := by decide +kernel
theorem ck__law_numbers : okB ir__law_numbers ⟨nm__law_numbers, C8.fnScope s__law_numbers, none, fs__law_numbers, cs__law_numbers⟩ (C8.fnBody s__law_numbers) = true := by decide +kernel
theorem ck__law_equal : okB ir__law_equal ⟨nm__law_equal, C8.fnScope s__law_equal, none, fs__law_equal, cs__law_equal⟩ (C8.fnBody s__law_equal) = true := by decide +kernel
theorem ck__law_kind : okB ir__law_kind ⟨nm__law_kind, C8.fnScope s__law_kind, none, fs__law_kind, cs__law_kind⟩ (C8.fnBody s__law_kind) = true := by decide +kernel
def spsE (e : Spec) : Nat → Spec
  | 112 => sp__law_menus
  | 155 => sp__law_random_picks
  | 207 => sp__law_tidy
  | 158 => sp__law_ranks
  | 94 => sp__law_least
  | 101 => sp__law_line
  | 15 => sp__law_beats
  | 197 => sp__law_steps
  | 22 => sp__law_best
  | 59 => sp__law_first
  | 142 => sp__law_picks_of_lines
  | 202 => sp__law_table
  | 705 => sp_subsets_of
  | 580 => sp_menus
  | 725 => sp_things_of
  | 302 => sp_by_menus
  | 660 => sp_restricted
  | 597 => sp_named
  | 656 => sp_renamed
  | 744 => sp_unlike_menus
  | 721 => sp_table_with
  | 50 => sp_draw
  | 91 => sp__law_kind
  | 52 => e
  | 125 => sp_numbers
  | _ => fun _ _ _ _ => False
theorem all_ok {l : PySem.W.OpenLaw} (hl : l.prog = PySem.Challenge.pw_whypicked_k02_tables_cut_and_named) {w : World} {K : PySem.W.Frag} {h : Heap} {mg : Str → Option Value} {fa : Addr} (X : K.In h) (G : h.Ns mainGlobals mg) (hfa : mg "law" = some (.ref fa)) (hb : BltOk mg)
    (d__law_cell : DF K "_law_cell" s__law_cell)
    (d__law_draw : DF K "_law_draw" s__law_draw)
    (d__law_pool : DF K "_law_pool" s__law_pool)
    (d__law_numbers : DF K "_law_numbers" s__law_numbers)
    (d__law_menus : DF K "_law_menus" s__law_menus)
    (d__law_random_picks : DF K "_law_random_picks" s__law_random_picks)
    (d__law_tidy : DF K "_law_tidy" s__law_tidy)
    (d__law_ranks : DF K "_law_ranks" s__law_ranks)
    (d__law_least : DF K "_law_least" s__law_least)
    (d__law_line : DF K "_law_line" s__law_line)
    (d__law_beats : DF K "_law_beats" s__law_beats)
    (d__law_steps : DF K "_law_steps" s__law_steps)
    (d__law_best : DF K "_law_best" s__law_best)
    (d__law_first : DF K "_law_first" s__law_first)
    (d__law_picks_of_lines : DF K "_law_picks_of_lines" s__law_picks_of_lines)
    (d__law_table : DF K "_law_table" s__law_table)
    (d_subsets_of : DF K "subsets_of" s_subsets_of)
    (d_menus : DF K "menus" s_menus)
    (d_things_of : DF K "things_of" s_things_of)
    (d_by_menus : DF K "by_menus" s_by_menus)
    (d_restricted : DF K "restricted" s_restricted)
    (d_named : DF K "named" s_named)
    (d_renamed : DF K "renamed" s_renamed)
    (d_unlike_menus : DF K "unlike_menus" s_unlike_menus)
    (d_table_with : DF K "table_with" s_table_with)
    (d__law_kind : DF K "_law_kind" s__law_kind)
    (d__law_equal : DF K "_law_equal" s__law_equal)
    (d_law : DF K "law" s_law) :
    ∃ fd : FuncData, (∀ (s : Shared) (v : Value), BindsTo s fd ⟨[v], []⟩ [("script", v)]) ∧ ∀ base : Heap, K.In base → base.Ns mainGlobals mg → FnOk l.prog w K mg base C8.CX0 6 fa fd ["script"] (spLaw K) := by
  obtain ⟨f__law_cell, fd__law_cell, D__law_cell, b__law_cell⟩ := df_ok X G d__law_cell ["script", "k"] fun _ _ _ _ _ _ us hl => match us, hl with | [_, _], _ => rfl
  obtain ⟨f__law_draw, fd__law_draw, D__law_draw, b__law_draw⟩ := df_ok X G d__law_draw ["pool", "many"] fun _ _ _ _ _ _ us hl => match us, hl with | [_, _], _ => rfl
  obtain ⟨f__law_pool, fd__law_pool, D__law_pool, b__law_pool⟩ := df_ok X G d__law_pool ["script"] fun _ _ _ _ _ _ us hl => match us, hl with | [_], _ => rfl
  obtain ⟨f__law_numbers, fd__law_numbers, D__law_numbers, b__law_numbers⟩ := df_ok X G d__law_numbers ["cell", "many"] fun _ _ _ _ _ _ us hl => match us, hl with | [_, _], _ => rfl
  obtain ⟨f__law_menus, fd__law_menus, D__law_menus, b__law_menus⟩ := df_ok X G d__law_menus ["n"] fun _ _ _ _ _ _ us hl => match us, hl with | [_], _ => rfl
  obtain ⟨f__law_random_picks, fd__law_random_picks, D__law_random_picks, b__law_random_picks⟩ := df_ok X G d__law_random_picks ["pool", "menu"] fun _ _ _ _ _ _ us hl => match us, hl with | [_, _], _ => rfl
  obtain ⟨f__law_tidy, fd__law_tidy, D__law_tidy, b__law_tidy⟩ := df_ok X G d__law_tidy ["numbers"] fun _ _ _ _ _ _ us hl => match us, hl with | [_], _ => rfl
  obtain ⟨f__law_ranks, fd__law_ranks, D__law_ranks, b__law_ranks⟩ := df_ok X G d__law_ranks ["pool", "n"] fun _ _ _ _ _ _ us hl => match us, hl with | [_, _], _ => rfl
  obtain ⟨f__law_least, fd__law_least, D__law_least, b__law_least⟩ := df_ok X G d__law_least ["ranks", "menu"] fun _ _ _ _ _ _ us hl => match us, hl with | [_, _], _ => rfl
  obtain ⟨f__law_line, fd__law_line, D__law_line, b__law_line⟩ := df_ok X G d__law_line ["pool", "n"] fun _ _ _ _ _ _ us hl => match us, hl with | [_, _], _ => rfl
  obtain ⟨f__law_beats, fd__law_beats, D__law_beats, b__law_beats⟩ := df_ok X G d__law_beats ["pool", "n", "lean"] fun _ _ _ _ _ _ us hl => match us, hl with | [_, _, _], _ => rfl
  obtain ⟨f__law_steps, fd__law_steps, D__law_steps, b__law_steps⟩ := df_ok X G d__law_steps ["relation"] fun _ _ _ _ _ _ us hl => match us, hl with | [_], _ => rfl
  obtain ⟨f__law_best, fd__law_best, D__law_best, b__law_best⟩ := df_ok X G d__law_best ["relation", "menu"] fun _ _ _ _ _ _ us hl => match us, hl with | [_, _], _ => rfl
  obtain ⟨f__law_first, fd__law_first, D__law_first, b__law_first⟩ := df_ok X G d__law_first ["line", "menu"] fun _ _ _ _ _ _ us hl => match us, hl with | [_, _], _ => rfl
  obtain ⟨f__law_picks_of_lines, fd__law_picks_of_lines, D__law_picks_of_lines, b__law_picks_of_lines⟩ := df_ok X G d__law_picks_of_lines ["lines", "menu"] fun _ _ _ _ _ _ us hl => match us, hl with | [_, _], _ => rfl
  obtain ⟨f__law_table, fd__law_table, D__law_table, b__law_table⟩ := df_ok X G d__law_table ["pool", "n"] fun _ _ _ _ _ _ us hl => match us, hl with | [_, _], _ => rfl
  obtain ⟨f_subsets_of, fd_subsets_of, D_subsets_of, b_subsets_of⟩ := df_ok X G d_subsets_of ["items"] fun _ _ _ _ _ _ us hl => match us, hl with | [_], _ => rfl
  obtain ⟨f_menus, fd_menus, D_menus, b_menus⟩ := df_ok X G d_menus ["things"] fun _ _ _ _ _ _ us hl => match us, hl with | [_], _ => rfl
  obtain ⟨f_things_of, fd_things_of, D_things_of, b_things_of⟩ := df_ok X G d_things_of ["table"] fun _ _ _ _ _ _ us hl => match us, hl with | [_], _ => rfl
  obtain ⟨f_by_menus, fd_by_menus, D_by_menus, b_by_menus⟩ := df_ok X G d_by_menus ["table"] fun _ _ _ _ _ _ us hl => match us, hl with | [_], _ => rfl
  obtain ⟨f_restricted, fd_restricted, D_restricted, b_restricted⟩ := df_ok X G d_restricted ["table", "menu"] fun _ _ _ _ _ _ us hl => match us, hl with | [_, _], _ => rfl
  obtain ⟨f_named, fd_named, D_named, b_named⟩ := df_ok X G d_named ["row", "names"] fun _ _ _ _ _ _ us hl => match us, hl with | [_, _], _ => rfl
  obtain ⟨f_renamed, fd_renamed, D_renamed, b_renamed⟩ := df_ok X G d_renamed ["table", "names"] fun _ _ _ _ _ _ us hl => match us, hl with | [_, _], _ => rfl
  obtain ⟨f_unlike_menus, fd_unlike_menus, D_unlike_menus, b_unlike_menus⟩ := df_ok X G d_unlike_menus ["one", "two"] fun _ _ _ _ _ _ us hl => match us, hl with | [_, _], _ => rfl
  obtain ⟨f_table_with, fd_table_with, D_table_with, b_table_with⟩ := df_ok X G d_table_with ["table", "menu", "picked"] fun _ _ _ _ _ _ us hl => match us, hl with | [_, _, _], _ => rfl
  obtain ⟨f__law_kind, fd__law_kind, D__law_kind, b__law_kind⟩ := df_ok X G d__law_kind ["x"] fun _ _ _ _ _ _ us hl => match us, hl with | [_], _ => rfl
  obtain ⟨f__law_equal, fd__law_equal, D__law_equal, b__law_equal⟩ := df_ok X G d__law_equal ["x", "due"] fun _ _ _ _ _ _ us hl => match us, hl with | [_, _], _ => rfl
  obtain ⟨fl, oc, od, kV, doc, pm, an, cdv, ct, osl, a, lk, c, kp⟩ := d_law
  have e := hfa.symm.trans (PySem.W.mg_of X G a)
  cases e
  have FL : C8.Fun K "law" "law" s_law fa _ := ⟨⟨oc, od, .none, kV, doc, pm, an, cdv, ct, osl, rfl, lk, c⟩⟩
  refine ⟨PySem.W.fnOf "law" "law" (C8.fnArgs s_law) (C8.fnBody s_law) (C8.fnScope s_law) .none kV doc pm an cdv ct, fun s v => .of_eq rfl, fun base _ _ => ?_⟩
  have c__law_cell : C8.Cal l.prog w K mg base 1 "_law_cell" (spCell K) [] := cell_ok D__law_cell b__law_cell sc__law_cell hb (by decide +kernel) rfl
  have c_draw : C8.Cal l.prog w K mg base 1 "_law_draw" (lift K w sp_draw) [] := draw_ok D__law_draw b__law_draw sc__law_draw hb (by decide +kernel) rfl
  have c_numbers : C8.Cal l.prog w K mg base 1 "_law_numbers" (lift K w (sp_numbers)) [] := def_ok (N := nm__law_numbers) (ps := ["cell", "many"]) (j := 0) (fs := fs__law_numbers) (cs := cs__law_numbers) (sps := (spsE (sp__law_equal 3))) (body := ir__law_numbers) D__law_numbers b__law_numbers sc__law_numbers (by decide) hb cs_nil fns_nil ck__law_numbers (fun _ _ _ _ ⟨_, _, e, _⟩ => by rw [e]; rfl) (numbers_wp _)
  have c_pool : C8.Cal l.prog w K mg base 2 "_law_pool" (spPool K) [] := pool_ok (j := 1) D__law_pool b__law_pool sc__law_pool hb c__law_cell (by decide) c_numbers (by decide) (by decide +kernel) rfl
  have c__law_kind : C8.Cal l.prog w K mg base 1 "_law_kind" (lift K w (sp__law_kind)) [] := def_ok (N := nm__law_kind) (ps := ["x"]) (j := 0) (fs := fs__law_kind) (cs := cs__law_kind) (sps := (spsE (sp__law_equal 3))) (body := ir__law_kind) D__law_kind b__law_kind sc__law_kind (by decide) hb cs_nil fns_nil ck__law_kind (fun ds dr Q _ hh => by unfold sp__law_kind at hh; obtain ⟨_, e, _⟩ := hh; rw [e]; rfl) (wp__law_kind _ _ )
  have c__law_menus : C8.Cal l.prog w K mg base 1 "_law_menus" (lift K w (sp__law_menus)) [] := def_ok (N := nm__law_menus) (ps := ["n"]) (j := 0) (fs := fs__law_menus) (cs := cs__law_menus) (sps := (spsE (sp__law_equal 3))) (body := ir__law_menus) D__law_menus b__law_menus sc__law_menus (by decide) hb cs_nil fns_nil ck__law_menus (fun ds dr Q _ hh => by unfold sp__law_menus at hh; obtain ⟨_, e, _⟩ := hh; rw [e]; rfl) (wp__law_menus _ _ )
  have c__law_random_picks : C8.Cal l.prog w K mg base 2 "_law_random_picks" (lift K w (sp__law_random_picks)) [] := def_ok (N := nm__law_random_picks) (ps := ["pool", "menu"]) (j := 1) (fs := fs__law_random_picks) (cs := cs__law_random_picks) (sps := (spsE (sp__law_equal 3))) (body := ir__law_random_picks) D__law_random_picks b__law_random_picks sc__law_random_picks (by decide) hb cs_nil (fns_cons c_draw (by decide) fns_nil) ck__law_random_picks (fun ds dr Q _ hh => by unfold sp__law_random_picks at hh; obtain ⟨_, e, _⟩ := hh; rw [e]; rfl) (wp__law_random_picks _ _ rfl)
  have c__law_tidy : C8.Cal l.prog w K mg base 1 "_law_tidy" (lift K w (sp__law_tidy)) [] := def_ok (N := nm__law_tidy) (ps := ["numbers"]) (j := 0) (fs := fs__law_tidy) (cs := cs__law_tidy) (sps := (spsE (sp__law_equal 3))) (body := ir__law_tidy) D__law_tidy b__law_tidy sc__law_tidy (by decide) hb cs_nil fns_nil ck__law_tidy (fun ds dr Q _ hh => by unfold sp__law_tidy at hh; obtain ⟨_, e, _⟩ := hh; rw [e]; rfl) (wp__law_tidy _ _ )
  have c__law_ranks : C8.Cal l.prog w K mg base 2 "_law_ranks" (lift K w (sp__law_ranks)) [] := def_ok (N := nm__law_ranks) (ps := ["pool", "n"]) (j := 1) (fs := fs__law_ranks) (cs := cs__law_ranks) (sps := (spsE (sp__law_equal 3))) (body := ir__law_ranks) D__law_ranks b__law_ranks sc__law_ranks (by decide) hb cs_nil (fns_cons c__law_tidy (by decide) (fns_cons c_draw (by decide) fns_nil)) ck__law_ranks (fun ds dr Q _ hh => by unfold sp__law_ranks at hh; obtain ⟨_, e, _⟩ := hh; rw [e]; rfl) (wp__law_ranks _ _ rfl rfl)
  have c__law_least : C8.Cal l.prog w K mg base 1 "_law_least" (lift K w (sp__law_least)) [] := def_ok (N := nm__law_least) (ps := ["ranks", "menu"]) (j := 0) (fs := fs__law_least) (cs := cs__law_least) (sps := (spsE (sp__law_equal 3))) (body := ir__law_least) D__law_least b__law_least sc__law_least (by decide) hb cs_nil fns_nil ck__law_least (fun ds dr Q _ hh => by unfold sp__law_least at hh; obtain ⟨_, _, e, _⟩ := hh; rw [e]; rfl) (wp__law_least _ _ )
  have c__law_line : C8.Cal l.prog w K mg base 2 "_law_line" (lift K w (sp__law_line)) [] := def_ok (N := nm__law_line) (ps := ["pool", "n"]) (j := 1) (fs := fs__law_line) (cs := cs__law_line) (sps := (spsE (sp__law_equal 3))) (body := ir__law_line) D__law_line b__law_line sc__law_line (by decide) hb cs_nil (fns_cons c_draw (by decide) fns_nil) ck__law_line (fun ds dr Q _ hh => by unfold sp__law_line at hh; obtain ⟨_, e, _⟩ := hh; rw [e]; rfl) (wp__law_line _ _ rfl)
  have c__law_beats : C8.Cal l.prog w K mg base 3 "_law_beats" (lift K w (sp__law_beats)) [] := def_ok (N := nm__law_beats) (ps := ["pool", "n", "lean"]) (j := 2) (fs := fs__law_beats) (cs := cs__law_beats) (sps := (spsE (sp__law_equal 3))) (body := ir__law_beats) D__law_beats b__law_beats sc__law_beats (by decide) hb cs_nil (fns_cons c__law_line (by decide) (fns_cons c_draw (by decide) fns_nil)) ck__law_beats (fun ds dr Q _ hh => by unfold sp__law_beats at hh; obtain ⟨_, _, e, _⟩ := hh; rw [e]; rfl) (wp__law_beats _ _ rfl rfl)
  have c__law_steps : C8.Cal l.prog w K mg base 1 "_law_steps" (lift K w (sp__law_steps)) [] := def_ok (N := nm__law_steps) (ps := ["relation"]) (j := 0) (fs := fs__law_steps) (cs := cs__law_steps) (sps := (spsE (sp__law_equal 3))) (body := ir__law_steps) D__law_steps b__law_steps sc__law_steps (by decide) hb cs_nil fns_nil ck__law_steps (fun ds dr Q _ hh => by unfold sp__law_steps at hh; obtain ⟨_, _, _, e, _⟩ := hh; rw [e]; rfl) (wp__law_steps _ _ )
  have c__law_best : C8.Cal l.prog w K mg base 1 "_law_best" (lift K w (sp__law_best)) [] := def_ok (N := nm__law_best) (ps := ["relation", "menu"]) (j := 0) (fs := fs__law_best) (cs := cs__law_best) (sps := (spsE (sp__law_equal 3))) (body := ir__law_best) D__law_best b__law_best sc__law_best (by decide) hb cs_nil fns_nil ck__law_best (fun ds dr Q _ hh => by unfold sp__law_best at hh; obtain ⟨_, _, e, _⟩ := hh; rw [e]; rfl) (wp__law_best _ _ )
  have c__law_first : C8.Cal l.prog w K mg base 1 "_law_first" (lift K w (sp__law_first)) [] := def_ok (N := nm__law_first) (ps := ["line", "menu"]) (j := 0) (fs := fs__law_first) (cs := cs__law_first) (sps := (spsE (sp__law_equal 3))) (body := ir__law_first) D__law_first b__law_first sc__law_first (by decide) hb cs_nil fns_nil ck__law_first (fun ds dr Q _ hh => by unfold sp__law_first at hh; obtain ⟨_, _, e, _⟩ := hh; rw [e]; rfl) (wp__law_first _ _ )
  have c__law_picks_of_lines : C8.Cal l.prog w K mg base 2 "_law_picks_of_lines" (lift K w (sp__law_picks_of_lines)) [] := def_ok (N := nm__law_picks_of_lines) (ps := ["lines", "menu"]) (j := 1) (fs := fs__law_picks_of_lines) (cs := cs__law_picks_of_lines) (sps := (spsE (sp__law_equal 3))) (body := ir__law_picks_of_lines) D__law_picks_of_lines b__law_picks_of_lines sc__law_picks_of_lines (by decide) hb cs_nil (fns_cons c__law_first (by decide) fns_nil) ck__law_picks_of_lines (fun ds dr Q _ hh => by unfold sp__law_picks_of_lines at hh; obtain ⟨_, _, e, _⟩ := hh; rw [e]; rfl) (wp__law_picks_of_lines _ _ rfl)
  have c__law_table : C8.Cal l.prog w K mg base 4 "_law_table" (lift K w (sp__law_table)) [] := def_ok (N := nm__law_table) (ps := ["pool", "n"]) (j := 3) (fs := fs__law_table) (cs := cs__law_table) (sps := (spsE (sp__law_equal 3))) (body := ir__law_table) D__law_table b__law_table sc__law_table (by decide) hb cs_nil (fns_cons c__law_menus (by decide) (fns_cons c_draw (by decide) (fns_cons c__law_random_picks (by decide) (fns_cons c__law_ranks (by decide) (fns_cons c__law_least (by decide) (fns_cons c__law_beats (by decide) (fns_cons c__law_steps (by decide) (fns_cons c__law_best (by decide) (fns_cons c__law_line (by decide) (fns_cons c__law_picks_of_lines (by decide) fns_nil)))))))))) ck__law_table (fun ds dr Q _ hh => by unfold sp__law_table at hh; obtain ⟨_, e, _⟩ := hh; rw [e]; rfl) (wp__law_table _ _ rfl rfl rfl rfl rfl rfl rfl rfl rfl rfl)
  have c_subsets_of : C8.Cal l.prog w K mg base 1 "subsets_of" (lift K w (sp_subsets_of)) [] := def_ok (N := nm_subsets_of) (ps := ["items"]) (j := 0) (fs := fs_subsets_of) (cs := cs_subsets_of) (sps := (spsE (sp__law_equal 3))) (body := ir_subsets_of) D_subsets_of b_subsets_of sc_subsets_of (by decide) hb cs_nil fns_nil ck_subsets_of (fun ds dr Q _ hh => by unfold sp_subsets_of at hh; obtain ⟨_, e, _⟩ := hh; rw [e]; rfl) (wp_subsets_of _ _ )
  have c_menus : C8.Cal l.prog w K mg base 2 "menus" (lift K w (sp_menus)) [] := def_ok (N := nm_menus) (ps := ["things"]) (j := 1) (fs := fs_menus) (cs := cs_menus) (sps := (spsE (sp__law_equal 3))) (body := ir_menus) D_menus b_menus sc_menus (by decide) hb cs_nil (fns_cons c_subsets_of (by decide) fns_nil) ck_menus (fun ds dr Q _ hh => by unfold sp_menus at hh; obtain ⟨_, e, _⟩ := hh; rw [e]; rfl) (wp_menus _ _ rfl)
  have c_things_of : C8.Cal l.prog w K mg base 3 "things_of" (lift K w (sp_things_of)) [] := def_ok (N := nm_things_of) (ps := ["table"]) (j := 2) (fs := fs_things_of) (cs := cs_things_of) (sps := (spsE (sp__law_equal 3))) (body := ir_things_of) D_things_of b_things_of sc_things_of (by decide) hb cs_nil (fns_cons c_menus (by decide) fns_nil) ck_things_of (fun ds dr Q _ hh => by unfold sp_things_of at hh; obtain ⟨_, e, _⟩ := hh; rw [e]; rfl) (wp_things_of _ _ rfl)
  have c_by_menus : C8.Cal l.prog w K mg base 4 "by_menus" (lift K w (sp_by_menus)) [] := def_ok (N := nm_by_menus) (ps := ["table"]) (j := 3) (fs := fs_by_menus) (cs := cs_by_menus) (sps := (spsE (sp__law_equal 3))) (body := ir_by_menus) D_by_menus b_by_menus sc_by_menus (by decide) hb cs_nil (fns_cons c_menus (by decide) (fns_cons c_things_of (by decide) fns_nil)) ck_by_menus (fun ds dr Q _ hh => by unfold sp_by_menus at hh; obtain ⟨_, e, _⟩ := hh; rw [e]; rfl) (wp_by_menus _ _ rfl rfl)
  have c_restricted : C8.Cal l.prog w K mg base 5 "restricted" (lift K w (sp_restricted)) [] := def_ok (N := nm_restricted) (ps := ["table", "menu"]) (j := 4) (fs := fs_restricted) (cs := cs_restricted) (sps := (spsE (sp__law_equal 3))) (body := ir_restricted) D_restricted b_restricted sc_restricted (by decide) hb cs_nil (fns_cons c_by_menus (by decide) (fns_cons c_menus (by decide) fns_nil)) ck_restricted (fun ds dr Q _ hh => by unfold sp_restricted at hh; obtain ⟨_, _, e, _⟩ := hh; rw [e]; rfl) (wp_restricted _ _ rfl rfl)
  have c_named : C8.Cal l.prog w K mg base 1 "named" (lift K w (sp_named)) [] := def_ok (N := nm_named) (ps := ["row", "names"]) (j := 0) (fs := fs_named) (cs := cs_named) (sps := (spsE (sp__law_equal 3))) (body := ir_named) D_named b_named sc_named (by decide) hb cs_nil fns_nil ck_named (fun ds dr Q _ hh => by unfold sp_named at hh; obtain ⟨_, _, e, _⟩ := hh; rw [e]; rfl) (wp_named _ _ )
  have c_renamed : C8.Cal l.prog w K mg base 5 "renamed" (lift K w (sp_renamed)) [] := def_ok (N := nm_renamed) (ps := ["table", "names"]) (j := 4) (fs := fs_renamed) (cs := cs_renamed) (sps := (spsE (sp__law_equal 3))) (body := ir_renamed) D_renamed b_renamed sc_renamed (by decide) hb cs_nil (fns_cons c_by_menus (by decide) (fns_cons c_named (by decide) (fns_cons c_menus (by decide) fns_nil))) ck_renamed (fun ds dr Q _ hh => by unfold sp_renamed at hh; obtain ⟨_, _, e, _⟩ := hh; rw [e]; rfl) (wp_renamed _ _ rfl rfl rfl)
  have c_unlike_menus : C8.Cal l.prog w K mg base 4 "unlike_menus" (lift K w (sp_unlike_menus)) [] := def_ok (N := nm_unlike_menus) (ps := ["one", "two"]) (j := 3) (fs := fs_unlike_menus) (cs := cs_unlike_menus) (sps := (spsE (sp__law_equal 3))) (body := ir_unlike_menus) D_unlike_menus b_unlike_menus sc_unlike_menus (by decide) hb cs_nil (fns_cons c_menus (by decide) (fns_cons c_things_of (by decide) fns_nil)) ck_unlike_menus (fun ds dr Q _ hh => by unfold sp_unlike_menus at hh; obtain ⟨_, _, e, _⟩ := hh; rw [e]; rfl) (wp_unlike_menus _ _ rfl rfl)
  have c_table_with : C8.Cal l.prog w K mg base 4 "table_with" (lift K w (sp_table_with)) [] := def_ok (N := nm_table_with) (ps := ["table", "menu", "picked"]) (j := 3) (fs := fs_table_with) (cs := cs_table_with) (sps := (spsE (sp__law_equal 3))) (body := ir_table_with) D_table_with b_table_with sc_table_with (by decide) hb cs_nil (fns_cons c_menus (by decide) (fns_cons c_things_of (by decide) fns_nil)) ck_table_with (fun ds dr Q _ hh => by unfold sp_table_with at hh; obtain ⟨_, _, _, e, _⟩ := hh; rw [e]; rfl) (wp_table_with _ _ rfl rfl)
  have c_eqn : C8.Cal l.prog w K mg base 1 "_law_equal" (lift K w (fun _ _ _ _ => False)) [] := never_ok D__law_equal b__law_equal sc__law_equal
  have c_eq0 : C8.Cal l.prog w K mg base 2 "_law_equal" (lift K w (sp__law_equal 0)) [] := def_ok (N := nm__law_equal) (ps := ["x", "due"]) (j := 1) (fs := fs__law_equal) (cs := cs__law_equal) (sps := (spsE (fun _ _ _ _ => False))) (body := ir__law_equal) D__law_equal b__law_equal sc__law_equal (by decide) hb cs_nil (fns_cons c__law_kind (by decide) (fns_cons c_eqn (by decide) fns_nil)) ck__law_equal (fun ds dr Q _ hh => by unfold sp__law_equal at hh; obtain ⟨_, e, _⟩ := hh; rw [e]; rfl) (wp__law_equal 0 _ _ rfl (fun M e => by cases e))
  have c_eq1 : C8.Cal l.prog w K mg base 3 "_law_equal" (lift K w (sp__law_equal 1)) [] := def_ok (N := nm__law_equal) (ps := ["x", "due"]) (j := 2) (fs := fs__law_equal) (cs := cs__law_equal) (sps := (spsE (sp__law_equal 0))) (body := ir__law_equal) D__law_equal b__law_equal sc__law_equal (by decide) hb cs_nil (fns_cons c__law_kind (by decide) (fns_cons c_eq0 (by decide) fns_nil)) ck__law_equal (fun ds dr Q _ hh => by unfold sp__law_equal at hh; obtain ⟨_, e, _⟩ := hh; rw [e]; rfl) (wp__law_equal 1 _ _ rfl (fun M e => by cases e; rfl))
  have c_eq2 : C8.Cal l.prog w K mg base 4 "_law_equal" (lift K w (sp__law_equal 2)) [] := def_ok (N := nm__law_equal) (ps := ["x", "due"]) (j := 3) (fs := fs__law_equal) (cs := cs__law_equal) (sps := (spsE (sp__law_equal 1))) (body := ir__law_equal) D__law_equal b__law_equal sc__law_equal (by decide) hb cs_nil (fns_cons c__law_kind (by decide) (fns_cons c_eq1 (by decide) fns_nil)) ck__law_equal (fun ds dr Q _ hh => by unfold sp__law_equal at hh; obtain ⟨_, e, _⟩ := hh; rw [e]; rfl) (wp__law_equal 2 _ _ rfl (fun M e => by cases e; rfl))
  have c_eq3 : C8.Cal l.prog w K mg base 5 "_law_equal" (lift K w (sp__law_equal 3)) [] := def_ok (N := nm__law_equal) (ps := ["x", "due"]) (j := 4) (fs := fs__law_equal) (cs := cs__law_equal) (sps := (spsE (sp__law_equal 2))) (body := ir__law_equal) D__law_equal b__law_equal sc__law_equal (by decide) hb cs_nil (fns_cons c__law_kind (by decide) (fns_cons c_eq2 (by decide) fns_nil)) ck__law_equal (fun ds dr Q _ hh => by unfold sp__law_equal at hh; obtain ⟨_, e, _⟩ := hh; rw [e]; rfl) (wp__law_equal 3 _ _ rfl (fun M e => by cases e; rfl))
  exact law_ok (j := 5) (N := ["script", "pool", "n", "rows", "table", "menu", "due", "own", "real", "place", "thing", "names", "told", "k", "there", "other", "picked", "at"]) (body := ir_law_k02) (fs := fs_law_k02) (cs := cs_law_k02) (sps := (spsE (sp__law_equal 3))) FL sc_law (by decide) hb cs_nil (fns_cons c_draw (by decide) (fns_cons c__law_menus (by decide) (fns_cons c__law_table (by decide) (fns_cons c_eq3 (by decide) (fns_cons c_restricted (by decide) (fns_cons c__law_line (by decide) (fns_cons c_renamed (by decide) (fns_cons c_unlike_menus (by decide) (fns_cons c__law_random_picks (by decide) (fns_cons c_table_with (by decide) fns_nil)))))))))) c_pool (by decide) rfl (by decide +kernel) (by decide +kernel) (main_k02 ⟨(spsE (sp__law_equal 3)), fun _ _ => False⟩ rfl rfl rfl rfl rfl rfl rfl rfl rfl rfl)
end PL
open PySem PySem.W PyProof.Rows
set_option maxRecDepth 100000 in
set_option maxHeartbeats 0 in
theorem PySem.Challenge.cw_whypicked_k02_tables_cut_and_named_holds : PySem.Challenge.rw_whypicked_k02_tables_cut_and_named.Holds := by
  w_on; o_law; k_head; (case hw => w_witness2)
  k_fill
  refine PL.ends (k := 6) (l := PySem.Challenge.rw_whypicked_k02_tables_cut_and_named) rfl rfl ⟨rfl, by decide, by decide⟩ (fun w h Y => PySem.W.kIn_of Y) ?F
  case F =>
    intro w mg fa h KX G hmg
    have hb : PL.BltOk mg := by
      refine' PL.blt_mk KX G ?z1 ?z2 ?z3 ?z4 ?z5 ?z6 ?z7 ?z8 ?z9 ?z10 ?z11 ?z12 ?z13 ?z14 ?z15 ?z16 ?z17 ?z18
      (case z1 => k_is); (case z2 => k_is); (case z3 => k_is); (case z4 => k_is); (case z5 => k_is); (case z6 => k_is)
      (case z7 => k_is); (case z8 => k_is); (case z9 => k_is); (case z10 => k_is); (case z11 => k_is); (case z12 => k_is)
      (case z13 => k_is); (case z14 => k_is); (case z15 => k_is); (case z16 => k_is); (case z17 => k_is); (case z18 => k_is)
    refine' PL.all_ok (l := PySem.Challenge.rw_whypicked_k02_tables_cut_and_named) rfl KX G hmg hb ?d__law_cell ?d__law_draw ?d__law_pool ?d__law_numbers ?d__law_menus ?d__law_random_picks ?d__law_tidy ?d__law_ranks ?d__law_least ?d__law_line ?d__law_beats ?d__law_steps ?d__law_best ?d__law_first ?d__law_picks_of_lines ?d__law_table ?d_subsets_of ?d_menus ?d_things_of ?d_by_menus ?d_restricted ?d_named ?d_renamed ?d_unlike_menus ?d_table_with ?d__law_kind ?d__law_equal ?d_law
    (case d__law_cell => refine' PL.df_mk ?a ?l ?c ?k; (case a => k_is); (case l => k_is); (case c => k_is); (case k => k_is))
    (case d__law_draw => refine' PL.df_mk ?a ?l ?c ?k; (case a => k_is); (case l => k_is); (case c => k_is); (case k => k_is))
    (case d__law_pool => refine' PL.df_mk ?a ?l ?c ?k; (case a => k_is); (case l => k_is); (case c => k_is); (case k => k_is))
    (case d__law_numbers => refine' PL.df_mk ?a ?l ?c ?k; (case a => k_is); (case l => k_is); (case c => k_is); (case k => k_is))
    (case d__law_menus => refine' PL.df_mk ?a ?l ?c ?k; (case a => k_is); (case l => k_is); (case c => k_is); (case k => k_is))
    (case d__law_random_picks => refine' PL.df_mk ?a ?l ?c ?k; (case a => k_is); (case l => k_is); (case c => k_is); (case k => k_is))
    (case d__law_tidy => refine' PL.df_mk ?a ?l ?c ?k; (case a => k_is); (case l => k_is); (case c => k_is); (case k => k_is))
    (case d__law_ranks => refine' PL.df_mk ?a ?l ?c ?k; (case a => k_is); (case l => k_is); (case c => k_is); (case k => k_is))
    (case d__law_least => refine' PL.df_mk ?a ?l ?c ?k; (case a => k_is); (case l => k_is); (case c => k_is); (case k => k_is))
    (case d__law_line => refine' PL.df_mk ?a ?l ?c ?k; (case a => k_is); (case l => k_is); (case c => k_is); (case k => k_is))
    (case d__law_beats => refine' PL.df_mk ?a ?l ?c ?k; (case a => k_is); (case l => k_is); (case c => k_is); (case k => k_is))
    (case d__law_steps => refine' PL.df_mk ?a ?l ?c ?k; (case a => k_is); (case l => k_is); (case c => k_is); (case k => k_is))
    (case d__law_best => refine' PL.df_mk ?a ?l ?c ?k; (case a => k_is); (case l => k_is); (case c => k_is); (case k => k_is))
    (case d__law_first => refine' PL.df_mk ?a ?l ?c ?k; (case a => k_is); (case l => k_is); (case c => k_is); (case k => k_is))
    (case d__law_picks_of_lines => refine' PL.df_mk ?a ?l ?c ?k; (case a => k_is); (case l => k_is); (case c => k_is); (case k => k_is))
    (case d__law_table => refine' PL.df_mk ?a ?l ?c ?k; (case a => k_is); (case l => k_is); (case c => k_is); (case k => k_is))
    (case d_subsets_of => refine' PL.df_mk ?a ?l ?c ?k; (case a => k_is); (case l => k_is); (case c => k_is); (case k => k_is))
    (case d_menus => refine' PL.df_mk ?a ?l ?c ?k; (case a => k_is); (case l => k_is); (case c => k_is); (case k => k_is))
    (case d_things_of => refine' PL.df_mk ?a ?l ?c ?k; (case a => k_is); (case l => k_is); (case c => k_is); (case k => k_is))
    (case d_by_menus => refine' PL.df_mk ?a ?l ?c ?k; (case a => k_is); (case l => k_is); (case c => k_is); (case k => k_is))
    (case d_restricted => refine' PL.df_mk ?a ?l ?c ?k; (case a => k_is); (case l => k_is); (case c => k_is); (case k => k_is))
    (case d_named => refine' PL.df_mk ?a ?l ?c ?k; (case a => k_is); (case l => k_is); (case c => k_is); (case k => k_is))
    (case d_renamed => refine' PL.df_mk ?a ?l ?c ?k; (case a => k_is); (case l => k_is); (case c => k_is); (case k => k_is))
    (case d_unlike_menus => refine' PL.df_mk ?a ?l ?c ?k; (case a => k_is); (case l => k_is); (case c => k_is); (case k => k_is))
    (case d_table_with => refine' PL.df_mk ?a ?l ?c ?k; (case a => k_is); (case l => k_is); (case c => k_is); (case k => k_is))
    (case d__law_kind => refine' PL.df_mk ?a ?l ?c ?k; (case a => k_is); (case l => k_is); (case c => k_is); (case k => k_is))
    (case d__law_equal => refine' PL.df_mk ?a ?l ?c ?k; (case a => k_is); (case l => k_is); (case c => k_is); (case k => k_is))
    (case d_law => refine' PL.df_mk ?a ?l ?c ?k; (case a => k_is); (case l => k_is); (case c => k_is); (case k => k_is))
