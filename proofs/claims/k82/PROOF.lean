import PyProof.Rows.All
import Wide.All
import OpenK.AllK
import Wide.FinOn
import HandS.ForMost
import HandS.Deep
import KE.KeyNested
import KE.KDictKeyed
import KE.SortData
import HandS.TupAny
import HandS.TupMul
import HandS.Flow
import HandS.Style
import HandS.TupLe
import PyProof.Rows.TupTab
import HandS.IsInst
import HandS.Conv
import HandS.Sort
import HandS.TupLen
import HandS.Strs
import KE.DataMinMax
import HandS.Codes
import HandS.Iter
import HandS.Remove
import HandS.Comp
import HandS.SortOrd
import KE.KDictSum
import PyProof.TupleOfSeq
import HandS.DictComp
import KE.KDictCopyH
import PySem.Challenge.RW_whypicked_k82_whole_news_after_news
set_option Elab.async false
set_option linter.all false
set_option maxRecDepth 100000
set_option maxHeartbeats 4000000
/-! PL1: the pure layer: data, slots, the IR, the weakest-precondition reading of the IR over plain data. -/
namespace PL
open PySem PySem.Spec PyProof.Rows L2

/-- plain data; rng: a range object; pool: the law's pool of draws -/
inductive D where
  | non
  | bl (b : Bool)
  | int (i : Int)
  | str (s : Str)
  | tup (xs : List D)
  | lst (xs : List D)
  | dct (kvs : List (D × D))
  | rng (lo hi : Int)
  | pool
mutual
/-- as data that == can read -/
def D.py : D → PyData
  | .non => .none
  | .bl b => .bool b
  | .int i => .int i
  | .str s => .str s
  | .tup xs => .tuple (D.pys xs)
  | .lst xs => .list (D.pys xs)
  | .dct _ => .dict []
  | .rng _ _ => .dict []
  | .pool => .dict []
def D.pys : List D → List PyData
  | [] => []
  | x :: xs => x.py :: D.pys xs
end
/-- data that == reads: no dicts, ranges, pools; not too deep -/
def shp (d : D) : Bool := SeqAt.shaped d.py
def deq (a b : D) : Bool := PyData.eqv a.py b.py
/-- what a slot holds: nothing, a value that never changes, a list or a dict that this slot alone owns -/
inductive SV where
  | no
  | val (d : D)
  | own (xs : List D)
  | owd (kvs : List (D × D))
/-- what an expression gives: a value that never changes, a slot's own thing lent, a new list or dict -/
inductive RV where
  | val (d : D)
  | brw (d : D)
  | own (xs : List D)
  | owd (kvs : List (D × D))
def RV.toD : RV → D
  | .val d => d
  | .brw d => d
  | .own xs => .lst xs
  | .owd kvs => .dct kvs
/-- what may be laid into other things -/
def RV.kept (r : RV) (Q : D → Prop) : Prop :=
  match r with
  | .val d => Q d
  | .brw _ => False
  | .own xs => Q (.lst xs)
  | .owd kvs => Q (.dct kvs)
/-- .. into a slot -/
def RV.slot (r : RV) (Q : SV → Prop) : Prop :=
  match r with
  | .val d => Q (.val d)
  | .brw _ => False
  | .own xs => Q (.own xs)
  | .owd kvs => Q (.owd kvs)
/-- the slots; the number of draws so far (at most) -/
structure PEnv where
  sl : List SV
  dr : Nat
abbrev RK := RV → PEnv → Prop

inductive Op2 where
  | add | sub | mul | fdiv | mod | pow
  deriving DecidableEq
inductive Cm where
  | eq | ne | lt | le | gt | ge | isin | notin | is | isnot
  deriving DecidableEq
/-- what may be asked by isinstance -/
inductive Ty where
  | bool | int | str | tuple | list | dict
  deriving DecidableEq
/-- built-ins that are called by name with values -/
inductive BI where
  | len | int | str | tuple | list | sorted | min | max | sum | any | all | abs | bool | dict | range
  | minD | maxD
  deriving DecidableEq
/-- methods that read -/
inductive MT where
  | index | get | upper | join | split
  deriving DecidableEq
/-- targets -/
inductive Tg where
  | nm (i : Nat)
  | tp (is : List Nat)
  deriving DecidableEq
def Tg.slots : Tg → List Nat
  | .nm i => [i]
  | .tp is => is

/-- expressions; anil, acons: lists of expressions; it..: what a loop walks -/
inductive IE where
  | cst (d : D)
  | var (i : Nat)
  | bor (i : Nat)
  | bin (o : Op2) (a b : IE)
  | neg (a : IE)
  | cmp (c : Cm) (a b : IE)
  | cmp2 (c c' : Cm) (a b d : IE)
  | tst (a : IE)
  | and (a b : IE)
  | or (a b : IE)
  | not (a : IE)
  | ite (c a b : IE)
  | tup (as : IE)
  | lst (as : IE)
  | dnew
  | anil
  | acons (a as : IE)
  | idx (a b : IE)
  | slc (a lo hi : IE)
  | rev (a : IE)
  | call (f : Nat) (as : IE)
  | callb (f : Nat) (as : IE)
  | blt (f : BI) (as : IE)
  | isi (a : IE) (t : Ty)
  | mth (m : MT) (a as : IE)
  | itSeq (a : IE)
  | itR1 (a : IE)
  | itR2 (a b : IE)
  | itEnum (a : IE)
  | itZip (a b : IE)
  | itZip3 (a b c : IE)
  | itItems (a : IE)
  | comp (vs : List Nat) (tg : Tg) (it c e : IE)
  | comp2 (vs vs1 : List Nat) (tg : Tg) (it c : IE) (tg1 : Tg) (it1 c1 e : IE)
  | dcomp (vs : List Nat) (tg : Tg) (it c k v : IE)

inductive IS where
  | skip
  | seq (a b : IS)
  | asg (t : Tg) (e : IE)
  | asgS (i : Nat) (k e : IE)
  | aug (i : Nat) (e : IE)
  | app (i : Nat) (e : IE)
  | ext (i : Nat) (e : IE)
  | remv (i : Nat) (e : IE)
  | pop0 (t : Option Nat) (i : Nat)
  | pop1 (t : Option Nat) (i : Nat) (e : IE)
  | popT (j : Nat) (i : Nat) (e : IE)
  | sdef (i : Nat) (k e : IE)
  | ifs (c : IE) (a b : IS)
  | fr (t : Tg) (it : IE) (b : IS)
  | frl (t : Tg) (i : Nat) (b : IS)
  | whl (c : IE) (b : IS)
  | ret (e : IE)
  | ret0
  | reto (i : Nat)
  | brk
  | cnt
  | ex (e : IE)
  | rais (n : Nat)

/-! ### operations on data -/
def truthD : D → Option Bool
  | .non => some false
  | .bl b => some b
  | .int i => some (i != 0)
  | .lst xs => some (!xs.isEmpty)
  | .tup xs => some (!xs.isEmpty)
  | _ => none
def binP (o : Op2) (a b : D) (Q : RV → Prop) : Prop :=
  match o with
  | .add => match a, b with
    | .int i, .int j => Q (.val (.int (i + j)))
    | .str x, .str y => x.length + y.length ≤ sizeLine ∧ Q (.val (.str (x ++ y)))
    | .tup xs, .tup ys => xs.length + ys.length ≤ sizeLine ∧ Q (.val (.tup (xs ++ ys)))
    | .lst xs, .lst ys => xs.length + ys.length ≤ sizeLine ∧ Q (.own (xs ++ ys))
    | _, _ => False
  | .sub => match a, b with
    | .int i, .int j => Q (.val (.int (i - j)))
    | _, _ => False
  | .mul => match a, b with
    | .int i, .int j => CMul i j ∧ Q (.val (.int (i * j)))
    | .lst xs, .int k => (-(2 ^ 63) ≤ k ∧ k < 2 ^ 63 ∧ xs.length * k.toNat ≤ sizeLine) ∧ Q (.own (List.replicate k.toNat xs).flatten)
    | .tup xs, .int k => (xs ≠ [] ∧ 2 ≤ k ∧ k ≤ 1000 ∧ xs.length ≤ 1000) ∧ Q (.val (.tup (List.replicate k.toNat xs).flatten))
    | _, _ => False
  | .fdiv => match a, b with
    | .int i, .int j => CDivN i j ∧ Q (.val (.int (i.fdiv j)))
    | _, _ => False
  | .mod => match a, b with
    | .int i, .int j => j ≠ 0 ∧ Q (.val (.int (i.fmod j)))
    | _, _ => False
  | .pow => match a, b with
    | .int i, .int j => CPow i j ∧ Q (.val (.int (i ^ j.toNat)))
    | _, _ => False
/-- == of data: the scalars at once, the rest where it has the shape that == can read -/
def eqP (a b : D) (Q : Bool → Prop) : Prop :=
  match a, b with
  | .int i, .int j => Q (decide (i = j))
  | .str x, .str y => Q (decide (x = y))
  | .bl x, .bl y => Q (decide (x = y))
  | .non, .non => Q true
  | .non, .int _ => Q false
  | .int _, .non => Q false
  | a, b => (shp a = true ∧ shp b = true) ∧ Q (deq a b)
def rngL (lo hi : Int) : List D := (List.range (hi - lo).toNat).map fun i => D.int (lo + (i : Nat))
def itemsD : D → Option (List D)
  | .lst xs => some xs
  | .tup xs => some xs
  | .dct kvs => some (kvs.map (·.1))
  | .rng lo hi => some (rngL lo hi)
  | _ => none
mutual
/-- < of data: ints, texts, tuples of such; none where it is not told -/
def ltD : D → D → Option Bool
  | .int i, .int j => some (decide (i < j))
  | .str x, .str y => some (decide (x.cps.toList < y.cps.toList))
  | .tup xs, .tup ys => ltDs xs ys
  | _, _ => none
def ltDs : List D → List D → Option Bool
  | [], [] => some false
  | [], _ :: _ => some true
  | _ :: _, [] => some false
  | x :: xs, y :: ys => match ltDs xs ys with
    | none => none
    | some r => if deq x y = true then some r else ltD x y
end
def ordP (c : Cm) (a b : D) (Q : Bool → Prop) : Prop :=
  match a, b with
  | .int i, .int j => match c with
    | .lt => Q (decide (i < j))
    | .le => Q (decide (i ≤ j))
    | .gt => Q (decide (j < i))
    | .ge => Q (decide (j ≤ i))
    | _ => False
  | a, b => match c with
    | .lt => ((shp a = true ∧ shp b = true) ∧ (ltD a b).isSome = true) ∧ Q ((ltD a b).getD false)
    | _ => False
mutual
/-- data as a dict's key -/
def nk : D → Option NestedKey
  | .int i => some (.num i)
  | .str x => some (.text x)
  | .tup xs => (nks xs).map .tup
  | _ => none
def nks : List D → Option (List NestedKey)
  | [] => some []
  | x :: xs => (nk x).bind fun a => (nks xs).map fun as => a :: as
end
def scal : D → Bool
  | .int _ => true
  | .str _ => true
  | _ => false
/-- a key that may be asked of a dict with such keys -/
def keyOk (kvs : List (D × D)) (k : D) : Bool := (match nk k with | some n => decide (n.depth ≤ 8) | none => false) && kvs.all fun p => scal p.1 == scal k
def inP (a b : D) (Q : Bool → Prop) : Prop :=
  match b with
  | .lst xs => (shp a = true ∧ shp (.lst xs) = true) ∧ Q (xs.any fun z => deq z a)
  | .tup xs => (shp a = true ∧ shp (.tup xs) = true) ∧ Q (xs.any fun z => deq z a)
  | .dct kvs => keyOk kvs a = true ∧ Q (kvs.any fun p => deq p.1 a)
  | .str y => match a with
    | .str x => Q (!(Builtin.Str.occurrences y x 0 y.length 1).isEmpty)
    | _ => False
  | _ => False
def isNon : D → Bool
  | .non => true
  | _ => false
def cmpP (c : Cm) (a b : D) (Q : Bool → Prop) : Prop :=
  match c with
  | .eq => eqP a b Q
  | .ne => eqP a b fun r => Q (!r)
  | .isin => inP a b Q
  | .notin => inP a b fun r => Q (!r)
  | .is => match b with
    | .non => Q (isNon a)
    | .bl j => (match a with | .bl i => Q (decide (i = j)) | _ => False)
    | _ => False
  | .isnot => match b with
    | .non => Q (!isNon a)
    | .bl j => (match a with | .bl i => Q (!decide (i = j)) | _ => False)
    | _ => False
  | c => ordP c a b Q
def lookD (kvs : List (D × D)) (k : D) : Option D := (kvs.find? fun p => deq p.1 k).map (·.2)
/-- a dict with k told to be v -/
def putD (kvs : List (D × D)) (k v : D) : List (D × D) := if kvs.any (fun p => deq p.1 k) then kvs.map (fun p => if deq p.1 k then (p.1, v) else p) else kvs ++ [(k, v)]
def idxP (a b : D) (Q : D → Prop) : Prop :=
  match a with
  | .lst xs => (match b with | .int i => ∃ v, atI xs i = some v ∧ Q v | _ => False)
  | .tup xs => (match b with | .int i => ∃ v, atI xs i = some v ∧ Q v | _ => False)
  | .str z => (match b with | .int i => z.length ≤ sizeLine ∧ ∃ c, atI z.cps.toList i = some c ∧ Q (.str ⟨#[c]⟩) | _ => False)
  | .dct kvs => keyOk kvs b = true ∧ ∃ v, lookD kvs b = some v ∧ Q v
  | _ => False
def cutL {α : Type} (xs : List α) (lo hi : Option Int) : List α := (xs.drop (HT.sIx xs.length 0 lo)).take (HT.sIx xs.length xs.length hi - HT.sIx xs.length 0 lo)
def isMiss : IE → Bool
  | .cst .non => true
  | _ => false
def slcP (a : D) (l h : Option Int) (Q : RV → Prop) : Prop :=
  match a with
  | .lst xs => Q (.own (cutL xs l h))
  | .tup xs => Q (.val (.tup (cutL xs l h)))
  | _ => False
def revP (a : D) (Q : RV → Prop) : Prop :=
  match a with
  | .lst xs => Q (.own xs.reverse)
  | .tup xs => Q (.val (.tup xs.reverse))
  | _ => False
def isTy (t : Ty) : D → Bool
  | .bl _ => t == .bool || t == .int
  | .int _ => t == .int
  | .str _ => t == .str
  | .tup _ => t == .tuple
  | .lst _ => t == .list
  | .dct _ => t == .dict
  | _ => false
/-- the kinds that isinstance tells -/
def hasTy : D → Bool
  | .non | .bl _ | .int _ | .str _ | .tup _ | .lst _ => true
  | _ => false
/-- all items can be put in an order by < -/
def sortable (xs : List D) : Prop := (∀ x ∈ xs, shp x = true ∧ x.py ≠ .none) ∧ ∀ x ∈ xs, ∀ y ∈ xs, PySem.W.alike x.py y.py = true
def leB (x y : D) : Bool := PySem.W.dataLe false D.py x y
def ltB (x y : D) : Bool := (ltD x y).getD false
def ints? : List D → Option (List Int)
  | [] => some []
  | .int i :: xs => (ints? xs).map (i :: ·)
  | _ :: _ => none
def bls? : List D → Option (List Bool)
  | [] => some []
  | .bl i :: xs => (bls? xs).map (i :: ·)
  | _ :: _ => none
def rngOk (i : Int) : Prop := -(2 ^ 62) ≤ i ∧ i < 2 ^ 62
def sortD (xs : List D) : List D := xs.mergeSort leB
def sortP (xs : List D) (Q : RV → Prop) : Prop := sortable xs ∧ Q (.own (sortD xs))
def minL (is : List Int) : Int := is.tail.foldl min (is.headD 0)
def maxL (is : List Int) : Int := is.tail.foldl max (is.headD 0)
def minP (xs : List D) (Q : RV → Prop) : Prop := ∃ is, ints? xs = some is ∧ is ≠ [] ∧ Q (.val (.int (minL is)))
def maxP (xs : List D) (Q : RV → Prop) : Prop := ∃ is, ints? xs = some is ∧ is ≠ [] ∧ Q (.val (.int (maxL is)))
def bltP (f : BI) (as : List D) (Q : RV → Prop) : Prop :=
  match f, as with
  | .len, [.str s] => s.length ≤ sizeLine ∧ Q (.val (.int s.length))
  | .len, [.dct kvs] => Q (.val (.int kvs.length))
  | .len, [.lst xs] => Q (.val (.int xs.length))
  | .len, [.tup xs] => Q (.val (.int xs.length))
  | .int, [.int i] => Q (.val (.int i))
  | .int, [.bl b] => Q (.val (.int (if b then 1 else 0)))
  | .str, [.int i] => i.natAbs.log2 < 1920 ∧ Q (.val (.str (toString i)))
  | .tuple, [.lst xs] => Q (.val (.tup xs))
  | .tuple, [.tup xs] => Q (.val (.tup xs))
  | .tuple, [.rng lo hi] => (hi - lo).toNat ≤ 16777216 ∧ Q (.val (.tup (rngL lo hi)))
  | .list, [.lst xs] => Q (.own xs)
  | .list, [.tup xs] => Q (.own xs)
  | .list, [.rng lo hi] => (hi - lo).toNat ≤ 16777216 ∧ Q (.own (rngL lo hi))
  | .list, [.dct kvs] => Q (.own (kvs.map (·.1)))
  | .sorted, [.lst xs] => sortP xs Q
  | .sorted, [.tup xs] => sortP xs Q
  | .sorted, [.dct kvs] => sortP (kvs.map (·.1)) Q
  | .min, [.lst xs] => minP xs Q
  | .max, [.lst xs] => maxP xs Q
  | .min, [.tup xs] => minP xs Q
  | .max, [.tup xs] => maxP xs Q
  | .min, [.int i, .int j] => Q (.val (.int (if j < i then j else i)))
  | .max, [.int i, .int j] => Q (.val (.int (if j > i then j else i)))
  | .minD, [.lst xs, d] => if xs = [] then Q (.val d) else minP xs Q
  | .maxD, [.lst xs, d] => if xs = [] then Q (.val d) else maxP xs Q
  | .sum, [.lst xs] => ∃ is, ints? xs = some is ∧ Q (.val (.int is.sum))
  | .any, [.lst xs] => ∃ bs, bls? xs = some bs ∧ Q (.val (.bl (bs.any id)))
  | .all, [.lst xs] => ∃ bs, bls? xs = some bs ∧ Q (.val (.bl (bs.all id)))
  | .abs, [.int i] => Q (.val (.int (if i < 0 then -i else i)))
  | .range, [.int j] => rngOk j ∧ Q (.val (.rng 0 j))
  | .range, [.int i, .int j] => (rngOk i ∧ rngOk j) ∧ Q (.val (.rng i j))
  | _, _ => False
/-- the place of the first equal item -/
def idxOfD (xs : List D) (y : D) : Option Nat := xs.findIdx? fun z => deq z y
def recvOk (m : MT) (a : D) : Bool := match m, a with
  | .index, .lst _ | .index, .tup _ | .get, .dct _ => true
  | _, _ => false
/-- whether a method's arguments are only looked at -/
def lends : MT → Bool
  | .get => false
  | _ => true
def mthP (m : MT) (a : D) (as : List D) (Q : RV → Prop) : Prop :=
  match m, as with
  | .index, [y] => (shp y = true ∧ shp a = true) ∧ match a with
    | .lst xs => ∃ j, idxOfD xs y = some j ∧ Q (.val (.int (j : Nat)))
    | .tup xs => ∃ j, idxOfD xs y = some j ∧ Q (.val (.int (j : Nat)))
    | _ => False
  | .get, [k, v] => ∃ kvs, a = .dct kvs ∧ keyOk kvs k = true ∧ Q (.val ((lookD kvs k).getD v))
  | .get, [k] => ∃ kvs, a = .dct kvs ∧ keyOk kvs k = true ∧ Q (.val ((lookD kvs k).getD .non))
  | _, _ => False

/-! ### slots -/
def PEnv.get (ρ : PEnv) (i : Nat) : SV := ρ.sl.getD i .no
def PEnv.put (ρ : PEnv) (i : Nat) (v : SV) : PEnv := ⟨ρ.sl.set i v, ρ.dr⟩
def rdV (ρ : PEnv) (i : Nat) (Q : RK) : Prop :=
  match ρ.get i with
  | .val d => Q (.val d) ρ
  | .own xs => Q (.val (.lst xs)) (ρ.put i (.val (.lst xs)))
  | .owd kvs => Q (.val (.dct kvs)) (ρ.put i (.val (.dct kvs)))
  | .no => False
def rdB (ρ : PEnv) (i : Nat) (Q : RK) : Prop :=
  match ρ.get i with
  | .val d => Q (.val d) ρ
  | .own xs => Q (.brw (.lst xs)) ρ
  | .owd kvs => Q (.brw (.dct kvs)) ρ
  | .no => False
def putAll (ρ : PEnv) : List Nat → List D → Option PEnv
  | [], [] => some ρ
  | i :: is, d :: ds => putAll (ρ.put i (.val d)) is ds
  | _, _ => none
/-- a value to a target -/
def tgP (t : Tg) (d : D) (ρ : PEnv) (Q : PEnv → Prop) : Prop :=
  match t with
  | .nm i => Q (ρ.put i (.val d))
  | .tp is => ∃ xs ρ', d = .tup xs ∧ putAll ρ is xs = some ρ' ∧ Q ρ'
/-- the slots vs of a block emptied; given back -/
def PEnv.wipe (ρ : PEnv) (vs : List Nat) : PEnv := ⟨vs.foldl (fun l i => l.set i .no) ρ.sl, ρ.dr⟩
def PEnv.back (ρ₀ ρ : PEnv) (vs : List Nat) : PEnv := ⟨vs.foldl (fun l i => l.set i (ρ₀.get i)) ρ.sl, ρ.dr⟩
def SV.plain : SV → Bool
  | .no => true
  | .val _ => true
  | _ => false
def SV.isO : SV → Bool
  | .own _ => true
  | _ => false
def SV.isD : SV → Bool
  | .owd _ => true
  | _ => false
def PEnv.plainAt (ρ : PEnv) (vs : List Nat) : Bool := vs.all fun i => (ρ.get i).plain
/-- one way or the other -/
def brn (b : Bool) (A B : Prop) : Prop := (b = true → A) ∧ (b = false → B)
theorem brn_ite (b : Bool) (A B : Prop) : brn b A B = if b = true then A else B := propext ⟨fun h => by cases b; exact h.2 rfl; exact h.1 rfl, fun h => by cases b; exact ⟨fun z => (by cases z), fun _ => h⟩; exact ⟨fun _ => h, fun z => (by cases z)⟩⟩
/-- a comprehension's turns -/
def compL (vs : List Nat) (tg : Tg) (fc fe : PEnv → RK → Prop) : List D → PEnv → List D → (List D → PEnv → Prop) → Prop
  | [], ρ, acc, Q => Q acc ρ
  | d :: ds, ρ, acc, Q => tgP tg d ρ fun ρ1 => fc ρ1 fun c ρ2 => ∃ b, c = .val (.bl b) ∧
      brn b (fe ρ2 fun r ρ3 => r.kept fun x => acc.length < sizeLine ∧ compL vs tg fc fe ds (ρ3.wipe vs) (acc ++ [x]) Q)
        (compL vs tg fc fe ds (ρ2.wipe vs) acc Q)
def dcompL (vs : List Nat) (tg : Tg) (fc fk fv : PEnv → RK → Prop) : List D → PEnv → List (D × D) → (List (D × D) → PEnv → Prop) → Prop
  | [], ρ, acc, Q => Q acc ρ
  | d :: ds, ρ, acc, Q => tgP tg d ρ fun ρ1 => fc ρ1 fun c ρ2 => ∃ b, c = .val (.bl b) ∧
      brn b (fk ρ2 fun k ρ3 => k.kept fun kd => fv ρ3 fun v ρ4 => v.kept fun vd => keyOk acc kd = true ∧ acc.length < sizeLine ∧ dcompL vs tg fc fk fv ds (ρ4.wipe vs) (putD acc kd vd) Q)
        (dcompL vs tg fc fk fv ds (ρ2.wipe vs) acc Q)

/-! ### expressions -/
/-- a def's promise: arguments, draws so far, what is wanted of the answer and the draws then, of an error and the draws then -/
abbrev Spec := List D → Nat → (RV → Nat → Prop) → (Nat → Nat → Prop) → Prop
/-- what the defs promise; what is wanted of an error that leaves -/
structure PC where
  sp : Nat → Spec
  xe : Nat → Nat → Prop
abbrev AK := List D → PEnv → Prop
def optP (b : Bool) (f : PEnv → RK → Prop) (ρ : PEnv) (Q : Option Int → PEnv → Prop) : Prop := if b = true then Q none ρ else f ρ fun l ρ' => ∃ i, l.toD = .int i ∧ Q (some i) ρ'
mutual
def wpE (C : PC) : IE → PEnv → RK → Prop
  | .cst d, ρ, Q => Q (.val d) ρ
  | .var i, ρ, Q => rdV ρ i Q
  | .bor i, ρ, Q => rdB ρ i Q
  | .bin o a b, ρ, Q => wpE C a ρ fun x ρ1 => wpE C b ρ1 fun y ρ2 => binP o x.toD y.toD fun r => Q r ρ2
  | .neg a, ρ, Q => wpE C a ρ fun x ρ1 => ∃ i, x.toD = .int i ∧ Q (.val (.int (-i))) ρ1
  | .cmp c a b, ρ, Q => wpE C a ρ fun x ρ1 => wpE C b ρ1 fun y ρ2 => cmpP c x.toD y.toD fun r => Q (.val (.bl r)) ρ2
  | .cmp2 c c' a b d, ρ, Q => wpE C a ρ fun x ρ1 => wpE C b ρ1 fun y ρ2 => cmpP c x.toD y.toD fun r => brn r (wpE C d ρ2 fun z ρ3 => cmpP c' y.toD z.toD fun r' => Q (.val (.bl r')) ρ3) (Q (.val (.bl false)) ρ2)
  | .tst a, ρ, Q => wpE C a ρ fun x ρ1 => ∃ b, truthD x.toD = some b ∧ Q (.val (.bl b)) ρ1
  | .and a b, ρ, Q => wpE C a ρ fun x ρ1 => ∃ c, x = .val (.bl c) ∧ brn c (wpE C b ρ1 Q) (Q (.val (.bl false)) ρ1)
  | .or a b, ρ, Q => wpE C a ρ fun x ρ1 => ∃ c, x = .val (.bl c) ∧ brn c (Q (.val (.bl true)) ρ1) (wpE C b ρ1 Q)
  | .not a, ρ, Q => wpE C a ρ fun x ρ1 => ∃ c, x = .val (.bl c) ∧ Q (.val (.bl (!c))) ρ1
  | .ite c a b, ρ, Q => wpE C c ρ fun x ρ1 => ∃ k, x = .val (.bl k) ∧ brn k (wpE C a ρ1 Q) (wpE C b ρ1 Q)
  | .tup as, ρ, Q => wpA C false as ρ fun ds ρ1 => ds.length ≤ sizeLine ∧ Q (.val (.tup ds)) ρ1
  | .lst as, ρ, Q => wpA C false as ρ fun ds ρ1 => ds.length ≤ sizeLine ∧ Q (.own ds) ρ1
  | .dnew, ρ, Q => Q (.owd []) ρ
  | .idx a b, ρ, Q => wpE C a ρ fun x ρ1 => wpE C b ρ1 fun y ρ2 => idxP x.toD y.toD fun d => Q (.val d) ρ2
  | .slc a lo hi, ρ, Q => wpE C a ρ fun x ρ1 => optP (isMiss lo) (wpE C lo) ρ1 fun l ρ2 => optP (isMiss hi) (wpE C hi) ρ2 fun h ρ3 => slcP x.toD l h fun r => Q r ρ3
  | .rev a, ρ, Q => wpE C a ρ fun x ρ1 => revP x.toD fun r => Q r ρ1
  | .call f as, ρ, Q => wpA C false as ρ fun ds ρ1 => C.sp f ds ρ1.dr (fun r n => Q r ⟨ρ1.sl, n⟩) C.xe
  | .blt f as, ρ, Q => wpA C true as ρ fun ds ρ1 => bltP f ds fun r => Q r ρ1
  | .isi a t, ρ, Q => wpE C a ρ fun x ρ1 => hasTy x.toD = true ∧ Q (.val (.bl (isTy t x.toD))) ρ1
  | .mth m a as, ρ, Q => wpE C a ρ fun x ρ1 => recvOk m x.toD = true ∧ wpA C (lends m) as ρ1 fun ds ρ2 => mthP m x.toD ds fun r => Q r ρ2
  | .comp vs tg it c e, ρ, Q => ρ.plainAt vs = true ∧ wpI C true it ρ fun ds ρ1 => compL vs tg (wpE C c) (wpE C e) ds (ρ1.wipe vs) [] fun acc ρ2 => Q (.own acc) (ρ1.back ρ2 vs)
  | .dcomp vs tg it c k v, ρ, Q => ρ.plainAt vs = true ∧ wpI C true it ρ fun ds ρ1 => dcompL vs tg (wpE C c) (wpE C k) (wpE C v) ds (ρ1.wipe vs) [] fun acc ρ2 => Q (.owd acc) (ρ1.back ρ2 vs)
  | _, _, _ => False
def wpA (C : PC) : Bool → IE → PEnv → AK → Prop
  | _, .anil, ρ, Q => Q [] ρ
  | b, .acons a as, ρ, Q => wpE C a ρ fun x ρ1 => (if b = true then (fun K : D → Prop => K x.toD) else x.kept) fun d => wpA C b as ρ1 fun ds ρ2 => Q (d :: ds) ρ2
  | _, _, _, _ => False
/-- what is walked, as the list of its items (b: it may be lent) -/
def wpI (C : PC) : Bool → IE → PEnv → AK → Prop
  | b, .itSeq a, ρ, Q => wpE C a ρ fun x ρ1 => (if b = true then (fun K : D → Prop => K x.toD) else x.kept) fun d => ∃ xs, itemsD d = some xs ∧ Q xs ρ1
  | _, .itR1 a, ρ, Q => wpE C a ρ fun x ρ1 => ∃ j, x.toD = .int j ∧ rngOk j ∧ Q (rngL 0 j) ρ1
  | _, .itR2 a b, ρ, Q => wpE C a ρ fun x ρ1 => wpE C b ρ1 fun y ρ2 => ∃ i j, x.toD = .int i ∧ y.toD = .int j ∧ (rngOk i ∧ rngOk j) ∧ Q (rngL i j) ρ2
  | b, .itEnum a, ρ, Q => wpE C a ρ fun x ρ1 => (if b = true then (fun K : D → Prop => K x.toD) else x.kept) fun d => ∃ xs, itemsD d = some xs ∧ Q (xs.mapIdx fun k d => .tup [.int (k : Nat), d]) ρ1
  | b, .itZip a c, ρ, Q => wpE C a ρ fun x ρ1 => (if b = true then (fun K : D → Prop => K x.toD) else x.kept) fun d => wpE C c ρ1 fun y ρ2 => (if b = true then (fun K : D → Prop => K y.toD) else y.kept) fun e => ∃ xs ys, itemsD d = some xs ∧ itemsD e = some ys ∧ Q ((xs.zip ys).map fun p => .tup [p.1, p.2]) ρ2
  | b, .itItems a, ρ, Q => wpE C a ρ fun x ρ1 => (if b = true then (fun K : D → Prop => K x.toD) else x.kept) fun d => ∃ kvs, d = .dct kvs ∧ Q (kvs.map fun p => .tup [p.1, p.2]) ρ1
  | _, _, _, _ => False
end

/-! ### statements -/
structure PEnds where
  nx : PEnv → Prop
  rt : RV → Nat → Prop
  bk : PEnv → Prop
  ct : PEnv → Prop
def forL (tg : Tg) (fb : PEnv → PEnds → Prop) : List D → PEnv → PEnds → Prop
  | [], ρ, E => E.nx ρ
  | d :: ds, ρ, E => tgP tg d ρ fun ρ1 => fb ρ1 ⟨fun ρ2 => forL tg fb ds ρ2 E, E.rt, E.nx, fun ρ2 => forL tg fb ds ρ2 E⟩
/-- over a slot's own list as it stands at each turn -/
def forO (tg : Tg) (i : Nat) (fb : PEnv → PEnds → Prop) : Nat → Nat → PEnv → PEnds → Prop
  | 0, _, _, _ => False
  | n + 1, k, ρ, E => ∃ xs, ρ.get i = .own xs ∧ match xs[k]? with
    | none => E.nx ρ
    | some d => tgP tg d ρ fun ρ1 => fb ρ1 ⟨fun ρ2 => forO tg i fb n (k + 1) ρ2 E, E.rt, E.nx, fun ρ2 => forO tg i fb n (k + 1) ρ2 E⟩
def whlL (fc : PEnv → RK → Prop) (fb : PEnv → PEnds → Prop) : Nat → PEnv → PEnds → Prop
  | 0, _, _ => False
  | n + 1, ρ, E => fc ρ fun c ρ1 => ∃ b, c = .val (.bl b) ∧ brn b (fb ρ1 ⟨fun ρ2 => whlL fc fb n ρ2 E, E.rt, E.nx, fun ρ2 => whlL fc fb n ρ2 E⟩) (E.nx ρ1)
def stT (t : Option Nat) (d : D) (ρ : PEnv) : PEnv := match t with
  | some j => ρ.put j (.val d)
  | none => ρ
def wpS (C : PC) : IS → PEnv → PEnds → Prop
  | .skip, ρ, E => E.nx ρ
  | .seq a b, ρ, E => wpS C a ρ { E with nx := fun ρ1 => wpS C b ρ1 E }
  | .asg (.nm i) e, ρ, E => wpE C e ρ fun r ρ1 => r.slot fun v => E.nx (ρ1.put i v)
  | .asg (.tp is) e, ρ, E => wpE C e ρ fun r ρ1 => r.kept fun d => tgP (.tp is) d ρ1 E.nx
  | .asgS i k e, ρ, E => wpE C e ρ fun r ρ1 => r.kept fun d => (ρ1.get i).plain = false ∧ wpE C k ρ1 fun kr ρ2 => match ρ2.get i with
    | .own xs => ∃ n j, kr.toD = .int n ∧ ixN xs.length n = some j ∧ E.nx (ρ2.put i (.own (xs.set j d)))
    | .owd kvs => kr.kept fun kd => keyOk kvs kd = true ∧ kvs.length < sizeLine ∧ E.nx (ρ2.put i (.owd (putD kvs kd d)))
    | _ => False
  | .aug i e, ρ, E => ∃ n, ρ.get i = .val (.int n) ∧ wpE C e ρ fun y ρ1 => ∃ m, y.toD = .int m ∧ E.nx (ρ1.put i (.val (.int (n + m))))
  | .app i e, ρ, E => (ρ.get i).isO = true ∧ wpE C e ρ fun r ρ1 => r.kept fun d => ∃ xs, ρ1.get i = .own xs ∧ xs.length < sizeLine ∧ E.nx (ρ1.put i (.own (xs ++ [d])))
  | .ext i e, ρ, E => (ρ.get i).isO = true ∧ wpE C e ρ fun r ρ1 => ∃ ys xs, r.toD = .lst ys ∧ ρ1.get i = .own xs ∧ xs.length + ys.length ≤ sizeLine ∧ E.nx (ρ1.put i (.own (xs ++ ys)))
  | .remv i e, ρ, E => (ρ.get i).isO = true ∧ wpE C e ρ fun r ρ1 => ∃ xs j, shp r.toD = true ∧ ρ1.get i = .own xs ∧ shp (.lst xs) = true ∧ idxOfD xs r.toD = some j ∧ E.nx (ρ1.put i (.own (xs.eraseIdx j)))
  | .pop0 t i, ρ, E => ∃ xs d, ρ.get i = .own xs ∧ xs[xs.length - 1]? = some d ∧ E.nx (stT t d (ρ.put i (.own xs.dropLast)))
  | .pop1 t i e, ρ, E => (ρ.get i).isO = true ∧ wpE C e ρ fun r ρ1 => ∃ xs n j d, ρ1.get i = .own xs ∧ r.toD = .int n ∧ rngOk n ∧ ixN xs.length n = some j ∧ xs[j]? = some d ∧ E.nx (stT t d (ρ1.put i (.own (xs.eraseIdx j))))
  | .popT k i e, ρ, E => ∃ ts, ρ.get k = .val (.tup ts) ∧ (ρ.get i).isO = true ∧ wpE C e ρ fun r ρ1 => ∃ xs n j d, ρ1.get i = .own xs ∧ r.toD = .int n ∧ rngOk n ∧ ixN xs.length n = some j ∧ xs[j]? = some d ∧ ts.length + 1 ≤ sizeLine ∧
      E.nx ((ρ1.put i (.own (xs.eraseIdx j))).put k (.val (.tup (ts ++ [d]))))
  | .sdef i k e, ρ, E => (ρ.get i).isD = true ∧ wpE C k ρ fun kr ρ1 => kr.kept fun kd => wpE C e ρ1 fun r ρ2 => r.kept fun d => ∃ kvs, ρ2.get i = .owd kvs ∧ keyOk kvs kd = true ∧ kvs.length < sizeLine ∧
      E.nx (ρ2.put i (.owd (if kvs.any (fun p => deq p.1 kd) then kvs else kvs ++ [(kd, d)])))
  | .ifs c a b, ρ, E => wpE C c ρ fun x ρ1 => ∃ k, x = .val (.bl k) ∧ brn k (wpS C a ρ1 E) (wpS C b ρ1 E)
  | .fr tg it b, ρ, E => wpI C false it ρ fun ds ρ1 => forL tg (wpS C b) ds ρ1 E
  | .frl tg i b, ρ, E => ∃ n, forO tg i (wpS C b) n 0 ρ E
  | .whl c b, ρ, E => ∃ n, whlL (wpE C c) (wpS C b) n ρ E
  | .ret e, ρ, E => wpE C e ρ fun r ρ1 => E.rt r ρ1.dr
  | .ret0, ρ, E => E.rt (.val .non) ρ.dr
  | .reto i, ρ, E => match ρ.get i with
    | .own xs => E.rt (.own xs) ρ.dr
    | .owd kvs => E.rt (.owd kvs) ρ.dr
    | _ => False
  | .brk, ρ, E => E.bk ρ
  | .cnt, ρ, E => E.ct ρ
  | .ex e, ρ, E => wpE C e ρ fun _ ρ1 => E.nx ρ1
  | .rais n, ρ, _ => C.xe n ρ.dr
/-- a def: its arguments in the first slots -/
def wpF (C : PC) (n : Nat) (b : IS) (as : List D) (dr : Nat) (Q : RV → Nat → Prop) : Prop :=
  wpS C b ⟨as.map SV.val ++ List.replicate (n - as.length) SV.no, dr⟩ ⟨fun ρ => Q (.val .non) ρ.dr, Q, fun _ => False, fun _ => False⟩
end PL
/-! PL2: plain data in the heap; the state's relation; how it goes on. -/
namespace PL
open PySem PySem.Spec PyProof.Rows L2

/-- what stands fixed: the written part, the world, the pool's three lists -/
structure RC where
  K : PySem.W.Frag
  w : World
  P : Option (Addr × Addr × Addr)
/-- an exact object -/
def exO (a : Addr) (o : Obj) : HO := .ext fun h => h.get? a = some o
def TupAt (K : PySem.W.Frag) (F : Hp) (a : Addr) (vs : List V) : Prop :=
  (∃ o, F a = some (.frz o (.tup vs)) ∧ o.dict = none) ∨
    ∃ (o : Obj) (its : Array Value) (n : Nat), K.lookup a = some o ∧ o.cls = .type "tuple" ∧ o.dict = none ∧ o.data = .seq its n ∧ its.size ≤ sizeLine ∧ Vals vs its.toList
def DctAt (F : Hp) (a : Addr) (es : List DictEntry) : Prop :=
  ∃ o ep, F a = some (exO a o) ∧ o.ExactDict ∧ o.data = .dict es.toArray ep ∧ (a == sysModules) = false ∧ es.length ≤ sizeLine
mutual
/-- v is the data d -/
inductive R (k : RC) (F : Hp) : V → D → Prop where
  | non : R k F .non .non
  | bl (b : Bool) : R k F (.bl b) (.bl b)
  | int (i : Int) : R k F (.int i) (.int i)
  | str (x : Str) : R k F (.str x) (.str x)
  | tup {a : Addr} {vs : List V} {ds : List D} : TupAt k.K F a vs → Rs k F vs ds → R k F (.ref a) (.tup ds)
  | lst {a : Addr} {vs : List V} {ds : List D} : F a = some (.lst vs) → Rs k F vs ds → R k F (.ref a) (.lst ds)
  | dct {a : Addr} {es : List DictEntry} {kvs : List (D × D)} : DctAt F a es → RKs k F es kvs → (kvs.map fun p => nk p.1).Nodup →
      (∀ p ∈ kvs, ∀ q ∈ kvs, scal p.1 = scal q.1) → R k F (.ref a) (.dct kvs)
  | rng {a : Addr} {lo hi : Int} : F a = some (.rng lo hi) → rngOk lo → rngOk hi → R k F (.ref a) (.rng lo hi)
  | pool {a r c : Addr} : k.P = some (a, r, c) → R k F (.ref a) .pool
inductive Rs (k : RC) (F : Hp) : List V → List D → Prop where
  | nil : Rs k F [] []
  | cons {v : V} {vs : List V} {d : D} {ds : List D} : R k F v d → Rs k F vs ds → Rs k F (v :: vs) (d :: ds)
inductive RKs (k : RC) (F : Hp) : List DictEntry → List (D × D) → Prop where
  | nil : RKs k F [] []
  | cons {e : DictEntry} {es : List DictEntry} {kd vd : D} {kvs : List (D × D)} {kv vv : V} {n : NestedKey} : RelV kv e.key → R k F kv kd → RelV vv e.val → R k F vv vd →
      nk kd = some n → n.depth ≤ 8 → e.hash = n.hash k.w → RKs k F es kvs → RKs k F (e :: es) ((kd, vd) :: kvs)
end
section
variable {k : RC} {F F' : Hp}
theorem TupAt.mono {K : PySem.W.Frag} {a : Addr} {vs : List V} (h : TupAt K F a vs) (s : Same F F') : TupAt K F' a vs := by
  rcases h with ⟨o, h, d⟩ | h
  · exact .inl ⟨o, s _ _ h, d⟩
  · exact .inr h
theorem TupAt.sq {K : PySem.W.Frag} {a : Addr} {vs : List V} (h : TupAt K F a vs) : SqT K F a vs := by
  rcases h with ⟨o, h, d⟩ | ⟨o, its, n, h1, h2, h3, h4, h5, h6⟩
  · exact .inl (.inr ⟨o, h⟩)
  · exact .inr ⟨o, its, n, h1, h2, h4, h5, h6⟩
theorem Rd.mono {a : Addr} {u : HO} (h : Rd F a u) (s : Same F F') : Rd F' a u := by
  rcases h with h | ⟨o, h⟩
  · exact .inl (s _ _ h)
  · exact .inr ⟨o, s _ _ h⟩
theorem DctAt.mono {a : Addr} {es : List DictEntry} (h : DctAt F a es) (s : Same F F') : DctAt F' a es := by
  obtain ⟨o, ep, h, r⟩ := h
  exact ⟨o, ep, s _ _ h, r⟩
mutual
theorem R.mono (s : Same F F') : ∀ {v : V} {d : D}, R k F v d → R k F' v d
  | _, _, .non => .non
  | _, _, .bl b => .bl b
  | _, _, .int i => .int i
  | _, _, .str x => .str x
  | _, _, .tup h r => .tup (h.mono s) (Rs.mono s r)
  | _, _, .lst h r => .lst (s _ _ h) (Rs.mono s r)
  | _, _, .dct h r n u => .dct (h.mono s) (RKs.mono s r) n u
  | _, _, .rng h a b => .rng (s _ _ h) a b
  | _, _, .pool h => .pool h
theorem Rs.mono (s : Same F F') : ∀ {vs : List V} {ds : List D}, Rs k F vs ds → Rs k F' vs ds
  | _, _, .nil => .nil
  | _, _, .cons h r => .cons (R.mono s h) (Rs.mono s r)
theorem RKs.mono (s : Same F F') : ∀ {es : List DictEntry} {kvs : List (D × D)}, RKs k F es kvs → RKs k F' es kvs
  | _, _, .nil => .nil
  | _, _, .cons a h b i c d e r => .cons a (R.mono s h) b (R.mono s i) c d e (RKs.mono s r)
end
theorem Rs.length : ∀ {vs : List V} {ds : List D}, Rs k F vs ds → vs.length = ds.length
  | _, _, .nil => rfl
  | _, _, .cons _ r => by rw [List.length_cons, List.length_cons, Rs.length r]
theorem RKs.length : ∀ {es : List DictEntry} {kvs : List (D × D)}, RKs k F es kvs → es.length = kvs.length
  | _, _, .nil => rfl
  | _, _, .cons _ _ _ _ _ _ _ r => by rw [List.length_cons, List.length_cons, RKs.length r]
theorem Rs.get : ∀ {vs : List V} {ds : List D} {i : Nat} {d : D}, Rs k F vs ds → ds[i]? = some d → ∃ v, vs[i]? = some v ∧ R k F v d
  | _, _, _, _, .nil, e => by simp at e
  | _, _, 0, _, .cons h _, e => by simp at e; subst e; exact ⟨_, rfl, h⟩
  | _, _, i + 1, d, .cons _ r, e => by
    obtain ⟨v, h1, h2⟩ := Rs.get (i := i) (d := d) r (by simpa using e)
    exact ⟨v, by simpa using h1, h2⟩
theorem Rs.get' : ∀ {vs : List V} {ds : List D} {i : Nat} {v : V}, Rs k F vs ds → vs[i]? = some v → ∃ d, ds[i]? = some d ∧ R k F v d
  | _, _, _, _, .nil, e => by simp at e
  | _, _, 0, _, .cons h _, e => by simp at e; subst e; exact ⟨_, rfl, h⟩
  | _, _, i + 1, d, .cons _ r, e => by
    obtain ⟨v, h1, h2⟩ := Rs.get' (i := i) (v := d) r (by simpa using e)
    exact ⟨v, by simpa using h1, h2⟩
theorem Rs.append : ∀ {vs ws : List V} {ds es : List D}, Rs k F vs ds → Rs k F ws es → Rs k F (vs ++ ws) (ds ++ es)
  | _, _, _, _, .nil, s => s
  | _, _, _, _, .cons h r, s => .cons h (Rs.append r s)
theorem Rs.take : ∀ {vs : List V} {ds : List D} (n : Nat), Rs k F vs ds → Rs k F (vs.take n) (ds.take n)
  | _, _, 0, _ => .nil
  | _, _, _ + 1, .nil => .nil
  | _, _, n + 1, .cons h r => .cons h (Rs.take n r)
theorem Rs.drop : ∀ {vs : List V} {ds : List D} (n : Nat), Rs k F vs ds → Rs k F (vs.drop n) (ds.drop n)
  | _, _, 0, r => r
  | _, _, _ + 1, .nil => .nil
  | _, _, n + 1, .cons _ r => Rs.drop n r
theorem Rs.set : ∀ {vs : List V} {ds : List D} (i : Nat) {v : V} {d : D}, Rs k F vs ds → R k F v d → Rs k F (vs.set i v) (ds.set i d)
  | _, _, _, _, _, .nil, _ => .nil
  | _, _, 0, _, _, .cons _ r, h => .cons h r
  | _, _, i + 1, _, _, .cons q r, h => .cons q (Rs.set i r h)
theorem Rs.eraseIdx : ∀ {vs : List V} {ds : List D} (i : Nat), Rs k F vs ds → Rs k F (vs.eraseIdx i) (ds.eraseIdx i)
  | _, _, _, .nil => .nil
  | _, _, 0, .cons _ r => r
  | _, _, i + 1, .cons h r => .cons h (Rs.eraseIdx i r)
theorem Rs.reverse : ∀ {vs : List V} {ds : List D}, Rs k F vs ds → Rs k F vs.reverse ds.reverse
  | _, _, .nil => .nil
  | _, _, .cons h r => by rw [List.reverse_cons, List.reverse_cons]; exact (Rs.reverse r).append (.cons h .nil)
theorem Rs.flat {vs : List V} {ds : List D} (r : Rs k F vs ds) : ∀ n : Nat, Rs k F (List.replicate n vs).flatten (List.replicate n ds).flatten
  | 0 => .nil
  | n + 1 => by rw [List.replicate_succ, List.replicate_succ, List.flatten_cons, List.flatten_cons]; exact r.append (Rs.flat r n)
theorem Rs.dropLast {vs : List V} {ds : List D} (r : Rs k F vs ds) : Rs k F vs.dropLast ds.dropLast := by
  rw [List.dropLast_eq_take, List.dropLast_eq_take, r.length]; exact r.take _
end

/-! ### the state -/
def isC (k : RC) (a : Addr) : Prop := ∃ p r, k.P = some (p, r, a)
def inP' (k : RC) (a : Addr) : Prop := ∃ p r c, k.P = some (p, r, c) ∧ (a = p ∨ a = r ∨ a = c)
theorem isC.inP {k : RC} {a : Addr} (h : isC k a) : inP' k a := let ⟨p, r, e⟩ := h; ⟨p, r, a, e, .inr (.inr rfl)⟩
/-- the pool's lists, not seen from elsewhere -/
def PoolOk (k : RC) (F H : Hp) (dr : Nat) : Prop := ∀ p r c, k.P = some (p, r, c) → (F p = none ∧ F r = none ∧ F c = none) ∧ (c ≠ p ∧ c ≠ r) ∧ H p = some (.lst [.ref r, .ref c]) ∧
  (∃ rows : List Int, (rows ≠ [] ∧ rows.length ≤ 1000000) ∧ H r = some (.lst (rows.map V.int))) ∧ ∃ n : Int, 0 ≤ n ∧ n ≤ dr ∧ H c = some (.lst [.int n])
def OwnL (k : RC) (F H : Hp) (a : Addr) (xs : List D) : Prop := ∃ vs, H a = some (.lst vs) ∧ F a = none ∧ ¬ inP' k a ∧ Rs k F vs xs
def OwnDk (k : RC) (F H : Hp) (a : Addr) (kvs : List (D × D)) : Prop := ∃ es, DctAt H a es ∧ F a = none ∧ ¬ inP' k a ∧ RKs k F es kvs ∧ (kvs.map fun p => nk p.1).Nodup ∧ ∀ p ∈ kvs, ∀ q ∈ kvs, scal p.1 = scal q.1
def SlotR (k : RC) (F H : Hp) (x : Option (Option V)) : SV → Prop
  | .no => True
  | .val d => ∃ v, x = some (some v) ∧ R k F v d
  | .own xs => ∃ a, x = some (some (.ref a)) ∧ OwnL k F H a xs
  | .owd kvs => ∃ a, x = some (some (.ref a)) ∧ OwnDk k F H a kvs
/-- the slot i owns the thing at a -/
def OwnAt (ρ : PEnv) (σ : L2.St) (i : Nat) (a : Addr) : Prop := (ρ.get i).plain = false ∧ σ[i]? = some (some (.ref a))
structure Rel (k : RC) (ρ : PEnv) (σ : L2.St) (F H : Hp) : Prop where
  len : ρ.sl.length = σ.length
  sub : Same F H
  slot : ∀ i, SlotR k F H σ[i]? (ρ.get i)
  inj : ∀ i j a, OwnAt ρ σ i a → OwnAt ρ σ j a → i = j
  pool : PoolOk k F H ρ.dr
/-- all tracked things but the pool's counter are as they were -/
def SameX (k : RC) (H H' : Hp) : Prop := ∀ a o, H a = some o → ¬ isC k a → H' a = some o
/-- an expression has been evaluated -/
structure ETr (k : RC) (ρ : PEnv) (σ : L2.St) (F H : Hp) (ρ' : PEnv) (F' H' : Hp) : Prop where
  sub : Same F F'
  heap : SameX k H H'
  there : ∀ a, H a ≠ none → H' a ≠ none
  vis : ∀ a, H a ≠ none → (∀ i, ¬ OwnAt ρ σ i a) → F' a = F a
  own : ∀ i a, OwnAt ρ' σ i a → OwnAt ρ σ i a
/-- what is lent: a seen thing, or a slot's own one -/
def BR (k : RC) (F H : Hp) (v : V) (d : D) : Prop := R k F v d ∨ (∃ a xs, v = .ref a ∧ d = .lst xs ∧ OwnL k F H a xs) ∨ ∃ a kvs, v = .ref a ∧ d = .dct kvs ∧ OwnDk k F H a kvs
def RR (k : RC) (H : Hp) (F' H' : Hp) (v : V) : RV → Prop
  | .val d => R k F' v d
  | .brw d => BR k F' H' v d
  | .own xs => ∃ a, v = .ref a ∧ H a = none ∧ OwnL k F' H' a xs
  | .owd kvs => ∃ a, v = .ref a ∧ H a = none ∧ OwnDk k F' H' a kvs
structure EPost (k : RC) (ρ : PEnv) (σ : L2.St) (F H : Hp) (r : RV) (v : V) (ρ' : PEnv) (F' H' : Hp) : Prop where
  rel : Rel k ρ' σ F' H'
  tr : ETr k ρ σ F H ρ' F' H'
  res : RR k H F' H' v r
section
variable {k : RC} {ρ ρ1 ρ2 ρ3 : PEnv} {σ : L2.St} {F F1 F2 F3 H H1 H2 H3 : Hp} {v : V} {d : D} {r : RV}
theorem SameX.refl : SameX k H H := fun _ _ h _ => h
theorem SameX.trans (a : SameX k H H1) (b : SameX k H1 H2) : SameX k H H2 := fun c o h n => b c o (a c o h n) n
theorem SameX.of (a : Same H H1) : SameX k H H1 := fun c o h _ => a c o h
theorem Rel.nop (h : Rel k ρ σ F H) : ∀ a, inP' k a → F a = none := fun a ⟨p, r, c, e, z⟩ => by
  obtain ⟨⟨h1, h2, h3⟩, _⟩ := h.pool p r c e
  rcases z with rfl | rfl | rfl
  · exact h1
  · exact h2
  · exact h3
theorem Same.upd_new {a : Addr} {o : HO} (h : F a = none) : Same F (upd F a o) := fun b u e => by
  rw [upd_ne (ne_of_none e h)]; exact e
theorem EPost.lent (p : EPost k ρ σ F H r v ρ1 F1 H1) : BR k F1 H1 v r.toD := by
  have q := p.res
  cases r with
  | val d => exact .inl q
  | brw d => exact q
  | own xs => obtain ⟨a, rfl, _, o⟩ := q; exact .inr (.inl ⟨a, xs, rfl, rfl, o⟩)
  | owd kvs => obtain ⟨a, rfl, _, o⟩ := q; exact .inr (.inr ⟨a, kvs, rfl, rfl, o⟩)
theorem ETr.refl : ETr k ρ σ F H ρ F H := ⟨fun _ _ h => h, .refl, fun _ h => h, fun _ _ _ => rfl, fun _ _ h => h⟩
theorem ETr.trans (a : ETr k ρ σ F H ρ1 F1 H1) (b : ETr k ρ1 σ F1 H1 ρ2 F2 H2) : ETr k ρ σ F H ρ2 F2 H2 where
  sub := fun c o h => b.sub c o (a.sub c o h)
  heap := a.heap.trans b.heap
  there := fun c h => b.there c (a.there c h)
  vis := fun c h n => (b.vis c (a.there c h) fun i z => n i (a.own i c z)).trans (a.vis c h n)
  own := fun i c h => a.own i c (b.own i c h)
end
end PL
/-! PL3: the state goes on: new things, frozen things; tuples made, with their objects known. -/
namespace PL
open PySem PySem.Spec PyProof.Rows L2

section
variable {k : RC} {ρ ρ' ρ1 ρ2 ρ3 : PEnv} {σ : L2.St} {F F1 F2 F3 F' H H1 H2 H3 H' : Hp} {v : V} {d : D} {r : RV} {a : Addr} {o : HO}
theorem PoolOk.grow {dr : Nat} (h : PoolOk k F H dr) (s : Same H H') (vis : ∀ a, H a ≠ none → F' a = F a) : PoolOk k F' H' dr := fun p r c e => by
  obtain ⟨⟨f1, f2, f3⟩, n, h1, ⟨rows, hr, h2⟩, m, hm, hm', h3⟩ := h p r c e
  have g : ∀ {b u}, H b = some u → H b ≠ none := fun e z => by rw [e] at z; cases z
  exact ⟨⟨(vis p (g h1)).trans f1, (vis r (g h2)).trans f2, (vis c (g h3)).trans f3⟩, n, s _ _ h1, ⟨rows, hr, s _ _ h2⟩, m, hm, hm', s _ _ h3⟩
theorem OwnL.grow {xs : List D} (h : OwnL k F H a xs) (sub : Same F F') (heap : SameX k H H') (vis : F' a = F a) : OwnL k F' H' a xs := by
  obtain ⟨vs, h1, h2, h3, h4⟩ := h
  exact ⟨vs, heap _ _ h1 fun z => h3 z.inP, vis.trans h2, h3, h4.mono sub⟩
theorem OwnDk.grow {kvs : List (D × D)} (h : OwnDk k F H a kvs) (sub : Same F F') (heap : SameX k H H') (vis : F' a = F a) : OwnDk k F' H' a kvs := by
  obtain ⟨es, ⟨o, ep, h1, hr⟩, h2, h3, h4, h5⟩ := h
  exact ⟨es, ⟨o, ep, heap _ _ h1 fun z => h3 z.inP, hr⟩, vis.trans h2, h3, h4.mono sub, h5⟩
/-- what is lent stays so, or is seen by now -/
theorem BR.grow (h : BR k F H v d) (sub : Same F F') (heap : SameX k H H') (ins : Same F' H') : BR k F' H' v d := by
  rcases h with h | ⟨a, xs, rfl, rfl, o⟩ | ⟨a, kvs, rfl, rfl, o⟩
  · exact .inl (h.mono sub)
  · obtain ⟨vs, h1, h2, h3, h4⟩ := id o
    have h1' := heap _ _ h1 fun z => h3 z.inP
    cases e : F' a with
    | none => exact .inr (.inl ⟨a, xs, rfl, rfl, vs, h1', e, h3, h4.mono sub⟩)
    | some u =>
      have := (ins a u e).symm.trans h1'
      cases this
      exact .inl (.lst e (h4.mono sub))
  · obtain ⟨es, ⟨ob, ep, h1, hr⟩, h2, h3, h4, n, u⟩ := id o
    have h1' := heap _ _ h1 fun z => h3 z.inP
    cases e : F' a with
    | none => exact .inr (.inr ⟨a, kvs, rfl, rfl, es, ⟨ob, ep, h1', hr⟩, e, h3, h4.mono sub, n, u⟩)
    | some w =>
      have := (ins a w e).symm.trans h1'
      cases this
      exact .inl (.dct ⟨ob, ep, e, hr⟩ (h4.mono sub) n u)
theorem BR.tr {σ' : L2.St} (h : BR k F H v d) (t : ETr k ρ σ F H ρ' F' H') (r : Rel k ρ' σ' F' H') : BR k F' H' v d := h.grow t.sub t.heap r.sub
theorem BR.int {i : Int} (h : BR k F H v (.int i)) : v = .int i := by
  rcases h with h | ⟨a, xs, _, e, _⟩ | ⟨a, kvs, _, e, _⟩
  · cases h; rfl
  · cases e
  · cases e
theorem BR.bl {i : Bool} (h : BR k F H v (.bl i)) : v = .bl i := by
  rcases h with h | ⟨a, xs, _, e, _⟩ | ⟨a, kvs, _, e, _⟩
  · cases h; rfl
  · cases e
  · cases e
theorem BR.str {i : Str} (h : BR k F H v (.str i)) : v = .str i := by
  rcases h with h | ⟨a, xs, _, e, _⟩ | ⟨a, kvs, _, e, _⟩
  · cases h; rfl
  · cases e
  · cases e
theorem BR.non (h : BR k F H v .non) : v = .non := by
  rcases h with h | ⟨a, xs, _, e, _⟩ | ⟨a, kvs, _, e, _⟩
  · cases h; rfl
  · cases e
  · cases e
theorem BR.tup {ds : List D} (h : BR k F H v (.tup ds)) : ∃ a vs, v = .ref a ∧ TupAt k.K F a vs ∧ Rs k F vs ds := by
  rcases h with h | ⟨a, xs, _, e, _⟩ | ⟨a, kvs, _, e, _⟩
  · cases h with | tup h r => exact ⟨_, _, rfl, h, r⟩
  · cases e
  · cases e
theorem BR.lst {ds : List D} (s : Same F H) (h : BR k F H v (.lst ds)) : ∃ a vs, v = .ref a ∧ H a = some (.lst vs) ∧ Rs k F vs ds := by
  rcases h with h | ⟨a, xs, rfl, e, vs, h1, _, _, h4⟩ | ⟨a, kvs, _, e, _⟩
  · cases h with | lst h r => exact ⟨_, _, rfl, s _ _ h, r⟩
  · cases e; exact ⟨a, vs, rfl, h1, h4⟩
  · cases e
theorem BR.dct {kvs : List (D × D)} (s : Same F H) (h : BR k F H v (.dct kvs)) : ∃ a es, v = .ref a ∧ DctAt H a es ∧ RKs k F es kvs ∧ (kvs.map fun p => nk p.1).Nodup ∧ ∀ p ∈ kvs, ∀ q ∈ kvs, scal p.1 = scal q.1 := by
  rcases h with h | ⟨a, xs, _, e, _⟩ | ⟨a, kvs, rfl, e, es, h1, _, _, h4, h5⟩
  · cases h with | dct h r n u => exact ⟨_, _, rfl, DctAt.mono h s, r, n, u⟩
  · cases e
  · cases e; exact ⟨a, es, rfl, h1, h4, h5⟩
theorem BR.rng {lo hi : Int} (h : BR k F H v (.rng lo hi)) : ∃ a, v = .ref a ∧ F a = some (.rng lo hi) ∧ rngOk lo ∧ rngOk hi := by
  rcases h with h | ⟨a, xs, _, e, _⟩ | ⟨a, kvs, _, e, _⟩
  · cases h with | rng h a b => exact ⟨_, rfl, h, a, b⟩
  · cases e
  · cases e
theorem SlotR.here {x : Option (Option V)} {s : SV} {i : Nat} (h : SlotR k F H σ[i]? s) (e : s.plain = false) : ∃ a, σ[i]? = some (some (.ref a)) ∧ H a ≠ none := by
  cases s with
  | no => cases e
  | val d => cases e
  | own xs => obtain ⟨a, e, vs, h1, _⟩ := h; exact ⟨a, e, by rw [h1]; simp⟩
  | owd kvs => obtain ⟨a, e, es, ⟨o, ep, h1, _⟩, _⟩ := h; exact ⟨a, e, by rw [h1]; simp⟩
theorem Rel.ownH (h : Rel k ρ σ F H) {i : Nat} (q : OwnAt ρ σ i a) : H a ≠ none := by
  obtain ⟨b, e, n⟩ := SlotR.here (x := none) (h.slot i) q.1
  rw [q.2] at e
  cases e
  exact n
/-- the same slots over a grown heap -/
theorem Rel.grow {dr : Nat} (h : Rel k ρ σ F H) (sub : Same F F') (ins : Same F' H') (heap : SameX k H H') (vis : ∀ a, H a ≠ none → F' a = F a) (pool : PoolOk k F' H' dr) : Rel k ⟨ρ.sl, dr⟩ σ F' H' := by
  refine ⟨h.len, ins, fun i => ?_, h.inj, pool⟩
  have q := h.slot i
  show SlotR k F' H' σ[i]? (ρ.get i)
  cases e : ρ.get i with
  | no => trivial
  | val d => rw [e] at q; obtain ⟨v, e1, e2⟩ := q; exact ⟨v, e1, e2.mono sub⟩
  | own xs =>
    rw [e] at q; obtain ⟨a, e1, e2⟩ := q
    exact ⟨a, e1, e2.grow sub heap (vis a (h.ownH (i := i) ⟨by rw [e]; rfl, e1⟩))⟩
  | owd xs =>
    rw [e] at q; obtain ⟨a, e1, e2⟩ := q
    exact ⟨a, e1, e2.grow sub heap (vis a (h.ownH (i := i) ⟨by rw [e]; rfl, e1⟩))⟩
theorem ETr.grow {dr : Nat} (sub : Same F F') (heap : SameX k H H') (there : ∀ a, H a ≠ none → H' a ≠ none) (vis : ∀ a, H a ≠ none → F' a = F a) : ETr k ρ σ F H ⟨ρ.sl, dr⟩ F' H' :=
  ⟨sub, heap, there, fun a h _ => vis a h, fun _ _ h => h⟩
theorem there_of (s : Same H H') : ∀ a, H a ≠ none → H' a ≠ none := fun a h z => by
  cases e : H a with
  | none => exact h e
  | some u => rw [s a u e] at z; cases z
/-- all the tracked things kept -/
theorem Rel.keepH (h : Rel k ρ σ F H) (s : Same H H') : Rel k ρ σ F H' :=
  h.grow (fun _ _ e => e) (fun b u e => s b u (h.sub b u e)) (.of s) (fun _ _ => rfl) (h.pool.grow s fun _ _ => rfl)
theorem ETr.keepH (s : Same H H') : ETr k ρ σ F H ρ F H' := ETr.grow (dr := ρ.dr) (fun _ _ e => e) (.of s) (there_of s) fun _ _ => rfl
/-- a new thing that is seen from now on -/
theorem Rel.newF (h : Rel k ρ σ F H) (hn : H a = none) : Rel k ρ σ (upd F a o) (upd H a o) := by
  have fn : F a = none := by
    cases e : F a with
    | none => rfl
    | some u => rw [h.sub a u e] at hn; cases hn
  have vis : ∀ b, H b ≠ none → upd F a o b = F b := fun b hb => upd_ne fun z => hb (z ▸ hn)
  refine h.grow (Same.upd_new fn) (fun b u e => ?_) (.of (Same.upd_new hn)) vis (h.pool.grow (Same.upd_new hn) vis)
  by_cases z : b = a
  · subst z; rw [upd_same] at e ⊢; exact e
  · rw [upd_ne z] at e ⊢; exact h.sub b u e
theorem Rel.fnone (h : Rel k ρ σ F H) (hn : H a = none) : F a = none := by
  cases e : F a with
  | none => rfl
  | some u => rw [h.sub a u e] at hn; cases hn
theorem ETr.newF (h : Rel k ρ σ F H) (hn : H a = none) : ETr k ρ σ F H ρ (upd F a o) (upd H a o) :=
  ETr.grow (dr := ρ.dr) (Same.upd_new (h.fnone hn)) (.of (Same.upd_new hn)) (there_of (Same.upd_new hn)) fun b hb => upd_ne fun z => hb (z ▸ hn)
/-- .. not seen -/
theorem Rel.newH (h : Rel k ρ σ F H) (hn : H a = none) : Rel k ρ σ F (upd H a o) := h.keepH (Same.upd_new hn)
theorem Rel.nopN (h : Rel k ρ σ F H) (hn : H a = none) : ¬ inP' k a := fun ⟨p, r, c, e, z⟩ => by
  obtain ⟨_, _, h1, ⟨rows, _, h2⟩, m, _, _, h3⟩ := h.pool p r c e
  rcases z with rfl | rfl | rfl
  · rw [h1] at hn; cases hn
  · rw [h2] at hn; cases hn
  · rw [h3] at hn; cases hn
/-- a slot's own thing is frozen -/
theorem get_put {i j : Nat} {s : SV} (hi : i < ρ.sl.length) : (ρ.put i s).get j = if j = i then s else ρ.get j := by
  unfold PEnv.get PEnv.put
  simp only [List.getD_eq_getElem?_getD, List.getElem?_set]
  by_cases h : i = j
  · subst h; simp [hi]
  · rw [if_neg h, if_neg (Ne.symm h)]
theorem put_len {i : Nat} {s : SV} : (ρ.put i s).sl.length = ρ.sl.length := by unfold PEnv.put; simp
theorem get_lt {i : Nat} (h : ρ.get i ≠ .no) : i < ρ.sl.length := by
  by_cases q : i < ρ.sl.length
  · exact q
  · exfalso; apply h; unfold PEnv.get; rw [List.getD_eq_getElem?_getD, List.getElem?_eq_none (by omega)]; rfl
theorem PoolOk.see {dr : Nat} (h : PoolOk k F H dr) (n : ¬ inP' k a) : PoolOk k (upd F a o) H dr := fun p r c e => by
  obtain ⟨⟨f1, f2, f3⟩, q⟩ := h p r c e
  have w : ∀ b, (b = p ∨ b = r ∨ b = c) → b ≠ a := fun b z y => n ⟨p, r, c, e, y ▸ z⟩
  exact ⟨⟨(upd_ne (w p (.inl rfl))).trans f1, (upd_ne (w r (.inr (.inl rfl)))).trans f2, (upd_ne (w c (.inr (.inr rfl)))).trans f3⟩, q⟩
/-- the thing at a, that slot i owns, is seen from now on -/
theorem Rel.freeze {i : Nat} {u : HO} (h : Rel k ρ σ F H) (q : OwnAt ρ σ i a) (hu : H a = some u) (fa : F a = none) (np : ¬ inP' k a) {d : D} (rd : R k (upd F a u) (.ref a) d) :
    Rel k (ρ.put i (.val d)) σ (upd F a u) H ∧ ETr k ρ σ F H (ρ.put i (.val d)) (upd F a u) H := by
  have hi : i < ρ.sl.length := get_lt fun z => by have := q.1; rw [z] at this; cases this
  have sub : Same F (upd F a u) := Same.upd_new fa
  have pl : ∀ j, j ≠ i → (ρ.put i (.val d)).get j = ρ.get j := fun j e => by rw [get_put hi, if_neg e]
  have pi : (ρ.put i (.val d)).get i = .val d := by rw [get_put hi, if_pos rfl]
  have ow : ∀ j b, OwnAt (ρ.put i (.val d)) σ j b → OwnAt ρ σ j b ∧ j ≠ i := fun j b z => by
    by_cases e : j = i
    · subst e; have := z.1; rw [pi] at this; cases this
    · exact ⟨⟨by rw [← pl j e]; exact z.1, z.2⟩, e⟩
  refine ⟨⟨?_, ?_, fun j => ?_, fun j l b x y => h.inj j l b (ow j b x).1 (ow l b y).1, ?_⟩, ⟨sub, .refl, fun _ z => z, fun b hb n => ?_, fun j b z => (ow j b z).1⟩⟩
  · rw [put_len]; exact h.len
  · intro b w e
    by_cases z : b = a
    · subst z; rw [upd_same] at e; rw [← e]; exact hu
    · rw [upd_ne z] at e; exact h.sub b w e
  · by_cases e : j = i
    · subst e; rw [pi]; exact ⟨.ref a, q.2, rd⟩
    · rw [pl j e]
      have s := h.slot j
      cases eg : ρ.get j with
      | no => trivial
      | val d => rw [eg] at s; obtain ⟨v, e1, e2⟩ := s; exact ⟨v, e1, e2.mono sub⟩
      | own xs =>
        rw [eg] at s; obtain ⟨b, e1, e2⟩ := s
        exact ⟨b, e1, e2.grow sub .refl (upd_ne fun z => e (h.inj j i a ⟨by rw [eg]; rfl, by rw [← z]; exact e1⟩ q))⟩
      | owd xs =>
        rw [eg] at s; obtain ⟨b, e1, e2⟩ := s
        exact ⟨b, e1, e2.grow sub .refl (upd_ne fun z => e (h.inj j i a ⟨by rw [eg]; rfl, by rw [← z]; exact e1⟩ q))⟩
  · exact h.pool.see np
  · exact upd_ne fun z => n i (by rw [z]; exact q)
end

/-! ### what an expression's reading ends with -/
section
variable {k : RC} {ρ ρ' ρ1 ρ2 ρ3 : PEnv} {σ : L2.St} {F F1 F2 F3 F' H H1 H2 H3 H' : Hp} {v : V} {d : D} {r : RV} {a : Addr} {o : HO}
theorem EPost.flat (h : Rel k ρ1 σ F1 H1) (t : ETr k ρ σ F H ρ1 F1 H1) (q : R k F1 v d) : EPost k ρ σ F H (.val d) v ρ1 F1 H1 := ⟨h, t, q⟩
theorem EPost.newF (h : Rel k ρ1 σ F1 H1) (t : ETr k ρ σ F H ρ1 F1 H1) (hn : H1 a = none) (q : R k (upd F1 a o) (.ref a) d) : EPost k ρ σ F H (.val d) (.ref a) ρ1 (upd F1 a o) (upd H1 a o) :=
  ⟨h.newF hn, t.trans (.newF h hn), q⟩
theorem none_back (s : ∀ a, H a ≠ none → H1 a ≠ none) (hn : H1 a = none) : H a = none := by
  cases e : H a with
  | none => rfl
  | some u => exact absurd hn (s a (by rw [e]; simp))
theorem EPost.newL {vs : List V} {xs : List D} (h : Rel k ρ1 σ F1 H1) (t : ETr k ρ σ F H ρ1 F1 H1) (hn : H1 a = none) (q : Rs k F1 vs xs) : EPost k ρ σ F H (.own xs) (.ref a) ρ1 F1 (upd H1 a (.lst vs)) :=
  ⟨h.newH hn, t.trans (.keepH (Same.upd_new hn)), a, rfl, none_back t.there hn, vs, upd_same, h.fnone hn, h.nopN hn, q⟩
/-- behind an expression, another one -/
theorem EPost.then {r1 r2 : RV} {v1 v2 : V} (p : EPost k ρ σ F H r1 v1 ρ1 F1 H1) (q : EPost k ρ1 σ F1 H1 r2 v2 ρ2 F2 H2) : EPost k ρ σ F H r2 v2 ρ2 F2 H2 := by
  refine ⟨q.rel, p.tr.trans q.tr, ?_⟩
  have z := q.res
  cases r2 with
  | val d => exact z
  | brw d => exact z
  | own xs => obtain ⟨a, e, n, o⟩ := z; exact ⟨a, e, none_back p.tr.there n, o⟩
  | owd xs => obtain ⟨a, e, n, o⟩ := z; exact ⟨a, e, none_back p.tr.there n, o⟩
theorem EPost.tr2 {r1 r2 : RV} {v1 v2 : V} (p : EPost k ρ σ F H r1 v1 ρ1 F1 H1) (q : ETr k ρ1 σ F1 H1 ρ2 F2 H2) : ETr k ρ σ F H ρ2 F2 H2 := p.tr.trans q
/-- a thing that no slot owns is seen from now on -/
theorem Rel.see {u : HO} (h : Rel k ρ σ F H) (n : ∀ i, ¬ OwnAt ρ σ i a) (hu : H a = some u) (fa : F a = none) (np : ¬ inP' k a) : Rel k ρ σ (upd F a u) H := by
  have sub : Same F (upd F a u) := Same.upd_new fa
  refine ⟨h.len, ?_, fun j => ?_, h.inj, h.pool.see np⟩
  · intro b w e
    by_cases z : b = a
    · subst z; rw [upd_same] at e; rw [← e]; exact hu
    · rw [upd_ne z] at e; exact h.sub b w e
  · have s := h.slot j
    cases eg : ρ.get j with
    | no => trivial
    | val d => rw [eg] at s; obtain ⟨v, e1, e2⟩ := s; exact ⟨v, e1, e2.mono sub⟩
    | own xs =>
      rw [eg] at s; obtain ⟨b, e1, e2⟩ := s
      exact ⟨b, e1, e2.grow sub .refl (upd_ne fun z => n j ⟨by rw [eg]; rfl, by rw [← z]; exact e1⟩)⟩
    | owd xs =>
      rw [eg] at s; obtain ⟨b, e1, e2⟩ := s
      exact ⟨b, e1, e2.grow sub .refl (upd_ne fun z => n j ⟨by rw [eg]; rfl, by rw [← z]; exact e1⟩)⟩
/-- kept things may be laid into others: what is new is seen from now on -/
theorem EPost.keep {Q : D → Prop} (h0 : Rel k ρ σ F H) (p : EPost k ρ σ F H r v ρ1 F1 H1) (h : r.kept Q) : ∃ d F2, Q d ∧ r.toD = d ∧ R k F2 v d ∧ Rel k ρ1 σ F2 H1 ∧ ETr k ρ σ F H ρ1 F2 H1 := by
  have q := p.res
  have seen : ∀ {a u}, H a = none → H1 a = some u → F1 a = none → ¬ inP' k a → Rel k ρ1 σ (upd F1 a u) H1 ∧ ETr k ρ σ F H ρ1 (upd F1 a u) H1 := fun {a u} hn hu fa np => by
    have ne : ∀ i, ¬ OwnAt ρ1 σ i a := fun i z => h0.ownH (p.tr.own i a z) hn
    refine ⟨p.rel.see ne hu fa np, ⟨fun b w e => Same.upd_new fa b w (p.tr.sub b w e), p.tr.heap, p.tr.there, fun b hb n => ?_, p.tr.own⟩⟩
    rw [upd_ne (fun z => hb (by rw [z]; exact hn))]; exact p.tr.vis b hb n
  cases r with
  | val d => exact ⟨d, F1, h, rfl, q, p.rel, p.tr⟩
  | brw d => exact h.elim
  | own xs =>
    obtain ⟨a, rfl, hn, vs, h1, h2, h3, h4⟩ := q
    obtain ⟨x1, x2⟩ := seen hn h1 h2 h3
    exact ⟨_, _, h, rfl, .lst upd_same (h4.mono (Same.upd_new h2)), x1, x2⟩
  | owd kvs =>
    obtain ⟨a, rfl, hn, es, ⟨o, ep, h1, h5, h6, h7⟩, h2, h3, h4, n, u⟩ := q
    obtain ⟨x1, x2⟩ := seen hn h1 h2 h3
    exact ⟨_, _, h, rfl, .dct ⟨o, ep, upd_same, h5, h6, h7⟩ (h4.mono (Same.upd_new h2)) n u, x1, x2⟩
end

/-! ### tuples made, their objects known -/
section
variable {X : Cx} {pins : List (Addr × Obj)} {σ : L2.St} {H : Hp} {s : Shared}
def tupObj (its : List Value) : Obj := { cls := .type "tuple", data := .seq its.toArray }
theorem laidT {xs : List V} {its : List Value} {t' : Nat} (I : Inv X pins σ H s) (r : Vals xs its) (hz : xs.length ≤ sizeLine) :
    Inv X pins σ (upd H s.heap.objs.size (.frz (tupObj its) (.tup xs))) { s with heap := s.heap.push (tupObj its), toks := t' } :=
  I.laid (fun b o e => Heap.get?_push_of_some _ e) (Nat.le_refl _) ⟨Heap.get?_push_size _ rfl, hz, its, r, IsTup.new _ _⟩
/-- the wish of a new tuple -/
def NewT (xs : List V) (H : Hp) (Q : VK) : Prop := ∀ p o, H p = none → o.dict = none → Q (.ref p) (upd H p (.frz o (.tup xs)))
def tTupF (t : TA) : TE := fun σ H Q => t σ H fun xs H1 => xs.length ≤ sizeLine ∧ NewT xs H1 Q
theorem pe_tupF {es : List Expr} {t : TA} {pos : Pos} {x1} (h : PA X es t) : PE X (.Tuple es x1 pos) (tTupF t) := by
  refine ⟨fun pins s σ H Q I hq => ?_⟩
  refine wpAny_Tuple_spliced (thn (h.run pos pins s σ H _ I hq) fun us s1 ⟨xs, H1, I1, r, z, q⟩ => ⟨by rw [← r.length]; exact z, ?_⟩)
  exact ⟨.ref s1.heap.objs.size, _, laidT (t' := s1.toks) I1 r z, rfl, q _ _ (I1.hok.fresh (Nat.le_refl _)) rfl⟩
theorem tuple_ofF : CallR X (.type "tuple") (fun xs H Q => ∃ p ys, xs = [.ref p] ∧ ((SqL X.K H p ys ∧ NewT ys H Q) ∨ (SqT X.K H p ys ∧ Q (.ref p) H))) := by
  intro pins s σ H xs us Q I r h
  obtain ⟨p, ys, rfl, h⟩ := h
  obtain ⟨u, rfl, rx⟩ := vals1 r
  cases rx
  rcases h with ⟨hq, q⟩ | ⟨hq, q⟩
  · obtain ⟨its, r', pl, hz⟩ := I.list hq
    have hlen := r'.length
    refine call_tuple_list pl.isList (fun h' kp => ?_) (by simp only [List.size_toArray] <;> omega)
    have I1 : Inv X pins σ H { s with heap := h' } := I.kept (t' := s.toks) kp
    exact ⟨.ref h'.objs.size, _, laidT (t' := s.toks) I1 r' hz, rfl, q _ _ (I1.hok.fresh (Nat.le_refl _)) rfl⟩
  · obtain ⟨its, r', pl, hz⟩ := I.tuple hq
    exact call_tuple_same pl ⟨.ref p, H, I, rfl, q⟩
def rCatF (K : PySem.W.Frag) : R2 := fun x y H Q => ∃ a b xs ys, x = .ref a ∧ y = .ref b ∧ SqT K H a xs ∧ SqT K H b ys ∧ xs.length + ys.length ≤ sizeLine ∧
  (xs = [] → Q (.ref b) H) ∧ (xs ≠ [] → ys = [] → Q (.ref a) H) ∧ (xs ≠ [] → ys ≠ [] → NewT (xs ++ ys) H Q)
theorem op_catF : OpR X (binaryOp .Add) (rCatF X.K) := by
  intro pins s σ H x y v u Q I rx ry h
  obtain ⟨a, b, xs, ys, rfl, rfl, ha, hb, hz, q0, q1, q2⟩ := h
  cases rx
  cases ry
  obtain ⟨its, r1, p1, _⟩ := I.tuple ha
  obtain ⟨its2, r2, p2, _⟩ := I.tuple hb
  by_cases hx : xs = []
  · subst hx
    cases r1
    exact cat_tup0 p1 p2 ⟨.ref b, H, I, rfl, q0 rfl⟩
  · refine HT.cat_tup p1 p2 (fun z => hx (r1.nil_iff.mp z)) (fun z => ⟨.ref a, H, I, rfl, q1 hx (r2.nil_iff.mp z)⟩) (fun z => ?_) (by rw [← r1.length, ← r2.length]; exact hz)
    exact ⟨.ref s.heap.objs.size, _, laidT (t' := s.toks) I (r1.append r2) (by rw [List.length_append]; exact hz), rfl, q2 hx (fun w => z (r2.nil_iff.mpr w)) _ _ (I.hok.fresh (Nat.le_refl _)) rfl⟩
def rSlF (K : PySem.W.Frag) : V → Option Int → Option Int → Hp → VK → Prop := fun x lo hi H Q => ∃ a xs, x = .ref a ∧ SqT K H a xs ∧
  (HT.sIx xs.length 0 lo = 0 ∧ HT.sIx xs.length xs.length hi = xs.length → Q (.ref a) H) ∧ (¬ (HT.sIx xs.length 0 lo = 0 ∧ HT.sIx xs.length xs.length hi = xs.length) → NewT (cutV xs lo hi) H Q)
theorem sl_tupF : SlR X (rSlF X.K) := by
  intro pins s σ H x v vl vu lo hi sl Q I rx hs pl pu h
  obtain ⟨a, xs, rfl, hx, q1, q2⟩ := h
  cases rx
  obtain ⟨its, r, ht, hz⟩ := I.tuple hx
  have hlen : its.toArray.size = xs.length := by rw [List.size_toArray]; exact r.length.symm
  refine ⟨"tuple", _, PyProof.Rows.slot_tuple_getitem.lookup, ht.typeIs, ?_⟩
  by_cases hw : HT.sIx xs.length 0 lo = 0 ∧ HT.sIx xs.length xs.length hi = xs.length
  · exact getItem_tuple_whole ht hs pl pu (by rw [hlen]; exact hw) ⟨.ref a, H, I, rfl, q1 hw⟩
  · refine HT.getItem_tuple_cut ht hs pl pu (by rw [hlen]; exact hw) ?_ (by rw [hlen]; exact hz)
    rw [hlen]
    exact ⟨.ref s.heap.objs.size, _, laidT (t' := s.toks) I ((r.drop (HT.sIx xs.length 0 lo)).take (HT.sIx xs.length xs.length hi - HT.sIx xs.length 0 lo)) (Nat.le_trans (cutV_length xs lo hi) hz), rfl, q2 hw _ _ (I.hok.fresh (Nat.le_refl _)) rfl⟩
def rRepF (K : PySem.W.Frag) : R2 := fun x y H Q => ∃ l k xs, x = .ref l ∧ y = .int k ∧ SqT K H l xs ∧ xs ≠ [] ∧ 2 ≤ k ∧ k ≤ 1000 ∧ xs.length ≤ 1000 ∧ NewT (List.replicate k.toNat xs).flatten H Q
theorem op_repF : OpR X (binaryOp .Mult) (rRepF X.K) := by
  intro pins s σ H x y v u Q I rx ry h
  obtain ⟨l, k, xs, rfl, rfl, hT, hne, h1, h2, hz, q⟩ := h
  cases rx
  obtain ⟨t, rfl⟩ := ry
  obtain ⟨its, r, ⟨⟨cls, dd, data, sl⟩, ho, hc, n, hd⟩, hs⟩ := I.tuple hT
  simp only at hc hd
  subst hc hd
  have hle : its.length = xs.length := r.length.symm
  have hn : its ≠ [] := fun e => hne (by
    rw [e] at hle
    exact List.eq_nil_of_length_eq_zero hle.symm)
  have hi : its.toArray.isEmpty = false := by
    cases its with
    | nil => exact absurd rfl hn
    | cons a b => rfl
  have hsz0 : its.toArray.size = xs.length := by rw [List.size_toArray, hle]
  have hm : ((its.toArray.size : Nat) : Int) * k ≤ 1000000 := by
    rw [hsz0]
    have a1 : ((xs.length : Nat) : Int) * k ≤ 1000 * k := Int.mul_le_mul_of_nonneg_right (by omega) (by omega)
    omega
  have flen : (List.replicate k.toNat its).flatten.length ≤ sizeLine := by
    rw [PyProof.Rows.lm_len_rep_flat, hle, sizeLine_eq]
    have a1 : k.toNat * xs.length ≤ 1000 * 1000 := Nat.mul_le_mul (by omega) hz
    omega
  have c0 : (decide (k < -(2 ^ 63)) || decide (k ≥ 2 ^ 63)) = false := by
    rw [decide_eq_false (by omega), decide_eq_false (by omega)] <;> rfl
  have c1 : (its.toArray.isEmpty || k == 1) = false := by
    rw [hi, Bool.false_or]
    exact beq_eq_false_iff_ne.mpr (by omega)
  have c2 : (decide (k ≤ 0) || its.toArray.isEmpty) = false := by
    rw [hi, Bool.or_false]
    exact decide_eq_false (by omega)
  have c4 : Builtin.Tuple.tupleTooMany (((its.toArray.size : Nat) : Int) * k) = false := by
    unfold Builtin.Tuple.tupleTooMany
    rw [sizeLine_eq]
    exact decide_eq_false (by omega)
  refine wpAny_binaryOp_repeat_ref (T := "tuple") (U := "int") (by decide) ⟨_, ho, rfl⟩ (fun s' => typeIs_int s' k t) noFill_tuple_mul F.fills_int_mul F.slot_int_rmul repeat_tuple F.slot_int_index.lookup
    (call_meets F.slot_int_rmul (typeIs_int s k t) F.entry_int_rmul (F.args_int_rmul_2 _ _) (int_rmul_tuple k t l its.toArray n dd sl)
      ⟨ho, rfl, ⟨_, ho, rfl⟩, call_meets F.slot_tuple_mul ⟨_, ho, rfl⟩ F.entry_tuple_mul (F.args_tuple_mul_2 _ _) (tuple_mulW l its.toArray n dd sl k t c0 c1 c2 (by omega) c4 (by rw [size_rep, List.size_toArray]; exact flen)) ⟨ho, ?_⟩⟩)
  rw [size_rep]
  exact ⟨.ref s.heap.objs.size, _, laidT (t' := s.toks) I (r.rep k.toNat) (by rw [PyProof.Rows.lm_len_rep_flat, sizeLine_eq]; have a1 : k.toNat * xs.length ≤ 1000 * 1000 := Nat.mul_le_mul (by omega) hz; omega), rfl, q _ _ (I.hok.fresh (Nat.le_refl _)) rfl⟩
end
end PL
/-! PL4: expressions: the reading over plain data gives the hand layer's reading. -/
namespace PL
open PySem PySem.Spec PyProof.Rows L2

/-- what the context is known to be -/
structure XOk (X : Cx) (k : RC) : Prop where
  K : k.K = X.K
  w : k.w = X.w
  calm : X.calm = true
  room : Room 0 X.A
def tE (C : PC) (k : RC) (e : IE) : TE := fun σ H Q => ∃ ρ F QQ, Rel k ρ σ F H ∧ wpE C e ρ QQ ∧ ∀ r ρ' v F' H', EPost k ρ σ F H r v ρ' F' H' → QQ r ρ' → Q v H'
def tT (C : PC) (k : RC) (e : IE) : TT := fun σ H Q => ∃ ρ F QQ, Rel k ρ σ F H ∧ wpE C e ρ QQ ∧ ∀ b ρ' F' H', Rel k ρ' σ F' H' → ETr k ρ σ F H ρ' F' H' → QQ (.val (.bl b)) ρ' → Q b H'
/-- lent things -/
inductive BRs (k : RC) (F H : Hp) : List V → List D → Prop where
  | nil : BRs k F H [] []
  | cons {v : V} {vs : List V} {d : D} {ds : List D} : BR k F H v d → BRs k F H vs ds → BRs k F H (v :: vs) (d :: ds)
def ARel (k : RC) (b : Bool) (F H : Hp) (vs : List V) (ds : List D) : Prop := if b = true then BRs k F H vs ds else Rs k F vs ds
def tA (C : PC) (k : RC) (b : Bool) (e : IE) : TA := fun σ H Q => ∃ ρ F QQ, Rel k ρ σ F H ∧ wpA C b e ρ QQ ∧ ∀ ds ρ' vs F' H', Rel k ρ' σ F' H' → ETr k ρ σ F H ρ' F' H' → ARel k b F' H' vs ds → QQ ds ρ' → Q vs H'
theorem BRs.grow {k : RC} {F F' H H' : Hp} (sub : Same F F') (heap : SameX k H H') (ins : Same F' H') : ∀ {vs : List V} {ds : List D}, BRs k F H vs ds → BRs k F' H' vs ds
  | _, _, .nil => .nil
  | _, _, .cons h r => .cons (h.grow sub heap ins) (BRs.grow sub heap ins r)
theorem weak {X : Cx} {e : Expr} {t t' : TE} (h : PE X e t) (w : ∀ σ H Q, t' σ H Q → t σ H Q) : PE X e t' := ⟨fun pins s σ H Q I q => h.run pins s σ H Q I (w σ H Q q)⟩
theorem weakT {X : Cx} {e : Expr} {t t' : TT} (h : PT X e t) (w : ∀ σ H Q, t' σ H Q → t σ H Q) : PT X e t' := ⟨fun pins s σ H Q I q => h.run pins s σ H Q I (w σ H Q q)⟩
theorem weakA {X : Cx} {e : List Expr} {t t' : TA} (h : PA X e t) (w : ∀ σ H Q, t' σ H Q → t σ H Q) : PA X e t' := ⟨fun pos pins s σ H Q I q => h.run pos pins s σ H Q I (w σ H Q q)⟩

/-! ### data read by == -/
section
variable {k : RC} {F H : Hp}
mutual
theorem R.dp : ∀ {v : V} {d : D}, R k F v d → d.py.canLay0 = true → Dp k.K F v d.py
  | _, _, .non, _ => .non
  | _, _, .bl b, _ => .bl b
  | _, _, .int i, _ => .int i
  | _, _, .str x, _ => .str x
  | _, _, .tup h r, c => .tup h.sq (Rs.dp r (by simpa only [D.py, PyData.canLay0] using c))
  | _, _, .lst h r, c => .lst (.inl (.inl h)) (Rs.dp r (by simpa only [D.py, PyData.canLay0] using c))
  | _, _, .dct _ _ _ _, c => by simp [D.py, PyData.canLay0] at c
  | _, _, .rng _ _ _, c => by simp [D.py, PyData.canLay0] at c
  | _, _, .pool _, c => by simp [D.py, PyData.canLay0] at c
theorem Rs.dp : ∀ {vs : List V} {ds : List D}, Rs k F vs ds → PyData.canLayAll0 (D.pys ds) = true → DpAll k.K F vs (D.pys ds)
  | _, _, .nil, _ => .nil
  | _, _, .cons h r, c => by
    simp only [D.pys, PyData.canLayAll0, Bool.and_eq_true] at c
    exact .cons (R.dp h c.1) (Rs.dp r c.2)
end
theorem BR.dp {v : V} {d : D} (s : Same F H) (h : BR k F H v d) (c : shp d = true) : Dp k.K H v d.py := by
  have c' := SeqAt.canLay_of_shaped c
  rcases h with h | ⟨a, xs, rfl, rfl, vs, h1, _, _, h4⟩ | ⟨a, kvs, _, rfl, _⟩
  · exact (h.mono s).dp c'
  · exact .lst (.inl (.inl h1)) ((h4.mono s).dp (by simpa only [D.py, PyData.canLay0] using c'))
  · simp [D.py, PyData.canLay0] at c'
theorem any_pys (a : D) : ∀ xs : List D, ((D.pys xs).any fun z => PyData.eqv z a.py) = xs.any fun z => deq z a
  | [] => rfl
  | x :: xs => by rw [D.pys, List.any_cons, List.any_cons, any_pys a xs]; rfl
end

section
variable {X : Cx} {k : RC} {C : PC}
/-! ### constants and names -/
theorem qe_c {e : Expr} {v : V} {d : D} (h : PE X e (tC v)) (r : ∀ F, R k F v d) : PE X e (tE C k (.cst d)) := by
  refine weak h fun σ H Q ⟨ρ, F, QQ, rel, wp, fin⟩ => ?_
  exact fin _ _ _ _ _ (.flat rel .refl (r F)) wp
theorem slot_val {ρ : PEnv} {σ : L2.St} {F H : Hp} {i : Nat} {d : D} (rel : Rel k ρ σ F H) (e : ρ.get i = .val d) : ∃ v, σ[i]? = some (some v) ∧ R k F v d := by
  have q := rel.slot i
  rw [e] at q
  exact q
theorem slot_own {ρ : PEnv} {σ : L2.St} {F H : Hp} {i : Nat} {xs : List D} (rel : Rel k ρ σ F H) (e : ρ.get i = .own xs) : ∃ a, σ[i]? = some (some (.ref a)) ∧ OwnL k F H a xs := by
  have q := rel.slot i
  rw [e] at q
  exact q
theorem slot_owd {ρ : PEnv} {σ : L2.St} {F H : Hp} {i : Nat} {xs : List (D × D)} (rel : Rel k ρ σ F H) (e : ρ.get i = .owd xs) : ∃ a, σ[i]? = some (some (.ref a)) ∧ OwnDk k F H a xs := by
  have q := rel.slot i
  rw [e] at q
  exact q
theorem rd_v {ρ : PEnv} {σ : L2.St} {F H : Hp} {i : Nat} {QQ : RK} (rel : Rel k ρ σ F H) (wp : rdV ρ i QQ) : ∃ v r ρ' F', σ[i]? = some (some v) ∧ EPost k ρ σ F H r v ρ' F' H ∧ QQ r ρ' := by
  unfold rdV at wp
  cases e : ρ.get i with
  | no => rw [e] at wp; exact wp.elim
  | val d =>
    rw [e] at wp
    obtain ⟨v, h1, h2⟩ := slot_val rel e
    exact ⟨v, _, _, _, h1, .flat rel .refl h2, wp⟩
  | own xs =>
    rw [e] at wp
    obtain ⟨a, h1, vs, h2, h3, h4, h5⟩ := slot_own rel e
    have rd : R k (upd F a (.lst vs)) (.ref a) (.lst xs) := .lst upd_same (h5.mono (Same.upd_new h3))
    obtain ⟨x1, x2⟩ := rel.freeze ⟨by rw [e]; rfl, h1⟩ h2 h3 h4 rd
    exact ⟨_, _, _, _, h1, .flat x1 x2 rd, wp⟩
  | owd kvs =>
    rw [e] at wp
    obtain ⟨a, h1, es, ⟨o, ep, h2, hr⟩, h3, h4, h5, n, u⟩ := slot_owd rel e
    have rd : R k (upd F a (exO a o)) (.ref a) (.dct kvs) := .dct ⟨o, ep, upd_same, hr⟩ (h5.mono (Same.upd_new h3)) n u
    obtain ⟨x1, x2⟩ := rel.freeze ⟨by rw [e]; rfl, h1⟩ h2 h3 h4 rd
    exact ⟨_, _, _, _, h1, .flat x1 x2 rd, wp⟩
theorem rd_b {ρ : PEnv} {σ : L2.St} {F H : Hp} {i : Nat} {QQ : RK} (rel : Rel k ρ σ F H) (wp : rdB ρ i QQ) : ∃ v r, σ[i]? = some (some v) ∧ EPost k ρ σ F H r v ρ F H ∧ QQ r ρ := by
  unfold rdB at wp
  cases e : ρ.get i with
  | no => rw [e] at wp; exact wp.elim
  | val d =>
    rw [e] at wp
    obtain ⟨v, h1, h2⟩ := slot_val rel e
    exact ⟨v, _, h1, .flat rel .refl h2, wp⟩
  | own xs =>
    rw [e] at wp
    obtain ⟨a, h1, h2⟩ := slot_own rel e
    exact ⟨_, .brw (.lst xs), h1, ⟨rel, .refl, show BR k F H _ _ from .inr (.inl ⟨a, xs, rfl, rfl, h2⟩)⟩, wp⟩
  | owd kvs =>
    rw [e] at wp
    obtain ⟨a, h1, h2⟩ := slot_owd rel e
    exact ⟨_, .brw (.dct kvs), h1, ⟨rel, .refl, show BR k F H _ _ from .inr (.inr ⟨a, kvs, rfl, rfl, h2⟩)⟩, wp⟩
theorem qe_var {e : Expr} {i : Nat} (h : PE X e (tVar i)) : PE X e (tE C k (.var i)) := by
  refine weak h fun σ H Q ⟨ρ, F, QQ, rel, wp, fin⟩ => ?_
  obtain ⟨v, r, ρ', F', h1, p, q⟩ := rd_v rel wp
  exact ⟨v, h1, fin _ _ _ _ _ p q⟩
theorem qe_bor {e : Expr} {i : Nat} (h : PE X e (tVar i)) : PE X e (tE C k (.bor i)) := by
  refine weak h fun σ H Q ⟨ρ, F, QQ, rel, wp, fin⟩ => ?_
  obtain ⟨v, r, h1, p, q⟩ := rd_b rel wp
  exact ⟨v, h1, fin _ _ _ _ _ p q⟩

/-! ### operators -/
/-- an operation on two lent values -/
def r2P (k : RC) (P : D → D → (RV → Prop) → Prop) : R2 := fun x y H Q => ∃ ρ σ F d e QQ, Rel k ρ σ F H ∧ BR k F H x d ∧ BR k F H y e ∧ P d e QQ ∧ ∀ r v F' H', EPost k ρ σ F H r v ρ F' H' → QQ r → Q v H'
theorem two {a b : IE} {P : D → D → (RV → Prop) → Prop} {σ : L2.St} {H : Hp} {Q : VK} {QQ : RK} {ρ : PEnv} {F : Hp} (rel : Rel k ρ σ F H) (wp : wpE C a ρ fun x ρ1 => wpE C b ρ1 fun y ρ2 => P x.toD y.toD fun r => QQ r ρ2)
    (fin : ∀ r ρ' v F' H', EPost k ρ σ F H r v ρ' F' H' → QQ r ρ' → Q v H') : tOp (r2P k P) (tE C k a) (tE C k b) σ H Q := by
  refine ⟨ρ, F, _, rel, wp, fun r1 ρ1 v1 F1 H1 p1 q1 => ⟨ρ1, F1, _, p1.rel, q1, fun r2 ρ2 v2 F2 H2 p2 q2 => ?_⟩⟩
  exact ⟨ρ2, σ, F2, _, _, _, p2.rel, p1.lent.tr p2.tr p2.rel, p2.lent, q2, fun r v F' H' p3 q3 => fin r ρ2 v F' H' (p1.then (p2.then p3)) q3⟩
def opOf : Op2 → Operator
  | .add => .Add
  | .sub => .Sub
  | .mul => .Mult
  | .fdiv => .FloorDiv
  | .mod => .Mod
  | .pow => .Pow
/-- a new tuple's wish -/
theorem newT {ρ : PEnv} {σ : L2.St} {F H : Hp} {vs : List V} {ds : List D} {Q : VK} (rel : Rel k ρ σ F H) (r : Rs k F vs ds) (fin : ∀ v F' H', EPost k ρ σ F H (.val (.tup ds)) v ρ F' H' → Q v H') : NewT vs H Q := fun p o hn hd =>
  fin _ _ _ (.newF rel .refl hn (.tup (.inl ⟨o, upd_same, hd⟩) (r.mono (Same.upd_new (rel.fnone hn)))))
theorem rs_nil {F : Hp} {vs : List V} (r : Rs k F vs []) : vs = [] := by cases r; rfl
theorem rs_nil' {F : Hp} {ds : List D} (r : Rs k F [] ds) : ds = [] := by cases r; rfl
theorem op_bin (hX : XOk X k) (o : Op2) : OpR X (binaryOp (opOf o)) (r2P k (binP o)) := by
  intro pins s σ H x y v u Q I rx ry ⟨ρ, σ', F, d, e, QQ, rel, bx, by', wp, fin⟩
  have hK := hX.K
  have int : ∀ {n : Int}, QQ (.val (.int n)) → Q (.int n) H := fun q => fin _ _ _ _ (.flat rel .refl (.int _)) q
  cases o <;> cases d <;> cases e <;> first | exact (show False from wp).elim | skip
  · -- int + int
    cases bx.int; cases by'.int
    exact op_add pins s σ H _ _ v u Q I rx ry ⟨_, _, rfl, rfl, int wp⟩
  · cases bx.str; cases by'.str
    obtain ⟨hz, q⟩ := wp
    exact op_add_str pins s σ H _ _ v u Q I rx ry ⟨_, _, rfl, rfl, hz, fin _ _ _ _ (.flat rel .refl (.str _)) q⟩
  · rename_i xs ys
    obtain ⟨a, vs, rfl, ta, ra⟩ := bx.tup
    obtain ⟨b, ws, rfl, tb, rb⟩ := by'.tup
    obtain ⟨hz, q⟩ := wp
    have sq1 := (ta.mono rel.sub).sq
    have sq2 := (tb.mono rel.sub).sq
    rw [hK] at sq1 sq2
    refine op_catF pins s σ H _ _ v u Q I rx ry ⟨a, b, vs, ws, rfl, rfl, sq1, sq2, by rw [ra.length, rb.length]; exact hz, fun z => ?_, fun _ z => ?_, fun _ _ => newT rel (ra.append rb) fun v F' H' p => fin _ _ _ _ p q⟩
    · subst z
      have := rs_nil' ra
      subst this
      exact fin _ _ _ _ (.flat rel .refl (.tup tb rb)) q
    · subst z
      have := rs_nil' rb
      subst this
      rw [List.append_nil] at q
      exact fin _ _ _ _ (.flat rel .refl (.tup ta ra)) q
  · rename_i xs ys
    obtain ⟨a, vs, rfl, ta, ra⟩ := bx.lst rel.sub
    obtain ⟨b, ws, rfl, tb, rb⟩ := by'.lst rel.sub
    obtain ⟨hz, q⟩ := wp
    exact op_cat pins s σ H _ _ v u Q I rx ry ⟨a, b, vs, ws, rfl, rfl, ta, tb, by rw [ra.length, rb.length]; exact hz, fun p hn => fin _ _ _ _ (.newL rel .refl hn (ra.append rb)) q⟩
  · cases bx.int; cases by'.int
    exact op_sub pins s σ H _ _ v u Q I rx ry ⟨_, _, rfl, rfl, int wp⟩
  · cases bx.int; cases by'.int
    exact op_mul pins s σ H _ _ v u Q I rx ry ⟨_, _, rfl, rfl, wp.1, int wp.2⟩
  · rename_i xs n
    obtain ⟨a, vs, rfl, ta, ra⟩ := bx.tup
    cases by'.int
    obtain ⟨⟨h1, h2, h3, h4⟩, q⟩ := wp
    have sq1 := (ta.mono rel.sub).sq
    rw [hK] at sq1
    refine op_repF pins s σ H _ _ v u Q I rx ry ⟨a, n, vs, rfl, rfl, sq1, fun z => h1 (by subst z; exact rs_nil' ra), h2, h3, by rw [ra.length]; exact h4, newT rel (ra.flat _) fun v F' H' p => fin _ _ _ _ p q⟩
  · rename_i xs n
    obtain ⟨a, vs, rfl, ta, ra⟩ := bx.lst rel.sub
    cases by'.int
    obtain ⟨⟨h1, h2, h3⟩, q⟩ := wp
    exact op_rep pins s σ H _ _ v u Q I rx ry ⟨a, n, vs, rfl, rfl, ta, h1, h2, by rw [ra.length]; exact h3, fun p hn => fin _ _ _ _ (.newL rel .refl hn (ra.flat _)) q⟩
  · cases bx.int; cases by'.int
    exact op_fdivN pins s σ H _ _ v u Q I rx ry ⟨_, _, rfl, rfl, wp.1, int wp.2⟩
  · cases bx.int; cases by'.int
    exact op_modN pins s σ H _ _ v u Q I rx ry ⟨_, _, rfl, rfl, wp.1, int wp.2⟩
  · cases bx.int; cases by'.int
    exact op_pow pins s σ H _ _ v u Q I rx ry ⟨_, _, rfl, rfl, wp.1, int wp.2⟩
theorem qe_bin (hX : XOk X k) {o : Op2} {a b : Expr} {ia ib : IE} {pos : Pos} (ha : PE X a (tE C k ia)) (hb : PE X b (tE C k ib)) : PE X (.BinOp a (opOf o) b pos) (tE C k (.bin o ia ib)) :=
  weak (pe_op (op_bin hX o) ha hb) fun σ H Q ⟨ρ, F, QQ, rel, wp, fin⟩ => two (P := binP o) rel wp fin
end
end PL
/-! PL5: dicts: their entries as plain data; looked up, stored. -/
namespace PL
open PySem PySem.Spec PyProof.Rows L2

/-! ### keys -/
mutual
theorem deq_nk : ∀ (a b : D) (n m : NestedKey), nk a = some n → nk b = some m → PyData.eqv a.py b.py = NestedKey.beq n m
  | .int i, .int j, n, m, h1, h2 => by
    simp only [nk, Option.some.injEq] at h1 h2
    subst h1; subst h2
    simp only [D.py, PyData.eqv, NestedKey.beq]
    exact Bool.beq_eq_decide_eq ..
  | .str i, .str j, n, m, h1, h2 => by
    simp only [nk, Option.some.injEq] at h1 h2
    subst h1; subst h2
    simp only [D.py, PyData.eqv, NestedKey.beq]
    exact Bool.beq_eq_decide_eq ..
  | .tup xs, .tup ys, n, m, h1, h2 => by
    simp only [nk, Option.map_eq_some_iff] at h1 h2
    obtain ⟨ns, e1, rfl⟩ := h1
    obtain ⟨ms, e2, rfl⟩ := h2
    simp only [D.py, PyData.eqv, NestedKey.beq]
    exact deqs_nk xs ys ns ms e1 e2
  | .int i, .str j, n, m, h1, h2 => by
    simp only [nk, Option.some.injEq] at h1 h2
    subst h1; subst h2; rfl
  | .str i, .int j, n, m, h1, h2 => by
    simp only [nk, Option.some.injEq] at h1 h2
    subst h1; subst h2; rfl
  | .int i, .tup ys, n, m, h1, h2 => by
    simp only [nk, Option.some.injEq, Option.map_eq_some_iff] at h1 h2
    obtain ⟨ms, e2, rfl⟩ := h2
    subst h1; rfl
  | .str i, .tup ys, n, m, h1, h2 => by
    simp only [nk, Option.some.injEq, Option.map_eq_some_iff] at h1 h2
    obtain ⟨ms, e2, rfl⟩ := h2
    subst h1; rfl
  | .tup xs, .int i, n, m, h1, h2 => by
    simp only [nk, Option.some.injEq, Option.map_eq_some_iff] at h1 h2
    obtain ⟨ms, e2, rfl⟩ := h1
    subst h2; rfl
  | .tup xs, .str i, n, m, h1, h2 => by
    simp only [nk, Option.some.injEq, Option.map_eq_some_iff] at h1 h2
    obtain ⟨ms, e2, rfl⟩ := h1
    subst h2; rfl
  | .non, _, _, _, h, _ => by simp [nk] at h
  | .bl _, _, _, _, h, _ => by simp [nk] at h
  | .lst _, _, _, _, h, _ => by simp [nk] at h
  | .dct _, _, _, _, h, _ => by simp [nk] at h
  | .rng _ _, _, _, _, h, _ => by simp [nk] at h
  | .pool, _, _, _, h, _ => by simp [nk] at h
  | .int _, .non, _, _, _, h => by simp [nk] at h
  | .int _, .bl _, _, _, _, h => by simp [nk] at h
  | .int _, .lst _, _, _, _, h => by simp [nk] at h
  | .int _, .dct _, _, _, _, h => by simp [nk] at h
  | .int _, .rng _ _, _, _, _, h => by simp [nk] at h
  | .int _, .pool, _, _, _, h => by simp [nk] at h
  | .str _, .non, _, _, _, h => by simp [nk] at h
  | .str _, .bl _, _, _, _, h => by simp [nk] at h
  | .str _, .lst _, _, _, _, h => by simp [nk] at h
  | .str _, .dct _, _, _, _, h => by simp [nk] at h
  | .str _, .rng _ _, _, _, _, h => by simp [nk] at h
  | .str _, .pool, _, _, _, h => by simp [nk] at h
  | .tup _, .non, _, _, _, h => by simp [nk] at h
  | .tup _, .bl _, _, _, _, h => by simp [nk] at h
  | .tup _, .lst _, _, _, _, h => by simp [nk] at h
  | .tup _, .dct _, _, _, _, h => by simp [nk] at h
  | .tup _, .rng _ _, _, _, _, h => by simp [nk] at h
  | .tup _, .pool, _, _, _, h => by simp [nk] at h
theorem deqs_nk : ∀ (xs ys : List D) (n m : List NestedKey), nks xs = some n → nks ys = some m → PyData.eqvAll (D.pys xs) (D.pys ys) = NestedKey.beqAll n m
  | [], [], n, m, h1, h2 => by
    simp only [nks, Option.some.injEq] at h1 h2
    subst h1; subst h2; rfl
  | [], y :: ys, n, m, h1, h2 => by
    simp only [nks, Option.some.injEq, Option.bind_eq_some_iff, Option.map_eq_some_iff] at h1 h2
    obtain ⟨a, _, b, _, rfl⟩ := h2
    subst h1; rfl
  | x :: xs, [], n, m, h1, h2 => by
    simp only [nks, Option.some.injEq, Option.bind_eq_some_iff, Option.map_eq_some_iff] at h1 h2
    obtain ⟨a, _, b, _, rfl⟩ := h1
    subst h2; rfl
  | x :: xs, y :: ys, n, m, h1, h2 => by
    simp only [nks, Option.bind_eq_some_iff, Option.map_eq_some_iff] at h1 h2
    obtain ⟨a, e1, b, e2, rfl⟩ := h1
    obtain ⟨c, e3, d, e4, rfl⟩ := h2
    simp only [D.pys, PyData.eqvAll, NestedKey.beqAll]
    rw [deq_nk x y a c e1 e3, deqs_nk xs ys b d e2 e4]
end
theorem deq_key {a b : D} {n m : NestedKey} (h1 : nk a = some n) (h2 : nk b = some m) : deq a b = decide (n = m) := by
  unfold deq
  rw [deq_nk a b n m h1 h2, NestedKey.decide_eq]
mutual
theorem nIs {P : Program} {w : World} {k : RC} {F : Hp} {h : Heap} (kin : k.K.In h) (ok : HOk P w F h) : ∀ {v : V} {d : D} {n : NestedKey} {u : Value}, R k F v d → nk d = some n → RelV v u → NestedIs h n u
  | _, _, _, _, .non, e, _ => by simp [nk] at e
  | _, _, _, _, .bl _, e, _ => by simp [nk] at e
  | _, _, _, _, .int i, e, r => by
    simp only [nk, Option.some.injEq] at e
    subst e
    obtain ⟨t, rfl⟩ := r
    exact .int i t
  | _, _, _, _, .str i, e, r => by
    simp only [nk, Option.some.injEq] at e
    subst e
    obtain ⟨t, rfl⟩ := r
    exact .text i t
  | _, _, _, _, .tup t rs, e, r => by
    simp only [nk, Option.map_eq_some_iff] at e
    obtain ⟨ns, e, rfl⟩ := e
    cases r
    rcases t with ⟨o, ho, hd⟩ | ⟨o, its, m, h1, h2, h3, h4, h5, h6⟩
    · obtain ⟨q, hz, its, rv, ob, e1, e2, m, e3⟩ := ok _ _ ho
      rw [q] at e1
      cases e1
      exact .tup q e2 e3 (nIss kin ok rs e rv)
    · exact .tup (kin _ _ h1) h2 h4 (nIss kin ok rs e h6)
  | _, _, _, _, .lst _ _, e, _ => by simp [nk] at e
  | _, _, _, _, .dct _ _ _ _, e, _ => by simp [nk] at e
  | _, _, _, _, .rng _ _ _, e, _ => by simp [nk] at e
  | _, _, _, _, .pool _, e, _ => by simp [nk] at e
theorem nIss {P : Program} {w : World} {k : RC} {F : Hp} {h : Heap} (kin : k.K.In h) (ok : HOk P w F h) : ∀ {vs : List V} {ds : List D} {ns : List NestedKey} {us : List Value}, Rs k F vs ds → nks ds = some ns → Vals vs us → NestedAll h ns us
  | _, _, _, _, .nil, e, r => by
    simp only [nks, Option.some.injEq] at e
    subst e
    cases r
    exact .nil
  | _, _, _, _, .cons h1 hr, e, r => by
    simp only [nks, Option.bind_eq_some_iff, Option.map_eq_some_iff] at e
    obtain ⟨n, e1, ns, e2, rfl⟩ := e
    cases r with
    | cons r1 r2 => exact .cons (nIs kin ok h1 e1 r1) (nIss kin ok hr e2 r2)
end

/-! ### the two kinds of dicts -/
def skey : D → Option Key
  | .int i => some (.inl i)
  | .str x => some (.inr x)
  | _ => none
inductive SX (k : RC) (F : Hp) : List (Key × Value) → List (D × D) → Prop where
  | nil : SX k F [] []
  | cons {c : Key} {u : Value} {ps : List (Key × Value)} {kd vd : D} {kvs : List (D × D)} {vv : V} : skey kd = some c → RelV vv u → R k F vv vd → SX k F ps kvs → SX k F ((c, u) :: ps) ((kd, vd) :: kvs)
inductive HX (k : RC) (F : Hp) : List (NestedKey × Addr × Value) → List (D × D) → Prop where
  | nil : HX k F [] []
  | cons {n : NestedKey} {q : Addr} {u : Value} {ps : List (NestedKey × Addr × Value)} {kd vd : D} {kvs : List (D × D)} {vv : V} : nk kd = some n → n.depth ≤ 8 → R k F (.ref q) kd → RelV vv u → R k F vv vd → HX k F ps kvs → HX k F ((n, q, u) :: ps) ((kd, vd) :: kvs)
def kN : Key → NestedKey
  | .inl i => .num i
  | .inr x => .text x
theorem skey_nk {d : D} {c : Key} (h : skey d = some c) : nk d = some (kN c) ∧ scal d = true := by
  cases d <;> simp only [skey, Option.some.injEq, reduceCtorEq] at h
  · subst h; exact ⟨rfl, rfl⟩
  · subst h; exact ⟨rfl, rfl⟩
theorem deq_skey {a b : D} {c e : Key} (h1 : skey a = some c) (h2 : skey b = some e) : deq a b = decide (c = e) := by
  rw [deq_key (skey_nk h1).1 (skey_nk h2).1]
  cases c <;> cases e <;> simp [kN]
theorem skey_of {d : D} (h : scal d = true) : ∃ c, skey d = some c := by
  cases d <;> first | exact ⟨_, rfl⟩ | (simp [scal] at h)
section
variable {k : RC} {F : Hp} {P : Program} {w : World}
theorem SX.len : ∀ {ps : List (Key × Value)} {kvs : List (D × D)}, SX k F ps kvs → ps.length = kvs.length
  | _, _, .nil => rfl
  | _, _, .cons _ _ _ r => by rw [List.length_cons, List.length_cons, r.len]
theorem HX.len : ∀ {ps : List (NestedKey × Addr × Value)} {kvs : List (D × D)}, HX k F ps kvs → ps.length = kvs.length
  | _, _, .nil => rfl
  | _, _, .cons _ _ _ _ _ r => by rw [List.length_cons, List.length_cons, r.len]
theorem SX.find {kd : D} {c : Key} (hc : skey kd = some c) : ∀ {ps : List (Key × Value)} {kvs : List (D × D)}, SX k F ps kvs →
    (match lookD kvs kd with | some vd => ∃ u vv, valueAt ps c = some u ∧ RelV vv u ∧ R k F vv vd | none => valueAt ps c = none) ∧ (kvs.any fun p => deq p.1 kd) = (valueAt ps c).isSome
  | _, _, .nil => ⟨rfl, rfl⟩
  | (e, u) :: ps, (kd', vd) :: kvs, .cons h1 h2 h3 r => by
    have ih := SX.find hc r
    have d := deq_skey h1 hc
    unfold lookD valueAt at ih ⊢
    by_cases q : e = c
    · subst q
      have d' : deq kd' kd = true := by rw [d]; simp
      simp only [List.find?_cons, d', decide_true, Option.map_some, List.any_cons, Bool.true_or, Option.isSome_some, and_true]
      exact ⟨u, _, rfl, h2, h3⟩
    · have d' : deq kd' kd = false := by rw [d]; simp [q]
      simp only [List.find?_cons, d', q, decide_false, List.any_cons, Bool.false_or]
      exact ih
theorem HX.find {kd : D} {n : NestedKey} (hc : nk kd = some n) : ∀ {ps : List (NestedKey × Addr × Value)} {kvs : List (D × D)}, HX k F ps kvs →
    (match lookD kvs kd with | some vd => ∃ p vv, atKey ps n = some p ∧ RelV vv p.2 ∧ R k F vv vd | none => atKey ps n = none) ∧ (kvs.any fun p => deq p.1 kd) = (atKey ps n).isSome
  | _, _, .nil => ⟨rfl, rfl⟩
  | (e, q, u) :: ps, (kd', vd) :: kvs, .cons h1 _ _ h2 h3 r => by
    have ih := HX.find hc r
    have d := deq_key h1 hc
    unfold lookD atKey at ih ⊢
    by_cases z : e = n
    · subst z
      have d' : deq kd' kd = true := by rw [d]; simp
      simp only [List.find?_cons, d', decide_true, Option.map_some, List.any_cons, Bool.true_or, Option.isSome_some, and_true]
      exact ⟨(q, u), _, rfl, h2, h3⟩
    · have d' : deq kd' kd = false := by rw [d]; simp [z]
      simp only [List.find?_cons, d', z, decide_false, List.any_cons, Bool.false_or]
      exact ih
theorem SX.append {ps qs : List (Key × Value)} {kvs lvs : List (D × D)} : SX k F ps kvs → SX k F qs lvs → SX k F (ps ++ qs) (kvs ++ lvs) := fun h h' => by
  induction h with
  | nil => exact h'
  | cons a b c _ ih => exact .cons a b c ih
theorem HX.append {ps qs : List (NestedKey × Addr × Value)} {kvs lvs : List (D × D)} : HX k F ps kvs → HX k F qs lvs → HX k F (ps ++ qs) (kvs ++ lvs) := fun h h' => by
  induction h with
  | nil => exact h'
  | cons a b c d e _ ih => exact .cons a b c d e ih
theorem SX.mapPut {kd vd : D} {c : Key} {u : Value} {vv : V} (hc : skey kd = some c) (hu : RelV vv u) (hv : R k F vv vd) {ps : List (Key × Value)} {kvs : List (D × D)} (h : SX k F ps kvs) :
    SX k F (ps.map fun kv => if kv.1 = c then (kv.1, u) else kv) (kvs.map fun p => if deq p.1 kd then (p.1, vd) else p) := by
  induction h with
  | nil => exact .nil
  | @cons c' u' ps' kd' vd' kvs' vv' a b e _ ih =>
    rw [List.map_cons, List.map_cons]
    have d := deq_skey a hc
    by_cases q : c' = c
    · have d' : deq kd' kd = true := by rw [d]; simp [q]
      simp only [q, d', if_true]
      exact .cons (by rw [a, q]) hu hv ih
    · have d' : deq kd' kd = false := by rw [d]; simp [q]
      simp only [q, d', if_false, Bool.false_eq_true]
      exact .cons a b e ih
theorem SX.put {kd vd : D} {c : Key} {u : Value} {vv : V} (hc : skey kd = some c) (hu : RelV vv u) (hv : R k F vv vd) {ps : List (Key × Value)} {kvs : List (D × D)} (h : SX k F ps kvs) : SX k F (stored ps c u) (putD kvs kd vd) := by
  have e : (ps.any fun kv => decide (kv.1 = c)) = kvs.any fun p => deq p.1 kd := by
    induction h with
    | nil => rfl
    | cons a b e _ ih => rw [List.any_cons, List.any_cons, ih, deq_skey a hc]
  unfold stored putD
  rw [e]
  split
  · exact h.mapPut hc hu hv
  · exact h.append (.cons hc hu hv .nil)
theorem HX.mapPut {kd vd : D} {n : NestedKey} {u : Value} {vv : V} (hc : nk kd = some n) (hu : RelV vv u) (hv : R k F vv vd) {ps : List (NestedKey × Addr × Value)} {kvs : List (D × D)} (h : HX k F ps kvs) :
    HX k F (ps.map (putAt n u)) (kvs.map fun p => if deq p.1 kd then (p.1, vd) else p) := by
  induction h with
  | nil => exact .nil
  | @cons c' q' u' ps' kd' vd' kvs' vv' a a1 a2 b e _ ih =>
    rw [List.map_cons, List.map_cons]
    have d := deq_key a hc
    have pe : putAt n u (c', q', u') = if c' = n then (c', q', u) else (c', q', u') := rfl
    rw [pe]
    by_cases z : c' = n
    · have d' : deq kd' kd = true := by rw [d]; simp [z]
      simp only [z, d', if_true]
      exact .cons (by rw [a, z]) (z ▸ a1) a2 hu hv ih
    · have d' : deq kd' kd = false := by rw [d]; simp [z]
      simp only [z, d', if_false, Bool.false_eq_true]
      exact .cons a a1 a2 b e ih
theorem HX.put {kd vd : D} {n : NestedKey} {q : Addr} {u : Value} {vv : V} (hc : nk kd = some n) (hd : n.depth ≤ 8) (hq : R k F (.ref q) kd) (hu : RelV vv u) (hv : R k F vv vd) {ps : List (NestedKey × Addr × Value)} {kvs : List (D × D)} (h : HX k F ps kvs) :
    HX k F (storedH ps n q u) (putD kvs kd vd) := by
  have e : (atKey ps n).isSome = kvs.any fun p => deq p.1 kd := (HX.find hc h).2.symm
  unfold storedH putD
  rw [e]
  split
  · exact h.mapPut hc hu hv
  · exact h.append (.cons hc hd hq hu hv .nil)
/-- the entries, seen as pairs -/
theorem rk_sx : ∀ {es : List DictEntry} {kvs : List (D × D)}, RKs k F es kvs → (∀ p ∈ kvs, scal p.1 = true) → ∃ ps, SX k F ps kvs ∧ Pairs (mixKind P k.w) es ps ∧ KeysOf (mixKind P k.w) es.toArray
  | _, _, .nil, _ => ⟨[], .nil, .nil, fun e he => by simp at he⟩
  | e :: es, (kd, vd) :: kvs, .cons r1 rk rv rr en ed eh rest, u => by
    obtain ⟨ps, h1, h2, h3⟩ := rk_sx rest fun p hp => u p (List.mem_cons_of_mem _ hp)
    obtain ⟨c, hc⟩ := skey_of (u (kd, vd) List.mem_cons_self)
    have key : keyIs c e.key = true ∧ e.hash = keyH k.w c := by
      have := (skey_nk hc).1
      rw [en] at this
      cases kd <;> simp only [skey, Option.some.injEq, reduceCtorEq] at hc
      · subst hc
        cases rk
        obtain ⟨t, q⟩ := r1
        simp only [Option.some.injEq] at this
        subst this
        exact ⟨by rw [q]; exact keyIs_int _ _, eh⟩
      · subst hc
        cases rk
        obtain ⟨t, q⟩ := r1
        simp only [Option.some.injEq] at this
        subst this
        exact ⟨by rw [q]; exact keyIs_str _ _, eh⟩
    refine ⟨(c, e.val) :: ps, .cons hc rv rr h1, .cons key.1 rfl h2, fun x hx => ?_⟩
    have hx : x = e ∨ x ∈ es := by simpa using hx
    rcases hx with rfl | hx
    · exact ⟨c, key.1, key.2⟩
    · exact h3 x (by simpa using hx)
theorem rk_hx : ∀ {es : List DictEntry} {kvs : List (D × D)}, RKs k F es kvs → (∀ p ∈ kvs, scal p.1 = false) → ∃ ps, HX k F ps kvs ∧ es = ps.map (entryOfKey (nestedKind P k.w))
  | _, _, .nil, _ => ⟨[], .nil, rfl⟩
  | e :: es, (kd, vd) :: kvs, .cons r1 rk rv rr en ed eh rest, u => by
    obtain ⟨ps, h1, h2⟩ := rk_hx rest fun p hp => u p (List.mem_cons_of_mem _ hp)
    have ref : ∃ q, e.key = .ref q ∧ R k F (.ref q) kd := by
      have us := u (kd, vd) List.mem_cons_self
      cases rk with
      | tup a b => exact ⟨_, r1, .tup a b⟩
      | int i => simp [scal] at us
      | str x => simp [scal] at us
      | _ => simp [nk] at en
    obtain ⟨q, eq, rq⟩ := ref
    rename_i n
    refine ⟨(n, q, e.val) :: ps, .cons en ed rq rv rr h1, ?_⟩
    rw [List.map_cons, ← h2]
    congr 1
    obtain ⟨eh', ek', ev'⟩ := e
    simp only at eq eh
    subst eq
    unfold entryOfKey
    rw [eh]
    rfl
theorem sx_rk {es : List DictEntry} : ∀ {ps : List (Key × Value)} {kvs : List (D × D)}, SX k F ps kvs → ∀ {es : List DictEntry}, Pairs (mixKind P k.w) es ps → KeysOf (mixKind P k.w) es.toArray → RKs k F es kvs ∧ ∀ p ∈ kvs, scal p.1 = true
  | _, _, .nil, _, .nil, _ => ⟨.nil, fun p hp => by simp at hp⟩
  | (c, u) :: ps, (kd, vd) :: kvs, .cons hc hu hv r, e :: es, .cons p1 p2 p3, ko => by
    obtain ⟨h1, h2⟩ := sx_rk (es := es) r p3 fun x hx => ko x (by simp at hx ⊢; exact .inr hx)
    obtain ⟨c', k1, k2⟩ := ko e (by simp)
    have := (mixKind P k.w).inj _ _ _ k1 p1
    subst this
    refine ⟨?_, fun p hp => (List.mem_cons.mp hp).elim (fun z => by rw [z]; exact (skey_nk hc).2) (h2 p)⟩
    cases kd <;> simp only [skey, Option.some.injEq, reduceCtorEq] at hc
    · subst hc
      rcases keyIs_shape ((mixKind_is P k.w _ _).symm.trans k1) with ⟨i, t, q1, q2⟩ | ⟨x, t, q1, q2⟩
      · cases q1
        exact .cons (kv := .int _) ⟨t, q2⟩ (.int _) (by rw [p2]; exact hu) hv rfl (Nat.zero_le _) k2 h1
      · cases q1
    · subst hc
      rcases keyIs_shape ((mixKind_is P k.w _ _).symm.trans k1) with ⟨i, t, q1, q2⟩ | ⟨x, t, q1, q2⟩
      · cases q1
      · cases q1
        exact .cons (kv := .str _) ⟨t, q2⟩ (.str _) (by rw [p2]; exact hu) hv rfl (Nat.zero_le _) k2 h1
theorem hx_rk : ∀ {ps : List (NestedKey × Addr × Value)} {kvs : List (D × D)}, HX k F ps kvs → RKs k F (ps.map (entryOfKey (nestedKind P k.w))) kvs
  | _, _, .nil => .nil
  | (n, q, u) :: ps, (kd, vd) :: kvs, .cons h1 h2 h3 h4 h5 r => .cons (kv := .ref q) rfl h3 h4 h5 h1 h2 rfl (hx_rk r)
theorem hx_scal : ∀ {ps : List (NestedKey × Addr × Value)} {kvs : List (D × D)}, HX k F ps kvs → ∀ p ∈ kvs, scal p.1 = false
  | _, _, .nil, p, hp => by simp at hp
  | (n, q, u) :: ps, (kd, vd) :: kvs, .cons h1 h2 h3 h4 h5 r, p, hp => by
    rcases List.mem_cons.mp hp with z | z
    · rw [z]
      cases h3 <;> rfl
    · exact hx_scal r p z
theorem sx_nodup : ∀ {ps : List (Key × Value)} {kvs : List (D × D)}, SX k F ps kvs → ((ps.map (·.1)).Nodup ↔ (kvs.map fun p => nk p.1).Nodup)
  | _, _, h => by
    have e : ∀ {ps : List (Key × Value)} {kvs : List (D × D)}, SX k F ps kvs → (kvs.map fun p => nk p.1) = ps.map fun p => some (kN p.1) := fun h => by
      induction h with
      | nil => rfl
      | cons a _ _ _ ih => simp only [List.map_cons, ih, (skey_nk a).1] <;> rfl
    rw [e h]
    rename_i ps kvs
    clear e h
    induction ps with
    | nil => simp
    | cons p ps ih =>
      rw [List.map_cons, List.map_cons, List.nodup_cons, List.nodup_cons]
      refine and_congr (not_congr ?_) ih
      simp only [List.mem_map, Option.some.injEq]
      constructor
      · rintro ⟨x, h1, h2⟩; exact ⟨x, h1, by rw [h2]⟩
      · rintro ⟨x, h1, h2⟩
        refine ⟨x, h1, ?_⟩
        revert h2
        cases x.1 <;> cases p.1 <;> simp [kN]
theorem hx_nodup {ps : List (NestedKey × Addr × Value)} {kvs : List (D × D)} (h : HX k F ps kvs) : (ps.map (·.1)).Nodup ↔ (kvs.map fun p => nk p.1).Nodup := by
  have e : (kvs.map fun p => nk p.1) = (ps.map (·.1)).map some := by
    induction h with
    | nil => rfl
    | cons a _ _ _ _ _ ih => rw [List.map_cons, List.map_cons, List.map_cons, ih, a]
  rw [e]
  generalize ps.map (·.1) = l
  induction l with
  | nil => simp
  | cons p ps ih =>
    rw [List.map_cons, List.nodup_cons, List.nodup_cons]
    refine and_congr (not_congr ?_) ih
    simp
end
end PL
/-! PL6: dicts in the running state; comparisons, subscripts. -/
namespace PL
open PySem PySem.Spec PyProof.Rows L2

section
variable {X : Cx} {k : RC} {pins : List (Addr × Obj)} {σ : L2.St} {F H : Hp} {s : Shared} {a : Addr} {es : List DictEntry} {kvs : List (D × D)} {y : V} {u : Value} {kd : D}
theorem dct_at (I : Inv X pins σ H s) (h : DctAt H a es) : ∃ o ep, s.heap.get? a = some o ∧ o.ExactDict ∧ o.data = .dict es.toArray ep ∧ (a == sysModules) = false ∧ es.length ≤ sizeLine := by
  obtain ⟨o, ep, h1, h2, h3, h4, h5⟩ := h
  have q : ObjOk X.prog X.w H s.heap a (exO a o) := I.hok a _ h1
  exact ⟨o, ep, q.1, h2, h3, h4, h5⟩
theorem keyOk_iff (h : keyOk kvs kd = true) : ∃ n, nk kd = some n ∧ n.depth ≤ 8 ∧ ∀ p ∈ kvs, scal p.1 = scal kd := by
  unfold keyOk at h
  rw [Bool.and_eq_true] at h
  obtain ⟨h1, h2⟩ := h
  cases e : nk kd with
  | none => rw [e] at h1; cases h1
  | some n =>
    rw [e] at h1
    exact ⟨n, rfl, of_decide_eq_true h1, fun p hp => eq_of_beq (List.all_eq_true.mp h2 p hp)⟩
theorem dv_s (hX : XOk X k) (I : Inv X pins σ H s) (da : DctAt H a es) (rk : RKs k F es kvs) (nd : (kvs.map fun p => nk p.1).Nodup) (un : ∀ p ∈ kvs, scal p.1 = true) :
    ∃ ps, s.heap.DictOf (mixKind X.prog X.w) a ps ∧ SX k F ps kvs := by
  obtain ⟨o, ep, h1, h2, h3, _⟩ := dct_at I da
  have hw := hX.w
  obtain ⟨ps, q1, q2, q3⟩ := rk_sx (P := X.prog) rk un
  rw [hw] at q2 q3
  exact ⟨ps, ⟨o, es.toArray, ep, h1, h2, h3, q3, q2, (sx_nodup q1).mpr nd⟩, q1⟩
theorem dv_h (hX : XOk X k) (I : Inv X pins σ H s) (sub : Same F H) (da : DctAt H a es) (rk : RKs k F es kvs) (nd : (kvs.map fun p => nk p.1).Nodup) (un : ∀ p ∈ kvs, scal p.1 = false) :
    ∃ ps, s.heap.DictOfH (nestedKind X.prog X.w) a ps ∧ HX k F ps kvs := by
  obtain ⟨o, ep, h1, h2, h3, _⟩ := dct_at I da
  have hw := hX.w
  obtain ⟨ps, q1, q2⟩ := rk_hx (P := X.prog) rk un
  rw [hw] at q2
  refine ⟨ps, ⟨o, es.toArray, ep, h1, h2, h3, q2, fun x hx => ?_, (hx_nodup q1).mpr nd⟩, q1⟩
  have kin : k.K.In s.heap := by rw [hX.K]; exact I.kIn
  clear q2 rk
  induction q1 with
  | nil => cases hx
  | cons e1 e2 e3 _ _ _ ih =>
    rcases List.mem_cons.mp hx with z | z
    · rw [z]; exact ⟨nIs kin I.hok (e3.mono sub) e1 rfl, e2⟩
    · exact ih (by simp only [List.map_cons, List.nodup_cons] at nd; exact nd.2) (fun p hp => un p (List.mem_cons_of_mem _ hp)) z
theorem dk_room (hX : XOk X k) : (nestedKind X.prog X.w).room X.A.in1 := by
  have := hX.room.un
  show X.A.units + 1 + 8 < cLine
  omega
/-- a key as the dict's kind wants it -/
theorem key_ref (hs : scal kd = false) {n : NestedKey} (hn : nk kd = some n) (r : R k F y kd) : ∃ q, y = .ref q := by
  cases r <;> first | exact ⟨_, rfl⟩ | (exfalso; simp [scal] at hs; done) | (exfalso; simp [nk] at hn; done)
theorem key_is {c : Key} (hc : skey kd = some c) (r : R k F y kd) (ry : RelV y u) (P : Program) (w : World) : (mixKind P w).is c u = true := by
  rw [mixKind_is]
  cases kd <;> simp only [skey, Option.some.injEq, reduceCtorEq] at hc
  · subst hc; cases r; obtain ⟨t, rfl⟩ := ry; exact keyIs_int _ _
  · subst hc; cases r; obtain ⟨t, rfl⟩ := ry; exact keyIs_str _ _
theorem d_in (hX : XOk X k) (I : Inv X pins σ H s) (sub : Same F H) (da : DctAt H a es) (rk : RKs k F es kvs) (nd : (kvs.map fun p => nk p.1).Nodup) (r : R k F y kd) (ry : RelV y u) (ok : keyOk kvs kd = true)
    {Q : Value → Shared → Prop} {E : Value → Shared → Prop} (h : ∀ s', Inv X pins σ H s' → Q (.bool (kvs.any fun p => deq p.1 kd)) s') : wpAny (model X.prog X.w) X.A (compareOp .In u (.ref a)) Q E s := by
  obtain ⟨_, _, _, _, _, hs, _⟩ := dct_at I da
  obtain ⟨n, h1, h2, h3⟩ := keyOk_iff ok
  cases e : scal kd with
  | true =>
    obtain ⟨c, hc⟩ := skey_of e
    obtain ⟨ps, q1, q2⟩ := dv_s hX I da rk nd fun p hp => (h3 p hp).trans e
    refine wpAny_in_of (key_is hc r ry _ _) hs q1.mapOf ?_
    rw [← (SX.find hc q2).2]
    exact h _ (I.tok _)
  | false =>
    obtain ⟨ps, q1, q2⟩ := dv_h hX I sub da rk nd fun p hp => (h3 p hp).trans e
    obtain ⟨q, rfl⟩ := key_ref e h1 r
    cases ry
    have kin : k.K.In s.heap := by rw [hX.K]; exact I.kIn
    refine wpAny_in_heap (dk_room hX) ⟨nIs kin I.hok (r.mono sub) h1 rfl, h2⟩ hs q1 ?_
    rw [← (HX.find h1 q2).2]
    exact h _ (I.tok _)
theorem d_notin (hX : XOk X k) (I : Inv X pins σ H s) (sub : Same F H) (da : DctAt H a es) (rk : RKs k F es kvs) (nd : (kvs.map fun p => nk p.1).Nodup) (r : R k F y kd) (ry : RelV y u) (ok : keyOk kvs kd = true)
    {Q : Value → Shared → Prop} {E : Value → Shared → Prop} (h : ∀ s', Inv X pins σ H s' → Q (.bool (!kvs.any fun p => deq p.1 kd)) s') : wpAny (model X.prog X.w) X.A (compareOp .NotIn u (.ref a)) Q E s := by
  obtain ⟨_, _, _, _, _, hs, _⟩ := dct_at I da
  obtain ⟨n, h1, h2, h3⟩ := keyOk_iff ok
  cases e : scal kd with
  | true =>
    obtain ⟨c, hc⟩ := skey_of e
    obtain ⟨ps, q1, q2⟩ := dv_s hX I da rk nd fun p hp => (h3 p hp).trans e
    refine wpAny_notIn_of (key_is hc r ry _ _) hs q1.mapOf ?_
    rw [← (SX.find hc q2).2]
    exact h _ (I.tok _)
  | false =>
    obtain ⟨ps, q1, q2⟩ := dv_h hX I sub da rk nd fun p hp => (h3 p hp).trans e
    obtain ⟨q, rfl⟩ := key_ref e h1 r
    cases ry
    have kin : k.K.In s.heap := by rw [hX.K]; exact I.kIn
    refine wpAny_notIn_heap (dk_room hX) ⟨nIs kin I.hok (r.mono sub) h1 rfl, h2⟩ hs q1 ?_
    rw [← (HX.find h1 q2).2]
    exact h _ (I.tok _)
theorem d_get (hX : XOk X k) (I : Inv X pins σ H s) (sub : Same F H) (da : DctAt H a es) (rk : RKs k F es kvs) (nd : (kvs.map fun p => nk p.1).Nodup) (r : R k F y kd) (ry : RelV y u) (ok : keyOk kvs kd = true) {vd : D} (hv : lookD kvs kd = some vd)
    {Q : Value → Shared → Prop} {E : Value → Shared → Prop} (h : ∀ s' vv w, Inv X pins σ H s' → RelV vv w → R k F vv vd → Q w s') : wpAny (model X.prog X.w) X.A (getItem (.ref a) u) Q E s := by
  obtain ⟨_, _, _, _, _, hs, _⟩ := dct_at I da
  obtain ⟨n, h1, h2, h3⟩ := keyOk_iff ok
  cases e : scal kd with
  | true =>
    obtain ⟨c, hc⟩ := skey_of e
    obtain ⟨ps, q1, q2⟩ := dv_s hX I da rk nd fun p hp => (h3 p hp).trans e
    have fd := (SX.find hc q2).1
    rw [hv] at fd
    obtain ⟨w, vv, f1, f2, f3⟩ := fd
    exact wpAny_getItem_of (key_is hc r ry _ _) q1.mapOf f1 (h _ vv w (I.tok _) f2 f3)
  | false =>
    obtain ⟨ps, q1, q2⟩ := dv_h hX I sub da rk nd fun p hp => (h3 p hp).trans e
    obtain ⟨q, rfl⟩ := key_ref e h1 r
    cases ry
    have kin : k.K.In s.heap := by rw [hX.K]; exact I.kIn
    have fd := (HX.find h1 q2).1
    rw [hv] at fd
    obtain ⟨p, vv, f1, f2, f3⟩ := fd
    exact wpAny_getItem_heap (dk_room hX) ⟨nIs kin I.hok (r.mono sub) h1 rfl, h2⟩ q1 f1 (h _ vv p.2 (I.tok _) f2 f3)
theorem d_set (hX : XOk X k) (I : Inv X pins σ H s) (sub : Same F H) (da : DctAt H a es) (rk : RKs k F es kvs) (nd : (kvs.map fun p => nk p.1).Nodup) (r : R k F y kd) (ry : RelV y u) (ok : keyOk kvs kd = true) (hz : kvs.length < sizeLine)
    {vd : D} {vv : V} {w : Value} (rw' : RelV vv w) (rv : R k F vv vd)
    {Q : Unit → Shared → Prop} {E : Value → Shared → Prop} (h : ∀ s' es' o', Inv X pins σ (upd H a (exO a o')) s' → DctAt (upd H a (exO a o')) a es' → RKs k F es' (putD kvs kd vd) → ((putD kvs kd vd).map fun p => nk p.1).Nodup → (∀ p ∈ putD kvs kd vd, ∀ q ∈ putD kvs kd vd, scal p.1 = scal q.1) → Q () s') :
    wpAny (model X.prog X.w) X.A (setItem (.ref a) u w) Q E s := by
  obtain ⟨o0, ep0, hob, hex, hdt, hs, hl⟩ := dct_at I da
  obtain ⟨n, h1, h2, h3⟩ := keyOk_iff ok
  have mu : Mut (H a) := by
    obtain ⟨o, ep, e1, _⟩ := id da
    rw [e1]; trivial
  have fin : ∀ {h' : Heap} {t : Nat} {es' : List DictEntry} {o' : Obj} {ep' : Nat}, h'.get? a = some o' → o'.ExactDict → o'.data = .dict es'.toArray ep' → es'.length ≤ sizeLine → Heap.SameBut a s.heap h' → RKs k F es' (putD kvs kd vd) → ((putD kvs kd vd).map fun p => nk p.1).Nodup →
      (∀ p ∈ putD kvs kd vd, ∀ q ∈ putD kvs kd vd, scal p.1 = scal q.1) → Q () { s with heap := h', toks := t } := fun {h' t es' o' ep'} e1 e2 e3 e4 sb e5 e6 e7 => by
    have J : Inv X pins σ (upd H a (exO a o')) { s with heap := h', toks := t } := by
      refine I.write mu (.inl rfl) (fun b ob hb e => (sb.2 b hb).trans e) ⟨o', e1⟩ ?_
      refine ⟨e1, ⟨o', e1⟩, fun g1 g2 q1 q2 => q2 _ q1⟩
    exact h _ es' o' J ⟨o', ep', upd_same, e2, e3, hs, e4⟩ e5 e6 e7
  have hlen : ∀ {κ : Type} [DecidableEq κ] {n m : Nat}, n ≤ m + 1 → m < sizeLine → n ≤ sizeLine := fun a b => by omega
  cases e : scal kd with
  | true =>
    obtain ⟨c, hc⟩ := skey_of e
    have un : ∀ p ∈ kvs, scal p.1 = true := fun p hp => (h3 p hp).trans e
    obtain ⟨ps, q1, q2⟩ := dv_s hX I da rk nd un
    have hps : ps.length = kvs.length := q2.len
    refine wpAny_setItem_pairs (hsz := by rw [hps]; omega) (key_is hc r ry _ _) q1 fun h' hd sb => ?_
    obtain ⟨o', esA, ep', g1, g2, g3, g4, g5, g6⟩ := hd
    have sx := q2.put hc rw' rv
    have hw := hX.w
    rw [← hw] at g4 g5
    obtain ⟨x1, x2⟩ := sx_rk (es := []) (P := X.prog) sx g5 (by simpa using g4)
    have l1 : esA.toList.length = (stored ps c w).length := g5.length
    have l2 := stored_length_le ps c w
    exact fin (es' := esA.toList) g1 g2 (by simpa using g3) (by omega) sb x1 ((sx_nodup sx).mp g6) fun p hp q hq => (x2 p hp).trans (x2 q hq).symm
  | false =>
    have un : ∀ p ∈ kvs, scal p.1 = false := fun p hp => (h3 p hp).trans e
    obtain ⟨ps, q1, q2⟩ := dv_h hX I sub da rk nd un
    obtain ⟨q, rfl⟩ := key_ref e h1 r
    cases ry
    have kin : k.K.In s.heap := by rw [hX.K]; exact I.kIn
    have hps : ps.length = kvs.length := q2.len
    refine wpAny_setItem_heap (hsz := by rw [hps]; omega) (dk_room hX) ⟨nIs kin I.hok (r.mono sub) h1 rfl, h2⟩ q1 fun h' hd sb => ?_
    obtain ⟨o', esA, ep', g1, g2, g3, g4, g5, g6⟩ := hd
    have hx := q2.put h1 h2 r rw' rv
    have x1 := hx_rk (P := X.prog) hx
    have hw := hX.w
    rw [hw, ← g4] at x1
    have l1 : esA.toList.length = (storedH ps n q w).length := by rw [g4, List.length_map]
    have l2 : (storedH ps n q w).length ≤ ps.length + 1 := by
      unfold storedH
      split
      · rw [List.length_map]; omega
      · rw [List.length_append]; simp
    have x2 := hx_scal hx
    exact fin (es' := esA.toList) g1 g2 (by simpa using g3) (by omega) sb x1 ((hx_nodup hx).mp g6) fun p hp q hq => (x2 p hp).trans (x2 q hq).symm
end
end PL
/-! PL7: comparisons. -/
namespace PL
open PySem PySem.Spec PyProof.Rows L2

theorem pys_get : ∀ (xs : List D) (j : Nat), (D.pys xs)[j]? = (xs[j]?).map D.py
  | [], j => by simp [D.pys]
  | x :: xs, 0 => by simp [D.pys]
  | x :: xs, j + 1 => by simp [D.pys, pys_get xs j]
theorem pys_len : ∀ xs : List D, (D.pys xs).length = xs.length
  | [] => rfl
  | x :: xs => by simp [D.pys, pys_len xs]
theorem canLay_mem : ∀ {xs : List D} {j : Nat} {x : D}, PyData.canLayAll0 (D.pys xs) = true → xs[j]? = some x → x.py.canLay0 = true
  | [], _, _, _, e => by simp at e
  | y :: xs, 0, x, h, e => by
    simp only [D.pys, PyData.canLayAll0, Bool.and_eq_true] at h
    simp at e; subst e; exact h.1
  | y :: xs, j + 1, x, h, e => by
    simp only [D.pys, PyData.canLayAll0, Bool.and_eq_true] at h
    exact canLay_mem (xs := xs) (j := j) h.2 (by simpa using e)
theorem depth_mem : ∀ {xs : List D} {j : Nat} {x : D}, xs[j]? = some x → x.py.depth ≤ PyData.depthAll (D.pys xs)
  | [], _, _, e => by simp at e
  | y :: xs, 0, x, e => by
    simp at e; subst e
    simp only [D.pys, PyData.depthAll]
    exact Nat.le_max_left _ _
  | y :: xs, j + 1, x, e => by
    have := depth_mem (xs := xs) (j := j) (x := x) (by simpa using e)
    simp only [D.pys, PyData.depthAll]
    exact Nat.le_trans this (Nat.le_max_right _ _)
theorem lex_shift (e r : Nat → Bool) (z : Bool) : ∀ n i, Ob.lexAt e r z (i + 1) n = Ob.lexAt (fun j => e (j + 1)) (fun j => r (j + 1)) z i n
  | 0, i => rfl
  | n + 1, i => by rw [Ob.lexAt_succ, Ob.lexAt_succ, lex_shift e r z n (i + 1)]
theorem lt_lex : ∀ {xs ys : List D} {b : Bool}, ltDs xs ys = some b → Ob.lexAt (fun j => deq (xs.getD j .non) (ys.getD j .non)) (fun j => ltB (xs.getD j .non) (ys.getD j .non)) (decide (xs.length < ys.length)) 0 (min xs.length ys.length) = b
  | [], [], b, h => by simp [ltDs] at h; subst h; rfl
  | [], y :: ys, b, h => by simp [ltDs] at h; subst h; rfl
  | x :: xs, [], b, h => by simp [ltDs] at h; subst h; rfl
  | x :: xs, y :: ys, b, h => by
    have hm : min (x :: xs).length (y :: ys).length = min xs.length ys.length + 1 := by simp only [List.length_cons]; omega
    rw [hm, Ob.lexAt_succ, lex_shift]
    simp only [ltDs] at h
    cases e : ltDs xs ys with
    | none => rw [e] at h; cases h
    | some r =>
      rw [e] at h
      have ih := lt_lex e
      simp only at h
      by_cases q : deq x y = true
      · rw [if_pos q] at h
        cases h
        rw [if_pos (by simpa using q)]
        simpa using ih
      · rw [if_neg q] at h
        rw [if_neg (by simpa using q)]
        simp only [List.getD_cons_zero]
        unfold ltB
        rw [h]
        rfl
theorem lt_some : ∀ {xs ys : List D} {b : Bool}, ltDs xs ys = some b → ∀ (j : Nat) (x y : D), xs[j]? = some x → ys[j]? = some y → deq x y = false → ltD x y = some (ltB x y)
  | [], _, _, _, _, _, _, e, _, _ => by simp at e
  | _ :: _, [], _, _, _, _, _, _, e, _ => by simp at e
  | x :: xs, y :: ys, b, h, j, x', y', e1, e2, hd => by
    simp only [ltDs] at h
    cases e : ltDs xs ys with
    | none => rw [e] at h; cases h
    | some r =>
      rw [e] at h
      cases j with
      | zero =>
        simp at e1 e2
        subst e1; subst e2
        simp only [hd, Bool.false_eq_true, if_false] at h
        unfold ltB
        rw [h]; rfl
      | succ j => exact lt_some e j x' y' (by simpa using e1) (by simpa using e2) hd

section
variable {X : Cx} {k : RC} {pins : List (Addr × Obj)} {σ : L2.St} {H : Hp} {s : Shared}
theorem rc_lt (hK : k.K = X.K) (I : Inv X pins σ H s) : ∀ (n : Nat) (d e : D) (x y : V) (u w : Value) (A : Around) (b : Bool), d.py.depth ≤ n → R k H x d → R k H y e → RelV x u → RelV y w → d.py.canLay0 = true → e.py.canLay0 = true →
    A.units + d.py.depth + 1 < cLine → ltD d e = some b → Ob.RcOp .Lt A s u w b := by
  intro n
  induction n with
  | zero =>
    intro d e x y u w A b hn r1 r2 v1 v2 c1 c2 hu h
    cases d <;> cases e <;> simp only [ltD, Option.some.injEq, reduceCtorEq] at h
    · subst h; cases r1; cases r2
      obtain ⟨t, rfl⟩ := v1
      obtain ⟨t', rfl⟩ := v2
      exact Ob.RcOp.lt_int _ _ _ _
    · subst h; cases r1; cases r2
      obtain ⟨t, rfl⟩ := v1
      obtain ⟨t', rfl⟩ := v2
      exact fun _ _ _ _ h => PyProof.Rows.lt_str h
    · simp only [D.py, PyData.depth] at hn
      omega
  | succ n ih =>
    intro d e x y u w A b hn r1 r2 v1 v2 c1 c2 hu h
    cases d <;> cases e <;> simp only [ltD, Option.some.injEq, reduceCtorEq] at h
    · subst h; cases r1; cases r2
      obtain ⟨t, rfl⟩ := v1
      obtain ⟨t', rfl⟩ := v2
      exact Ob.RcOp.lt_int _ _ _ _
    · subst h; cases r1; cases r2
      obtain ⟨t, rfl⟩ := v1
      obtain ⟨t', rfl⟩ := v2
      exact fun _ _ _ _ h => PyProof.Rows.lt_str h
    · rename_i xs ys
      cases r1 with
      | tup t1 q1 =>
      cases r2 with
      | tup t2 q2 =>
      cases v1
      cases v2
      have s1 := t1.sq
      have s2 := t2.sq
      rw [hK] at s1 s2
      obtain ⟨its, g1, p1, _⟩ := I.tuple s1
      obtain ⟨its2, g2, p2, _⟩ := I.tuple s2
      have l1 : its.length = xs.length := by rw [← g1.length, q1.length]
      have l2 : its2.length = ys.length := by rw [← g2.length, q2.length]
      simp only [D.py, PyData.canLay0] at c1 c2
      simp only [D.py, PyData.depth] at hn hu
      have at1 : ∀ j (h1 : j < its.toArray.size), ∃ d v, xs[j]? = some d ∧ R k H v d ∧ RelV v its.toArray[j] := fun j h1 => by
        have hj : j < xs.length := by simp at h1; omega
        obtain ⟨v, a1, a2⟩ := q1.get (i := j) (d := xs[j]) (by simp [hj])
        obtain ⟨u, a3, a4⟩ := g1.get a1
        refine ⟨_, v, by simp [hj], a2, ?_⟩
        have : its[j]? = some its.toArray[j] := by simp at h1; simp [h1]
        rw [a3] at this; cases this; exact a4
      have at2 : ∀ j (h1 : j < its2.toArray.size), ∃ d v, ys[j]? = some d ∧ R k H v d ∧ RelV v its2.toArray[j] := fun j h1 => by
        have hj : j < ys.length := by simp at h1; omega
        obtain ⟨v, a1, a2⟩ := q2.get (i := j) (d := ys[j]) (by simp [hj])
        obtain ⟨u, a3, a4⟩ := g2.get a1
        refine ⟨_, v, by simp [hj], a2, ?_⟩
        have : its2[j]? = some its2.toArray[j] := by simp at h1; simp [h1]
        rw [a3] at this; cases this; exact a4
      have gd : ∀ {l : List D} {j : Nat} {d : D}, l[j]? = some d → l.getD j .non = d := fun {l j d} e => by rw [List.getD_eq_getElem?_getD, e]; rfl
      have key := Ob.RcOp.tuples_lt (A := A) (s := s) (e := fun j => deq (xs.getD j .non) (ys.getD j .non)) (r := fun j => ltB (xs.getD j .non) (ys.getD j .non)) p1 p2 (by omega)
        (fun j h1 h2 => by
          obtain ⟨d, v, a1, a2, a3⟩ := at1 j h1
          obtain ⟨d', v', b1, b2, b3⟩ := at2 j h2
          simp only [gd a1, gd b1]
          have cl := canLay_mem c1 a1
          have cl' := canLay_mem c2 b1
          have dp := a2.dp cl
          have dp' := b2.dp cl'
          rw [hK] at dp dp'
          obtain ⟨as, ra⟩ := Dp.reads I _ _ _ dp a3
          obtain ⟨bs, rb⟩ := Dp.reads I _ _ _ dp' b3
          refine SeqAt.eqAt_reads _ _ A.in1 s _ _ _ _ ra rb cl cl' ?_
          have := depth_mem a1
          show A.units + 1 + min d.py.depth d'.py.depth < cLine
          have := Nat.min_le_left d.py.depth d'.py.depth
          omega)
        (fun j h1 h2 he => by
          obtain ⟨d, v, a1, a2, a3⟩ := at1 j h1
          obtain ⟨d', v', b1, b2, b3⟩ := at2 j h2
          simp only [gd a1, gd b1] at he ⊢
          have := depth_mem a1
          exact ih d d' v v' _ _ A.in1 _ (by omega) a2 b2 a3 b3 (canLay_mem c1 a1) (canLay_mem c2 b1) (by show A.units + 1 + d.py.depth + 1 < cLine; omega) (lt_some h j d d' a1 b1 he))
      have e1 : its.toArray.size = xs.length := by simp [l1]
      have e2 : its2.toArray.size = ys.length := by simp [l2]
      rw [e1, e2, lt_lex h] at key
      exact key
end

/-! ### comparisons -/
section
variable {X : Cx} {k : RC} {C : PC}
def r2B (k : RC) (P : D → D → (Bool → Prop) → Prop) : R2 := fun x y H Q => ∃ ρ σ F d e QQ, Rel k ρ σ F H ∧ BR k F H x d ∧ BR k F H y e ∧ P d e QQ ∧ ∀ b, QQ b → Q (.bl b) H
def cmOf : Cm → CmpOp
  | .eq => .Eq
  | .ne => .NotEq
  | .lt => .Lt
  | .le => .LtE
  | .gt => .Gt
  | .ge => .GtE
  | .isin => .In
  | .notin => .NotIn
  | .is => .Is
  | .isnot => .IsNot
theorem op_eqP (hX : XOk X k) : OpR X (compareOp .Eq) (r2B k eqP) := by
  intro pins s σ H x y v u Q I rx ry ⟨ρ, σ', F, d, e, QQ, rel, bx, by', wp, fin⟩
  have hK := hX.K
  have hu : X.A.units + 64 < cLine := hX.room.units
  have gen : (shp d = true ∧ shp e = true) ∧ QQ (deq d e) → wpAny (model X.prog X.w) X.A (compareOp .Eq v u) (EP X pins σ Q) X.xe s := fun ⟨⟨h1, h2⟩, q⟩ => by
    have d1 := bx.dp rel.sub h1
    have d2 := by'.dp rel.sub h2
    rw [hK] at d1 d2
    exact op_eqD hu pins s σ H x y v u Q I rx ry ⟨_, _, d1, d2, h1, h2, fin _ q⟩
  have sc : ∀ b, L2.scal x y = true → decide (x = y) = b → QQ b → wpAny (model X.prog X.w) X.A (compareOp .Eq v u) (EP X pins σ Q) X.xe s := fun b h1 h2 q =>
    op_eq pins s σ H x y v u Q I rx ry ⟨h1, by rw [h2]; exact fin b q⟩
  cases d <;> cases e <;> first
    | exact gen wp
    | (cases bx.int; cases by'.int; exact sc _ rfl (by simp) wp)
    | (cases bx.str; cases by'.str; exact sc _ rfl (by simp) wp)
    | (cases bx.bl; cases by'.bl; exact sc _ rfl (by simp) wp)
    | (cases bx.non; cases by'.non; exact sc _ rfl (by simp) wp)
    | (cases bx.non; cases by'.int; exact sc _ rfl (by simp) wp)
    | (cases bx.int; cases by'.non; exact sc _ rfl (by simp) wp)
theorem op_neP (hX : XOk X k) : OpR X (compareOp .NotEq) (r2B k fun a b Q => eqP a b fun r => Q (!r)) := by
  intro pins s σ H x y v u Q I rx ry ⟨ρ, σ', F, d, e, QQ, rel, bx, by', wp, fin⟩
  have hK := hX.K
  have hu : X.A.units + 64 < cLine := hX.room.units
  have gen : (shp d = true ∧ shp e = true) ∧ QQ (!deq d e) → wpAny (model X.prog X.w) X.A (compareOp .NotEq v u) (EP X pins σ Q) X.xe s := fun ⟨⟨h1, h2⟩, q⟩ => by
    have d1 := bx.dp rel.sub h1
    have d2 := by'.dp rel.sub h2
    rw [hK] at d1 d2
    exact op_neD hu pins s σ H x y v u Q I rx ry ⟨_, _, d1, d2, h1, h2, fin _ q⟩
  have sc : ∀ b, L2.scal x y = true → decide (x = y) = b → QQ (!b) → wpAny (model X.prog X.w) X.A (compareOp .NotEq v u) (EP X pins σ Q) X.xe s := fun b h1 h2 q =>
    op_ne pins s σ H x y v u Q I rx ry ⟨h1, by rw [h2]; exact fin _ q⟩
  cases d <;> cases e <;> first
    | exact gen wp
    | (cases bx.int; cases by'.int; exact sc _ rfl (by simp) wp)
    | (cases bx.str; cases by'.str; exact sc _ rfl (by simp) wp)
    | (cases bx.bl; cases by'.bl; exact sc _ rfl (by simp) wp)
    | (cases bx.non; cases by'.non; exact sc _ rfl (by simp) wp)
    | (cases bx.non; cases by'.int; exact sc _ rfl (by simp) wp)
    | (cases bx.int; cases by'.non; exact sc _ rfl (by simp) wp)
theorem op_inP (hX : XOk X k) : OpR X (compareOp .In) (r2B k inP) := by
  intro pins s σ H x y v u Q I rx ry ⟨ρ, σ', F, d, e, QQ, rel, bx, by', wp, fin⟩
  have hK := hX.K
  have hu : X.A.units + 65 < cLine := by have := hX.room.un; omega
  cases e with
  | lst xs =>
    obtain ⟨⟨h1, h2⟩, q⟩ := wp
    have d1 := bx.dp rel.sub h1
    have d2 := by'.dp rel.sub h2
    rw [hK] at d1 d2
    simp only [D.py] at d2
    exact op_inD hu pins s σ H x y v u Q I rx ry ⟨_, _, d1, d2, h1, by simpa only [shp, D.py] using h2, by rw [any_pys]; exact fin _ q⟩
  | tup xs =>
    obtain ⟨⟨h1, h2⟩, q⟩ := wp
    have d1 := bx.dp rel.sub h1
    have d2 := by'.dp rel.sub h2
    rw [hK] at d1 d2
    simp only [D.py] at d2
    have h2' : SeqAt.shaped (.tuple (D.pys xs)) = true := by simpa only [shp, D.py] using h2
    obtain ⟨as, r1⟩ := Dp.reads I _ _ _ d1 rx
    obtain ⟨bs, r2⟩ := Dp.reads I _ _ _ d2 ry
    exact SeqAt.in_tuple_reads r2 r1 (SeqAt.canLay_of_shaped h2') (SeqAt.canLay_of_shaped h1) (room_in_shaped h1 hu) ⟨.bl _, H, I, rfl, by rw [any_pys]; exact fin _ q⟩
  | dct kvs =>
    obtain ⟨ok, q⟩ := wp
    obtain ⟨a, es, rfl, h1, h2, h3, h4⟩ := by'.dct rel.sub
    have ky : R k F x d := by
      rcases bx with b | ⟨_, _, _, rfl, _⟩ | ⟨_, _, _, rfl, _⟩
      · exact b
      · obtain ⟨n, hn, _⟩ := keyOk_iff ok
        simp [nk] at hn
      · obtain ⟨n, hn, _⟩ := keyOk_iff ok
        simp [nk] at hn
    cases ry
    exact d_in hX I rel.sub h1 h2 h3 ky rx ok fun s' I' => ⟨.bl _, H, I', rfl, fin _ q⟩
  | str z =>
    cases d <;> first | exact (show False from wp).elim | skip
    cases bx.str; cases by'.str
    exact op_in_str pins s σ H _ _ v u Q I rx ry ⟨_, _, rfl, rfl, fin _ wp⟩
  | _ => exact (show False from wp).elim
theorem op_notinP (hX : XOk X k) : OpR X (compareOp .NotIn) (r2B k fun a b Q => inP a b fun r => Q (!r)) := by
  intro pins s σ H x y v u Q I rx ry ⟨ρ, σ', F, d, e, QQ, rel, bx, by', wp, fin⟩
  have hK := hX.K
  have hu : X.A.units + 65 < cLine := by have := hX.room.un; omega
  cases e with
  | lst xs =>
    obtain ⟨⟨h1, h2⟩, q⟩ := wp
    have d1 := bx.dp rel.sub h1
    have d2 := by'.dp rel.sub h2
    rw [hK] at d1 d2
    simp only [D.py] at d2
    exact op_notInD hu pins s σ H x y v u Q I rx ry ⟨_, _, d1, d2, h1, by simpa only [shp, D.py] using h2, by rw [any_pys]; exact fin _ q⟩
  | tup xs =>
    obtain ⟨⟨h1, h2⟩, q⟩ := wp
    have d1 := bx.dp rel.sub h1
    have d2 := by'.dp rel.sub h2
    rw [hK] at d1 d2
    simp only [D.py] at d2
    have h2' : SeqAt.shaped (.tuple (D.pys xs)) = true := by simpa only [shp, D.py] using h2
    obtain ⟨as, r1⟩ := Dp.reads I _ _ _ d1 rx
    obtain ⟨bs, r2⟩ := Dp.reads I _ _ _ d2 ry
    exact SeqAt.notIn_tuple_reads r2 r1 (SeqAt.canLay_of_shaped h2') (SeqAt.canLay_of_shaped h1) (room_in_shaped h1 hu) ⟨.bl _, H, I, rfl, by rw [any_pys]; exact fin _ q⟩
  | dct kvs =>
    obtain ⟨ok, q⟩ := wp
    obtain ⟨a, es, rfl, h1, h2, h3, h4⟩ := by'.dct rel.sub
    have ky : R k F x d := by
      rcases bx with b | ⟨_, _, _, rfl, _⟩ | ⟨_, _, _, rfl, _⟩
      · exact b
      · obtain ⟨n, hn, _⟩ := keyOk_iff ok
        simp [nk] at hn
      · obtain ⟨n, hn, _⟩ := keyOk_iff ok
        simp [nk] at hn
    cases ry
    exact d_notin hX I rel.sub h1 h2 h3 ky rx ok fun s' I' => ⟨.bl _, H, I', rfl, fin _ q⟩
  | str z =>
    cases d <;> first | exact (show False from wp).elim | skip
    cases bx.str; cases by'.str
    exact op_notin_str pins s σ H _ _ v u Q I rx ry ⟨_, _, rfl, rfl, fin _ wp⟩
  | _ => exact (show False from wp).elim
theorem op_ordP (hX : XOk X k) (c : Cm) : OpR X (compareOp (cmOf c)) (r2B k (ordP c)) := by
  intro pins s σ H x y v u Q I rx ry ⟨ρ, σ', F, d, e, QQ, rel, bx, by', wp, fin⟩
  have hK := hX.K
  have gen : c = .lt → ((shp d = true ∧ shp e = true) ∧ (ltD d e).isSome = true) ∧ QQ ((ltD d e).getD false) → wpAny (model X.prog X.w) X.A (compareOp (cmOf c) v u) (EP X pins σ Q) X.xe s := fun hc ⟨⟨⟨h1, h2⟩, h3⟩, q⟩ => by
    subst hc
    obtain ⟨b, hb⟩ := Option.isSome_iff_exists.mp h3
    rw [hb] at q
    have c1 := SeqAt.canLay_of_shaped h1
    have c2 := SeqAt.canLay_of_shaped h2
    have un := hX.room.un
    have dp : d.py.depth ≤ 64 := SeqAt.depth_of_shaped h1
    have seen : ∀ {z f}, BR k F H z f → f.py.canLay0 = true → (∃ b', ltD d f = some b' ∨ ltD f e = some b') → R k H z f := fun {z f} h _ hl => by
      rcases h with h | ⟨_, _, _, rfl, _⟩ | ⟨_, _, _, rfl, _⟩
      · exact h.mono rel.sub
      · obtain ⟨b', hl | hl⟩ := hl
        · cases d <;> simp [ltD] at hl
        · cases e <;> simp [ltD] at hl
      · obtain ⟨b', hl | hl⟩ := hl
        · cases d <;> simp [ltD] at hl
        · cases e <;> simp [ltD] at hl
    have rc := rc_lt hK I 64 d e x y v u X.A b dp (seen bx c1 ⟨b, .inr hb⟩) (seen by' c2 ⟨b, .inl hb⟩) rx ry c1 c2 (by omega) hb
    exact rc X.prog X.w _ _ ⟨.bl b, H, I, rfl, fin _ q⟩
  cases d <;> cases e <;> first
    | (cases c <;> first | exact (show False from wp).elim | exact gen rfl wp)
    | skip
  cases bx.int; cases by'.int
  cases c <;> first
    | exact (show False from wp).elim
    | exact op_lt pins s σ H _ _ v u Q I rx ry ⟨_, _, rfl, rfl, fin _ wp⟩
    | exact op_le pins s σ H _ _ v u Q I rx ry ⟨_, _, rfl, rfl, fin _ wp⟩
    | exact op_gt pins s σ H _ _ v u Q I rx ry ⟨_, _, rfl, rfl, fin _ wp⟩
    | exact op_ge pins s σ H _ _ v u Q I rx ry ⟨_, _, rfl, rfl, fin _ wp⟩
theorem br_none {F H : Hp} {x : V} {d : D} (h : BR k F H x d) : decide (x = .non) = isNon d := by
  rcases h with h | ⟨_, _, rfl, rfl, _⟩ | ⟨_, _, rfl, rfl, _⟩
  · cases h <;> simp [isNon]
  · simp [isNon]
  · simp [isNon]
theorem op_cmp (hX : XOk X k) (c : Cm) : OpR X (compareOp (cmOf c)) (r2B k (cmpP c)) := by
  cases c with
  | eq => exact op_eqP hX
  | ne => exact op_neP hX
  | isin => exact op_inP hX
  | notin => exact op_notinP hX
  | lt => exact op_ordP hX .lt
  | le => exact op_ordP hX .le
  | gt => exact op_ordP hX .gt
  | ge => exact op_ordP hX .ge
  | is =>
    intro pins s σ H x y v u Q I rx ry ⟨ρ, σ', F, d, e, QQ, rel, bx, by', wp, fin⟩
    cases e with
    | non =>
      cases by'.non
      refine op_isN pins s σ H _ _ v u Q I rx ry ⟨rfl, ?_⟩
      rw [br_none bx]
      exact fin _ wp
    | bl j =>
      cases d <;> first | exact (show False from wp).elim | skip
      cases bx.bl; cases by'.bl
      exact op_is_bl pins s σ H _ _ v u Q I rx ry ⟨_, _, rfl, rfl, fin _ wp⟩
    | _ => exact (show False from wp).elim
  | isnot =>
    intro pins s σ H x y v u Q I rx ry ⟨ρ, σ', F, d, e, QQ, rel, bx, by', wp, fin⟩
    cases e with
    | non =>
      cases by'.non
      refine op_notN pins s σ H _ _ v u Q I rx ry ⟨rfl, ?_⟩
      rw [br_none bx]
      exact fin _ wp
    | bl j =>
      cases d <;> first | exact (show False from wp).elim | skip
      cases bx.bl; cases by'.bl
      exact op_isnot_bl pins s σ H _ _ v u Q I rx ry ⟨_, _, rfl, rfl, fin _ wp⟩
    | _ => exact (show False from wp).elim
theorem twoB {a b : IE} {P : D → D → (Bool → Prop) → Prop} {σ : L2.St} {H : Hp} {Q : VK} {QQ : RK} {ρ : PEnv} {F : Hp} (rel : Rel k ρ σ F H) (wp : wpE C a ρ fun x ρ1 => wpE C b ρ1 fun y ρ2 => P x.toD y.toD fun r => QQ (.val (.bl r)) ρ2)
    (fin : ∀ r ρ' v F' H', EPost k ρ σ F H r v ρ' F' H' → QQ r ρ' → Q v H') : tOp (r2B k P) (tE C k a) (tE C k b) σ H Q := by
  refine ⟨ρ, F, _, rel, wp, fun r1 ρ1 v1 F1 H1 p1 q1 => ⟨ρ1, F1, _, p1.rel, q1, fun r2 ρ2 v2 F2 H2 p2 q2 => ?_⟩⟩
  exact ⟨ρ2, σ, F2, _, _, _, p2.rel, p1.lent.tr p2.tr p2.rel, p2.lent, q2, fun r q3 => fin _ ρ2 _ F2 H2 (p1.then (p2.then (.flat p2.rel .refl (.bl r)))) q3⟩
theorem qe_cmp (hX : XOk X k) {c : Cm} {a b : Expr} {ia ib : IE} {pos : Pos} (ha : PE X a (tE C k ia)) (hb : PE X b (tE C k ib)) (hm : behindInMarks (cmOf c) b = false) : PE X (.Compare a [cmOf c] [b] pos) (tE C k (.cmp c ia ib)) :=
  weak (pe_cmpR (op_cmp hX c) ha hb hm) fun σ H Q ⟨ρ, F, QQ, rel, wp, fin⟩ => twoB (P := cmpP c) rel wp fin
/-- as a test -/
theorem qt_cmp (hX : XOk X k) {c : Cm} {a b : Expr} {ia ib : IE} {pos : Pos} (ha : PE X a (tE C k ia)) (hb : PE X b (tE C k ib)) (hm : behindInMarks (cmOf c) b = false) : PT X (.Compare a [cmOf c] [b] pos) (tT C k (.cmp c ia ib)) := by
  refine weakT (pt_cmpR (op_cmp hX c) ha hb hm) fun σ H Q ⟨ρ, F, QQ, rel, wp, fin⟩ => ?_
  show tOp _ _ _ σ H _
  refine ⟨ρ, F, _, rel, wp, fun r1 ρ1 v1 F1 H1 p1 q1 => ⟨ρ1, F1, _, p1.rel, q1, fun r2 ρ2 v2 F2 H2 p2 q2 => ?_⟩⟩
  exact ⟨ρ2, σ, F2, _, _, _, p2.rel, p1.lent.tr p2.tr p2.rel, p2.lent, q2, fun r q3 => ⟨r, rfl, fin r ρ2 F2 H2 p2.rel (p1.tr.trans p2.tr) q3⟩⟩
end
end PL
/-! PL8: the other expressions: tests, displays, subscripts, built-ins. -/
namespace PL
open PySem PySem.Spec PyProof.Rows L2

section
variable {X : Cx} {k : RC} {C : PC}
/-! ### chains, truth, and, or, not, if -/
theorem chainB {a b d : IE} {P P' : D → D → (Bool → Prop) → Prop} {σ : L2.St} {H : Hp} {Q : VK} {QQ : RK} {ρ : PEnv} {F : Hp} (rel : Rel k ρ σ F H)
    (wp : wpE C a ρ fun x ρ1 => wpE C b ρ1 fun y ρ2 => P x.toD y.toD fun r => brn r (wpE C d ρ2 fun z ρ3 => P' y.toD z.toD fun r' => QQ (.val (.bl r')) ρ3) (QQ (.val (.bl false)) ρ2))
    (fin : ∀ r ρ' v F' H', EPost k ρ σ F H (.val (.bl r)) v ρ' F' H' → v = .bl r → QQ (.val (.bl r)) ρ' → Q v H') : tChain (r2B k P) (r2B k P') (tE C k a) (tE C k b) (tE C k d) σ H Q := by
  refine ⟨ρ, F, _, rel, wp, fun r1 ρ1 v1 F1 H1 p1 q1 => ⟨ρ1, F1, _, p1.rel, q1, fun r2 ρ2 v2 F2 H2 p2 q2 => ?_⟩⟩
  refine ⟨ρ2, σ, F2, _, _, _, p2.rel, p1.lent.tr p2.tr p2.rel, p2.lent, q2, fun r q3 => ⟨r, rfl, ?_⟩⟩
  cases r with
  | false =>
    rw [brn_ite, if_neg Bool.false_ne_true] at q3; rw [if_neg Bool.false_ne_true]
    exact fin _ ρ2 _ F2 H2 (p1.then (p2.then (.flat p2.rel .refl (.bl _)))) rfl q3
  | true =>
    rw [brn_ite, if_pos rfl] at q3; rw [if_pos rfl]
    refine ⟨ρ2, F2, _, p2.rel, q3, fun r3 ρ3 v3 F3 H3 p3 q4 => ?_⟩
    exact ⟨ρ3, σ, F3, _, _, _, p3.rel, p2.lent.tr p3.tr p3.rel, p3.lent, q4, fun r' q5 => fin _ ρ3 _ F3 H3 (p1.then (p2.then (p3.then (.flat p3.rel .refl (.bl _))))) rfl q5⟩
theorem qe_cmp2 (hX : XOk X k) {c c' : Cm} {a b d : Expr} {ia ib id : IE} {pos : Pos} (ha : PE X a (tE C k ia)) (hb : PE X b (tE C k ib)) (hd : PE X d (tE C k id)) (hm : lastMarks [cmOf c, cmOf c'] [b, d] = false) :
    PE X (.Compare a [cmOf c, cmOf c'] [b, d] pos) (tE C k (.cmp2 c c' ia ib id)) :=
  weak (pe_chain (op_cmp hX c) (op_cmp hX c') ha hb hd hm) fun σ H Q ⟨ρ, F, QQ, rel, wp, fin⟩ => chainB (P := cmpP c) (P' := cmpP c') rel wp fun r ρ' v F' H' p _ q => fin _ _ _ _ _ p q
theorem qt_cmp2 (hX : XOk X k) {c c' : Cm} {a b d : Expr} {ia ib id : IE} {pos : Pos} (ha : PE X a (tE C k ia)) (hb : PE X b (tE C k ib)) (hd : PE X d (tE C k id)) (hm : lastMarks [cmOf c, cmOf c'] [b, d] = false) :
    PT X (.Compare a [cmOf c, cmOf c'] [b, d] pos) (tT C k (.cmp2 c c' ia ib id)) :=
  weakT (pt_chain (op_cmp hX c) (op_cmp hX c') ha hb hd hm) fun σ H Q ⟨ρ, F, QQ, rel, wp, fin⟩ => by
    show tChain _ _ _ _ _ σ H _
    exact chainB (P := cmpP c) (P' := cmpP c') rel wp fun r ρ' v F' H' p e q => ⟨r, e, fin r ρ' F' H' p.rel p.tr q⟩
theorem tru_of {ρ : PEnv} {σ : L2.St} {F H : Hp} {v : V} {d : D} {b : Bool} (hK : k.K = X.K) (rel : Rel k ρ σ F H) (br : BR k F H v d) (h : truthD d = some b) : TruV X.K v H b := by
  cases d <;> simp only [truthD, Option.some.injEq, reduceCtorEq] at h <;> subst h
  · cases br.non; rfl
  · cases br.bl; rfl
  · cases br.int; rfl
  · obtain ⟨a, vs, rfl, t, r⟩ := br.tup
    have sq := (t.mono rel.sub).sq
    rw [hK] at sq
    refine .inr (.inl ⟨vs, sq, ?_⟩)
    cases r <;> rfl
  · obtain ⟨a, vs, rfl, t, r⟩ := br.lst rel.sub
    refine .inl ⟨vs, .of t, ?_⟩
    cases r <;> rfl
theorem qt_tst (hX : XOk X k) {a : Expr} {ia : IE} (ha : PE X a (tE C k ia)) (he : ∀ whole, isTrue a X.env whole = (do let v ← whole; standAt a.pos; holding [v] (truthy v))) : PT X a (tT C k (.tst ia)) :=
  weakT (pt_truth ha he) fun σ H Q ⟨ρ, F, QQ, rel, wp, fin⟩ => ⟨ρ, F, _, rel, wp, fun r ρ' v F' H' p ⟨b, hb, q⟩ => ⟨b, tru_of hX.K p.rel p.lent hb, fin b ρ' F' H' p.rel p.tr q⟩⟩
theorem bl_of {F' H H' : Hp} {v : V} {b : Bool} (h : RR k H F' H' v (.val (.bl b))) : v = .bl b := by
  have q : R k F' v (.bl b) := h
  cases q; rfl
/-- two tests in a row -/
theorem qt_and {a b : Expr} {ia ib : IE} {rest : List Expr} {pos : Pos} (ha : PT X a (tT C k ia)) (hb : PW X (.BoolOp .And (b :: rest) pos) (tT C k ib)) : PW X (.BoolOp .And (a :: b :: rest) pos) (tT C k (.and ia ib)) := by
  refine ⟨fun wh pins s σ H Q I h => (pw_and ha hb).run wh pins s σ H Q I ?_⟩
  obtain ⟨ρ, F, QQ, rel, wp, fin⟩ := h
  refine ⟨ρ, F, _, rel, wp, fun b1 ρ1 F1 H1 rel1 tr1 q1 => ?_⟩
  obtain ⟨c, ec, q1⟩ := q1
  cases ec
  cases b1 with
  | true =>
    rw [brn_ite, if_pos rfl] at q1; rw [if_pos rfl]
    exact ⟨ρ1, F1, _, rel1, q1, fun b2 ρ2 F2 H2 rel2 tr2 q2 => fin b2 ρ2 F2 H2 rel2 (tr1.trans tr2) q2⟩
  | false =>
    rw [brn_ite, if_neg Bool.false_ne_true] at q1; rw [if_neg Bool.false_ne_true]
    exact fin false ρ1 F1 H1 rel1 tr1 q1
theorem qt_or {a b : Expr} {ia ib : IE} {rest : List Expr} {pos : Pos} (ha : PT X a (tT C k ia)) (hb : PW X (.BoolOp .Or (b :: rest) pos) (tT C k ib)) : PW X (.BoolOp .Or (a :: b :: rest) pos) (tT C k (.or ia ib)) := by
  refine ⟨fun wh pins s σ H Q I h => (pw_or ha hb).run wh pins s σ H Q I ?_⟩
  obtain ⟨ρ, F, QQ, rel, wp, fin⟩ := h
  refine ⟨ρ, F, _, rel, wp, fun b1 ρ1 F1 H1 rel1 tr1 q1 => ?_⟩
  obtain ⟨c, ec, q1⟩ := q1
  cases ec
  cases b1 with
  | true =>
    rw [brn_ite, if_pos rfl] at q1; rw [if_pos rfl]
    exact fin true ρ1 F1 H1 rel1 tr1 q1
  | false =>
    rw [brn_ite, if_neg Bool.false_ne_true] at q1; rw [if_neg Bool.false_ne_true]
    exact ⟨ρ1, F1, _, rel1, q1, fun b2 ρ2 F2 H2 rel2 tr2 q2 => fin b2 ρ2 F2 H2 rel2 (tr1.trans tr2) q2⟩
theorem qt_not {a : Expr} {ia : IE} {pos : Pos} (ha : PT X a (tT C k ia)) : PT X (.UnaryOp .Not a pos) (tT C k (.not ia)) :=
  weakT (pt_not ha) fun σ H Q ⟨ρ, F, QQ, rel, wp, fin⟩ => ⟨ρ, F, _, rel, wp, fun b ρ' F' H' rel' tr' q => by
    obtain ⟨c, ec, q⟩ := q
    cases ec
    exact fin _ ρ' F' H' rel' tr' q⟩
theorem qe_and {a b : Expr} {ia ib : IE} {rest : List Expr} {pos : Pos} (ha : PE X a (tE C k ia)) (hb : PE X (.BoolOp .And (b :: rest) pos) (tE C k ib)) : PE X (.BoolOp .And (a :: b :: rest) pos) (tE C k (.and ia ib)) :=
  weak (pe_and ha hb) fun σ H Q ⟨ρ, F, QQ, rel, wp, fin⟩ => ⟨ρ, F, _, rel, wp, fun r1 ρ1 v1 F1 H1 p1 q1 => by
    obtain ⟨c, rfl, q1⟩ := q1
    refine ⟨c, bl_of p1.res, ?_⟩
    cases c with
    | true =>
      rw [brn_ite, if_pos rfl] at q1; rw [if_pos rfl]
      exact ⟨ρ1, F1, _, p1.rel, q1, fun r2 ρ2 v2 F2 H2 p2 q2 => fin _ _ _ _ _ (p1.then p2) q2⟩
    | false =>
      rw [brn_ite, if_neg Bool.false_ne_true] at q1; rw [if_neg Bool.false_ne_true]
      exact fin _ _ _ _ _ (p1.then (.flat p1.rel .refl (.bl _))) q1⟩
theorem qe_or {a b : Expr} {ia ib : IE} {rest : List Expr} {pos : Pos} (ha : PE X a (tE C k ia)) (hb : PE X (.BoolOp .Or (b :: rest) pos) (tE C k ib)) : PE X (.BoolOp .Or (a :: b :: rest) pos) (tE C k (.or ia ib)) :=
  weak (pe_or ha hb) fun σ H Q ⟨ρ, F, QQ, rel, wp, fin⟩ => ⟨ρ, F, _, rel, wp, fun r1 ρ1 v1 F1 H1 p1 q1 => by
    obtain ⟨c, rfl, q1⟩ := q1
    refine ⟨c, bl_of p1.res, ?_⟩
    cases c with
    | true =>
      rw [brn_ite, if_pos rfl] at q1; rw [if_pos rfl]
      exact fin _ _ _ _ _ (p1.then (.flat p1.rel .refl (.bl _))) q1
    | false =>
      rw [brn_ite, if_neg Bool.false_ne_true] at q1; rw [if_neg Bool.false_ne_true]
      exact ⟨ρ1, F1, _, p1.rel, q1, fun r2 ρ2 v2 F2 H2 p2 q2 => fin _ _ _ _ _ (p1.then p2) q2⟩⟩
theorem qe_not {a : Expr} {ia : IE} {pos : Pos} (ha : PE X a (tE C k ia)) : PE X (.UnaryOp .Not a pos) (tE C k (.not ia)) :=
  weak (pe_not ha) fun σ H Q ⟨ρ, F, QQ, rel, wp, fin⟩ => ⟨ρ, F, _, rel, wp, fun r1 ρ1 v1 F1 H1 p1 q1 => by
    obtain ⟨c, rfl, q1⟩ := q1
    exact ⟨c, bl_of p1.res, fin _ _ _ _ _ (p1.then (.flat p1.rel .refl (.bl _))) q1⟩⟩
theorem qe_ite {c a b : Expr} {ic ia ib : IE} {pos : Pos} (hc : PT X c (tT C k ic)) (ha : PE X a (tE C k ia)) (hb : PE X b (tE C k ib)) : PE X (.IfExp c a b pos) (tE C k (.ite ic ia ib)) :=
  weak (pe_ifExp hc ha hb) fun σ H Q ⟨ρ, F, QQ, rel, wp, fin⟩ => ⟨ρ, F, _, rel, wp, fun b1 ρ1 F1 H1 rel1 tr1 q1 => by
    obtain ⟨c, ec, q1⟩ := q1
    cases ec
    have p1 : EPost k ρ σ F H (.val (.bl b1)) (.bl b1) ρ1 F1 H1 := ⟨rel1, tr1, .bl _⟩
    cases b1 with
    | true =>
      rw [brn_ite, if_pos rfl] at q1; rw [if_pos rfl]
      exact ⟨ρ1, F1, _, rel1, q1, fun r2 ρ2 v2 F2 H2 p2 q2 => fin _ _ _ _ _ (p1.then p2) q2⟩
    | false =>
      rw [brn_ite, if_neg Bool.false_ne_true] at q1; rw [if_neg Bool.false_ne_true]
      exact ⟨ρ1, F1, _, rel1, q1, fun r2 ρ2 v2 F2 H2 p2 q2 => fin _ _ _ _ _ (p1.then p2) q2⟩⟩
theorem qe_neg {a : Expr} {ia : IE} {pos : Pos} (ha : PE X a (tE C k ia)) : PE X (.UnaryOp .USub a pos) (tE C k (.neg ia)) :=
  weak (pe_un un_neg ha) fun σ H Q ⟨ρ, F, QQ, rel, wp, fin⟩ => ⟨ρ, F, _, rel, wp, fun r1 ρ1 v1 F1 H1 p1 ⟨i, e, q⟩ => by
    have l := p1.lent
    rw [e] at l
    exact ⟨i, l.int, fin _ _ _ _ _ (p1.then (.flat p1.rel .refl (.int _))) q⟩⟩

/-! ### arguments, displays -/
theorem qa_nil {b : Bool} : PA X [] (tA C k b .anil) := weakA pa_nil fun σ H Q ⟨ρ, F, QQ, rel, wp, fin⟩ => fin [] ρ [] F H rel .refl (by unfold ARel; split; exact .nil; exact .nil) wp
theorem qa_cons {b : Bool} {e : Expr} {es : List Expr} {ie ies : IE} (he : PE X e (tE C k ie)) (hr : PA X es (tA C k b ies)) (hs : starEach (e :: es) X.env = (false, eval e X.env) :: starEach es X.env) : PA X (e :: es) (tA C k b (.acons ie ies)) := by
  refine weakA (pa_cons he hr hs) fun σ H Q ⟨ρ, F, QQ, rel, wp, fin⟩ => ?_
  refine ⟨ρ, F, _, rel, wp, fun r1 ρ1 v1 F1 H1 p1 q1 => ?_⟩
  cases b with
  | true =>
    refine ⟨ρ1, F1, _, p1.rel, q1, fun ds ρ2 vs F2 H2 rel2 tr2 a2 q2 => ?_⟩
    exact fin _ ρ2 _ F2 H2 rel2 (p1.tr.trans tr2) (BRs.cons (p1.lent.tr tr2 rel2) a2) q2
  | false =>
    obtain ⟨d, F1', q1, e1, rd, rel1, tr1⟩ := p1.keep rel q1
    refine ⟨ρ1, F1', _, rel1, q1, fun ds ρ2 vs F2 H2 rel2 tr2 a2 q2 => ?_⟩
    exact fin _ ρ2 _ F2 H2 rel2 (tr1.trans tr2) (Rs.cons (rd.mono tr2.sub) a2) q2
theorem qe_tup {es : List Expr} {ies : IE} {x1 : Nat} {pos : Pos} (h : PA X es (tA C k false ies)) : PE X (.Tuple es x1 pos) (tE C k (.tup ies)) :=
  weak (pe_tupF h) fun σ H Q ⟨ρ, F, QQ, rel, wp, fin⟩ => ⟨ρ, F, _, rel, wp, fun ds ρ1 vs F1 H1 rel1 tr1 a1 ⟨hz, q⟩ => by
    have a1 : Rs k F1 vs ds := a1
    refine ⟨by rw [a1.length]; exact hz, newT rel1 a1 fun v F' H' p => ?_⟩
    exact fin (.val (.tup ds)) _ _ _ _ ⟨p.rel, tr1.trans p.tr, (p.res : R k F' v (.tup ds))⟩ q⟩
theorem qe_lst {es : List Expr} {ies : IE} {pos : Pos} (h : PA X es (tA C k false ies)) : PE X (.List es pos) (tE C k (.lst ies)) :=
  weak (pe_lst h) fun σ H Q ⟨ρ, F, QQ, rel, wp, fin⟩ => ⟨ρ, F, _, rel, wp, fun ds ρ1 vs F1 H1 rel1 tr1 a1 ⟨hz, q⟩ => by
    have a1 : Rs k F1 vs ds := a1
    exact ⟨by rw [a1.length]; exact hz, fun p hn => fin _ _ _ _ _ (.newL rel1 tr1 hn a1) q⟩⟩
/-! ### subscripts -/
theorem atI_rs {F : Hp} {vs : List V} {ds : List D} {i : Int} {d : D} (r : Rs k F vs ds) (h : atI ds i = some d) : ∃ v, atI vs i = some v ∧ R k F v d := by
  unfold atI at h ⊢
  rw [r.length]
  cases e : ixN ds.length i with
  | none => rw [e] at h; cases h
  | some j => rw [e] at h; exact r.get h
theorem ix_P (hX : XOk X k) : IxR X (fun x y H Q => ∃ ρ σ F d e QQ, Rel k ρ σ F H ∧ BR k F H x d ∧ BR k F H y e ∧ idxP d e QQ ∧ ∀ v d, R k F v d → QQ d → Q v H) := by
  intro value slice pins s σ H x y v u Q I rx ry ⟨ρ, σ', F, d, e, QQ, rel, bx, by', wp, fin⟩ hs
  have hK := hX.K
  cases d with
  | lst xs =>
    cases e <;> first | exact (show False from wp).elim | skip
    obtain ⟨d, h1, h2⟩ := wp
    obtain ⟨a, vs, rfl, t, r⟩ := bx.lst rel.sub
    cases by'.int
    obtain ⟨w, e1, e2⟩ := atI_rs r h1
    exact ix_list value slice pins s σ H _ _ v u Q I rx ry ⟨a, vs, _, w, rfl, rfl, .of t, e1, fin _ _ e2 h2⟩ hs
  | tup xs =>
    cases e <;> first | exact (show False from wp).elim | skip
    obtain ⟨d, h1, h2⟩ := wp
    obtain ⟨a, vs, rfl, t, r⟩ := bx.tup
    cases by'.int
    obtain ⟨w, e1, e2⟩ := atI_rs r h1
    have sq := (t.mono rel.sub).sq
    rw [hK] at sq
    exact ix_tup value slice pins s σ H _ _ v u Q I rx ry ⟨a, vs, _, w, rfl, rfl, sq, e1, fin _ _ e2 h2⟩ hs
  | str z =>
    cases e <;> first | exact (show False from wp).elim | skip
    obtain ⟨hz, c, h1, h2⟩ := wp
    cases bx.str; cases by'.int
    exact ix_str value slice pins s σ H _ _ v u Q I rx ry ⟨z, _, c, rfl, rfl, hz, h1, fin _ _ (.str _) h2⟩ hs
  | dct kvs =>
    obtain ⟨ok, vd, h1, h2⟩ := wp
    obtain ⟨a, es, rfl, g1, g2, g3, g4⟩ := bx.dct rel.sub
    have ky : R k F y e := by
      rcases by' with b | ⟨_, _, _, rfl, _⟩ | ⟨_, _, _, rfl, _⟩
      · exact b
      · obtain ⟨n, hn, _⟩ := keyOk_iff ok
        simp [nk] at hn
      · obtain ⟨n, hn, _⟩ := keyOk_iff ok
        simp [nk] at hn
    cases rx
    obtain ⟨o, ep, q1, q2, q3, _⟩ := dct_at I g1
    exact tail_any ⟨o, q1, q2.1⟩ PySem.F.slot_dict_getitem.lookup (d_get hX I rel.sub g1 g2 g3 ky ry ok h1 fun s' vv w I' rw' rv => ⟨vv, H, I', rw', fin _ _ rv h2⟩) hs
  | _ => exact (show False from wp).elim
theorem qe_idx (hX : XOk X k) {a b : Expr} {ia ib : IE} {pos : Pos} (ha : PE X a (tE C k ia)) (hb : PE X b (tE C k ib)) (hs : PlainIx b) : PE X (.Subscript a b pos) (tE C k (.idx ia ib)) :=
  weak (pe_ix (ix_P hX) ha hb hs) fun σ H Q ⟨ρ, F, QQ, rel, wp, fin⟩ => ⟨ρ, F, _, rel, wp, fun r1 ρ1 v1 F1 H1 p1 q1 => ⟨ρ1, F1, _, p1.rel, q1, fun r2 ρ2 v2 F2 H2 p2 q2 =>
    ⟨ρ2, σ, F2, _, _, _, p2.rel, p1.lent.tr p2.tr p2.rel, p2.lent, q2, fun v d rv q => fin _ _ _ _ _ (p1.then (p2.then (.flat p2.rel .refl rv))) q⟩⟩⟩
/-- a part of a slice -/
def tO (C : PC) (k : RC) (e : IE) : TO := fun σ H Q => ∃ ρ F QQ, Rel k ρ σ F H ∧ optP (isMiss e) (wpE C e) ρ QQ ∧ ∀ o ρ' F' H', Rel k ρ' σ F' H' → ETr k ρ σ F H ρ' F' H' → QQ o ρ' → Q o H'
theorem po_no : PO X none (tO C k (.cst .non)) := ⟨fun pins s σ H Q I ⟨ρ, F, QQ, rel, wp, fin⟩ => po_none.run pins s σ H Q I (fin none ρ F H rel .refl wp)⟩
theorem po_yes {e : Expr} {ie : IE} (h : PE X e (tE C k ie)) (hm : isMiss ie = false) : PO X (some e) (tO C k ie) := ⟨fun pins s σ H Q I ⟨ρ, F, QQ, rel, wp, fin⟩ => by
  unfold optP at wp
  rw [hm, if_neg Bool.false_ne_true] at wp
  refine (po_some h).run pins s σ H Q I ⟨ρ, F, _, rel, wp, fun r ρ' v F' H' p ⟨i, e, q⟩ => ?_⟩
  have l := p.lent
  rw [e] at l
  exact ⟨i, l.int, fin _ _ _ _ p.rel p.tr q⟩⟩
theorem cut_rs {F : Hp} {vs : List V} {ds : List D} (r : Rs k F vs ds) (lo hi : Option Int) : Rs k F (cutV vs lo hi) (cutL ds lo hi) := by
  unfold cutV cutL
  rw [r.length]
  exact (r.drop _).take _
theorem sl_P (hX : XOk X k) : SlR X (fun x lo hi H Q => ∃ ρ σ F d QQ, Rel k ρ σ F H ∧ BR k F H x d ∧ slcP d lo hi QQ ∧ ∀ r v F' H', EPost k ρ σ F H r v ρ F' H' → QQ r → Q v H') := by
  intro pins s σ H x v vl vu lo hi sl Q I rx hs pl pu ⟨ρ, σ', F, d, QQ, rel, bx, wp, fin⟩
  have hK := hX.K
  cases d with
  | lst xs =>
    obtain ⟨a, vs, rfl, t, r⟩ := bx.lst rel.sub
    exact sl_list pins s σ H _ v vl vu lo hi sl Q I rx hs pl pu ⟨a, vs, rfl, .of t, fun p hn => fin _ _ _ _ (.newL rel .refl hn (cut_rs r lo hi)) wp⟩
  | tup xs =>
    obtain ⟨a, vs, rfl, t, r⟩ := bx.tup
    have sq := (t.mono rel.sub).sq
    rw [hK] at sq
    refine sl_tupF pins s σ H _ v vl vu lo hi sl Q I rx hs pl pu ⟨a, vs, rfl, sq, fun z => ?_, fun _ => newT rel (cut_rs r lo hi) fun v F' H' p => fin _ _ _ _ p wp⟩
    have e : cutL xs lo hi = xs := by
      unfold cutL
      rw [r.length] at z
      rw [z.1, z.2]
      simp
    have wp : QQ (.val (.tup (cutL xs lo hi))) := wp
    rw [e] at wp
    exact fin _ _ _ _ (.flat rel .refl (.tup t r)) wp
  | _ => exact (show False from wp).elim
theorem qe_slc (hX : XOk X k) {a : Expr} {lo hi : Option Expr} {ia il ih : IE} {p2 pos : Pos} (ha : PE X a (tE C k ia)) (hl : PO X lo (tO C k il)) (hh : PO X hi (tO C k ih)) : PE X (.Subscript a (.Slice lo hi none p2) pos) (tE C k (.slc ia il ih)) :=
  weak (pe_slice (sl_P hX) ha hl hh) fun σ H Q ⟨ρ, F, QQ, rel, wp, fin⟩ => ⟨ρ, F, _, rel, wp, fun r1 ρ1 v1 F1 H1 p1 q1 => ⟨ρ1, F1, _, p1.rel, q1, fun l ρ2 F2 H2 rel2 tr2 q2 => ⟨ρ2, F2, _, rel2, q2, fun h ρ3 F3 H3 rel3 tr3 q3 =>
    ⟨ρ3, σ, F3, _, _, rel3, (p1.lent.tr tr2 rel2).tr tr3 rel3, q3, fun r v F' H' p q => fin _ _ _ _ _ ((p1.then (⟨rel2, tr2, .non⟩ : EPost k ρ1 σ F1 H1 (.val .non) .non ρ2 F2 H2)).then ((⟨rel3, tr3, .non⟩ : EPost k ρ2 σ F2 H2 (.val .non) .non ρ3 F3 H3).then p)) q⟩⟩⟩⟩

/-! ### built-ins called by name -/
/-- a built-in on lent values -/
def rBlt (k : RC) (P : List D → (RV → Prop) → Prop) : List V → Hp → VK → Prop := fun xs H Q => ∃ ρ σ F ds QQ, Rel k ρ σ F H ∧ BRs k F H xs ds ∧ P ds QQ ∧ ∀ r v F' H', EPost k ρ σ F H r v ρ F' H' → QQ r → Q v H'
theorem brs1 {F H : Hp} {xs : List V} {d : D} (h : BRs k F H xs [d]) : ∃ x, xs = [x] ∧ BR k F H x d := by
  cases h with
  | cons a b => cases b; exact ⟨_, rfl, a⟩
theorem brs2 {F H : Hp} {xs : List V} {d e : D} (h : BRs k F H xs [d, e]) : ∃ x y, xs = [x, y] ∧ BR k F H x d ∧ BR k F H y e := by
  cases h with
  | cons a b =>
    obtain ⟨y, rfl, c⟩ := brs1 b
    exact ⟨_, y, rfl, a, c⟩
theorem qe_blt {f : BI} {e : Expr} {es : List Expr} {ies : IE} {t : TA → TE} (h : ∀ ta, PA X es ta → PE X e (tCB (rBlt k (bltP f)) ta)) (ha : PA X es (tA C k true ies)) : PE X e (tE C k (.blt f ies)) :=
  weak (h _ ha) fun σ H Q ⟨ρ, F, QQ, rel, wp, fin⟩ => ⟨ρ, F, _, rel, wp, fun ds ρ1 vs F1 H1 rel1 tr1 a1 q1 =>
    ⟨ρ1, σ, F1, ds, _, rel1, a1, q1, fun r v F' H' p q => fin _ _ _ _ _ ((⟨rel1, tr1, .non⟩ : EPost k ρ σ F H (.val .non) .non ρ1 F1 H1).then p) q⟩⟩
theorem cb_len_dct (hX : XOk X k) {pins : List (Addr × Obj)} {s : Shared} {σ : L2.St} {F H : Hp} {a : Addr} {es : List DictEntry} {kvs : List (D × D)} {Q : Value → Shared → Prop} {E : Value → Shared → Prop} (I : Inv X pins σ H s) (sub : Same F H) (da : DctAt H a es)
    (rk : RKs k F es kvs) (nd : (kvs.map fun p => nk p.1).Nodup) (un : ∀ p ∈ kvs, ∀ q ∈ kvs, scal p.1 = scal q.1)
    (h : ∀ s' t, Inv X pins σ H s' → Q (.int kvs.length t) s') : wpAny (model X.prog X.w) X.A (call (.builtin "len") [.ref a]) Q E s := by
  obtain ⟨_, _, _, _, _, hs, hz⟩ := dct_at I da
  have hl := rk.length
  have hline := sizeLine_eq
  have c : (∀ p ∈ kvs, scal p.1 = true) ∨ ∀ p ∈ kvs, scal p.1 = false := by
    cases kvs with
    | nil => exact .inl fun p hp => by simp at hp
    | cons p ps =>
      cases e : scal p.1 with
      | true => exact .inl fun q hq => (un p List.mem_cons_self q hq).symm.trans e
      | false => exact .inr fun q hq => (un p List.mem_cons_self q hq).symm.trans e
  rcases c with c | c
  · obtain ⟨ps, q1, q2⟩ := dv_s hX I da rk nd c
    exact call_len_dict hs q1 (by rw [q2.len]; omega) (by rw [q2.len]; exact h _ _ (I.tok _))
  · obtain ⟨ps, q1, q2⟩ := dv_h hX I sub da rk nd c
    exact call_len_dictH hs q1 (by rw [q2.len]; omega) (by rw [q2.len]; exact h _ _ (I.tok _))
theorem cb_len (hX : XOk X k) : CallR X (.builtin "len") (rBlt k (bltP .len)) := by
  intro pins s σ H xs us Q I r ⟨ρ, σ', F, ds, QQ, rel, br, wp, fin⟩
  have hK := hX.K
  match ds, br, wp with
  | [.str z], br, wp =>
    obtain ⟨x, rfl, b⟩ := brs1 br
    cases b.str
    exact call_len pins s σ H _ us Q I r ⟨_, z.length, rfl, ⟨wp.1, rfl⟩, fin _ _ _ _ (.flat rel .refl (.int _)) wp.2⟩
  | [.lst xs], br, wp =>
    obtain ⟨x, rfl, b⟩ := brs1 br
    obtain ⟨a, vs, rfl, t, q⟩ := b.lst rel.sub
    exact call_len pins s σ H _ us Q I r ⟨_, vs.length, rfl, .inl ⟨vs, .of t, rfl⟩, by rw [q.length]; exact fin _ _ _ _ (.flat rel .refl (.int _)) wp⟩
  | [.tup xs], br, wp =>
    obtain ⟨x, rfl, b⟩ := brs1 br
    obtain ⟨a, vs, rfl, t, q⟩ := b.tup
    have sq := (t.mono rel.sub).sq
    rw [hK] at sq
    exact call_len pins s σ H _ us Q I r ⟨_, vs.length, rfl, .inr ⟨vs, sq, rfl⟩, by rw [q.length]; exact fin _ _ _ _ (.flat rel .refl (.int _)) wp⟩
  | [.dct kvs], br, wp =>
    obtain ⟨x, rfl, b⟩ := brs1 br
    obtain ⟨a, es, rfl, g1, g2, g3, g4⟩ := b.dct rel.sub
    obtain ⟨u, rfl, rx⟩ := vals1 r
    cases rx
    exact cb_len_dct hX I rel.sub g1 g2 g3 g4 fun s' t I' => ⟨.int _, H, I', ⟨t, rfl⟩, fin _ _ _ _ (.flat rel .refl (.int _)) wp⟩
end
end PL
/-! PL9: built-ins, methods, isinstance. -/
namespace PL
open PySem PySem.Spec PyProof.Rows L2
section
variable {X : Cx} {k : RC} {C : PC}
theorem ints_vs {F : Hp} : ∀ {vs : List V} {ds : List D} {is : List Int}, Rs k F vs ds → ints? ds = some is → vs = is.map V.int
  | _, _, is, .nil, h => by simp only [ints?, Option.some.injEq] at h; subst h; rfl
  | _, .int i :: ds, is, .cons a r, h => by
    simp only [ints?, Option.map_eq_some_iff] at h
    obtain ⟨js, h1, rfl⟩ := h
    cases a
    rw [ints_vs r h1]; rfl
  | _, .non :: _, _, .cons _ _, h => by simp [ints?] at h
  | _, .bl _ :: _, _, .cons _ _, h => by simp [ints?] at h
  | _, .str _ :: _, _, .cons _ _, h => by simp [ints?] at h
  | _, .tup _ :: _, _, .cons _ _, h => by simp [ints?] at h
  | _, .lst _ :: _, _, .cons _ _, h => by simp [ints?] at h
  | _, .dct _ :: _, _, .cons _ _, h => by simp [ints?] at h
  | _, .rng _ _ :: _, _, .cons _ _, h => by simp [ints?] at h
  | _, .pool :: _, _, .cons _ _, h => by simp [ints?] at h
theorem bls_vs {F : Hp} : ∀ {vs : List V} {ds : List D} {is : List Bool}, Rs k F vs ds → bls? ds = some is → vs = is.map V.bl
  | _, _, is, .nil, h => by simp only [bls?, Option.some.injEq] at h; subst h; rfl
  | _, .bl i :: ds, is, .cons a r, h => by
    simp only [bls?, Option.map_eq_some_iff] at h
    obtain ⟨js, h1, rfl⟩ := h
    cases a
    rw [bls_vs r h1]; rfl
  | _, .non :: _, _, .cons _ _, h => by simp [bls?] at h
  | _, .int _ :: _, _, .cons _ _, h => by simp [bls?] at h
  | _, .str _ :: _, _, .cons _ _, h => by simp [bls?] at h
  | _, .tup _ :: _, _, .cons _ _, h => by simp [bls?] at h
  | _, .lst _ :: _, _, .cons _ _, h => by simp [bls?] at h
  | _, .dct _ :: _, _, .cons _ _, h => by simp [bls?] at h
  | _, .rng _ _ :: _, _, .cons _ _, h => by simp [bls?] at h
  | _, .pool :: _, _, .cons _ _, h => by simp [bls?] at h
theorem cb_sum (hX : XOk X k) : CallR X (.builtin "sum") (rBlt k (bltP .sum)) := by
  intro pins s σ H xs us Q I r ⟨ρ, σ', F, ds, QQ, rel, br, wp, fin⟩
  match ds, br, wp with
  | [.lst xs], br, wp =>
    obtain ⟨x, rfl, b⟩ := brs1 br
    obtain ⟨a, vs, rfl, t, q⟩ := b.lst rel.sub
    obtain ⟨is, h1, h2⟩ := wp
    cases ints_vs q h1
    exact cr_sum hX.calm pins s σ H _ us Q I r ⟨a, is, rfl, .of t, fin _ _ _ _ (.flat rel .refl (.int _)) h2⟩
theorem cb_any (hX : XOk X k) : CallR X (.builtin "any") (rBlt k (bltP .any)) := by
  intro pins s σ H xs us Q I r ⟨ρ, σ', F, ds, QQ, rel, br, wp, fin⟩
  match ds, br, wp with
  | [.lst xs], br, wp =>
    obtain ⟨x, rfl, b⟩ := brs1 br
    obtain ⟨a, vs, rfl, t, q⟩ := b.lst rel.sub
    obtain ⟨is, h1, h2⟩ := wp
    cases bls_vs q h1
    exact cr_any hX.calm pins s σ H _ us Q I r ⟨a, is, rfl, .of t, fin _ _ _ _ (.flat rel .refl (.bl _)) h2⟩
theorem cb_all (hX : XOk X k) : CallR X (.builtin "all") (rBlt k (bltP .all)) := by
  intro pins s σ H xs us Q I r ⟨ρ, σ', F, ds, QQ, rel, br, wp, fin⟩
  match ds, br, wp with
  | [.lst xs], br, wp =>
    obtain ⟨x, rfl, b⟩ := brs1 br
    obtain ⟨a, vs, rfl, t, q⟩ := b.lst rel.sub
    obtain ⟨is, h1, h2⟩ := wp
    cases bls_vs q h1
    exact cr_all hX.calm pins s σ H _ us Q I r ⟨a, is, rfl, .of t, fin _ _ _ _ (.flat rel .refl (.bl _)) h2⟩
theorem cb_abs (hX : XOk X k) : CallR X (.builtin "abs") (rBlt k (bltP .abs)) := by
  intro pins s σ H xs us Q I r ⟨ρ, σ', F, ds, QQ, rel, br, wp, fin⟩
  match ds, br, wp with
  | [.int i], br, wp =>
    obtain ⟨x, rfl, b⟩ := brs1 br
    cases b.int
    exact call_abs pins s σ H _ us Q I r ⟨i, rfl, fin _ _ _ _ (.flat rel .refl (.int _)) wp⟩
theorem cb_int (hX : XOk X k) : CallR X (.type "int") (rBlt k (bltP .int)) := by
  intro pins s σ H xs us Q I r ⟨ρ, σ', F, ds, QQ, rel, br, wp, fin⟩
  match ds, br, wp with
  | [.int i], br, wp =>
    obtain ⟨x, rfl, b⟩ := brs1 br
    cases b.int
    exact call_int1 pins s σ H _ us Q I r (.inl ⟨i, rfl, fin _ _ _ _ (.flat rel .refl (.int _)) wp⟩)
  | [.bl i], br, wp =>
    obtain ⟨x, rfl, b⟩ := brs1 br
    cases b.bl
    exact call_int1 pins s σ H _ us Q I r (.inr ⟨i, rfl, fin _ _ _ _ (.flat rel .refl (.int _)) wp⟩)
theorem cb_str (hX : XOk X k) : CallR X (.type "str") (rBlt k (bltP .str)) := by
  intro pins s σ H xs us Q I r ⟨ρ, σ', F, ds, QQ, rel, br, wp, fin⟩
  match ds, br, wp with
  | [.int i], br, wp =>
    obtain ⟨x, rfl, b⟩ := brs1 br
    cases b.int
    exact call_str_int pins s σ H _ us Q I r ⟨i, rfl, wp.1, fin _ _ _ _ (.flat rel .refl (.str _)) wp.2⟩
theorem ints_pys {ds : List D} : ∀ {is : List Int}, ints? ds = some is → D.pys ds = is.map .int := by
  induction ds with
  | nil => intro is h; simp only [ints?, Option.some.injEq] at h; subst h; rfl
  | cons d ds ih =>
    intro is h
    cases d <;> simp only [ints?, Option.map_eq_some_iff, reduceCtorEq] at h
    obtain ⟨js, h1, rfl⟩ := h
    simp only [D.pys, ih h1, List.map_cons, D.py]
theorem ints_lay : ∀ is : List Int, PyData.canLayAll0 (is.map PyData.int) = true ∧ PyData.depthAll (is.map PyData.int) = 0
  | [] => ⟨rfl, rfl⟩
  | i :: is => by
    obtain ⟨h1, h2⟩ := ints_lay is
    simp [PyData.canLayAll0, PyData.canLay0, PyData.depthAll, PyData.depth, h1, h2]
theorem ints_alike (is : List Int) : PySem.W.AlikeAll (is.map PyData.int) := by
  refine ⟨fun x hx y hy => ?_, fun x hx => ?_⟩
  · obtain ⟨i, _, rfl⟩ := List.mem_map.mp hx
    obtain ⟨j, _, rfl⟩ := List.mem_map.mp hy
    rfl
  · obtain ⟨i, _, rfl⟩ := List.mem_map.mp hx
    simp
/-- the data of a list or tuple of ints -/
theorem seq_ints {pins : List (Addr × Obj)} {s : Shared} {σ : L2.St} {F H : Hp} {x : V} {u : Value} {ds : List D} {is : List Int} {isT : Bool} (hK : k.K = X.K) (I : Inv X pins σ H s) (sub : Same F H) (br : BR k F H x (if isT then .tup ds else .lst ds)) (ru : RelV x u)
    (hi : ints? ds = some is) : ∃ a its as, u = .ref a ∧ (if isT then s.heap.IsTuple a its else s.heap.IsList a its) ∧ ReadsAll s.heap its.toList (is.map .int) as := by
  have ep := ints_pys hi
  have lay := (ints_lay is).1
  cases isT with
  | false =>
    obtain ⟨a, vs, rfl, t, q⟩ := br.lst sub
    cases ru
    obtain ⟨its, r', pl, hz⟩ := I.list (.of t)
    have dp := (q.mono sub).dp (by rw [ep]; exact lay)
    rw [ep, hK] at dp
    obtain ⟨as, ra⟩ := Dp.readsAll I _ _ its dp r'
    exact ⟨a, its.toArray, as, rfl, pl.isList, by simpa using ra⟩
  | true =>
    obtain ⟨a, vs, rfl, t, q⟩ := br.tup
    cases ru
    have sq := (t.mono sub).sq
    rw [hK] at sq
    obtain ⟨its, r', pl, hz⟩ := I.tuple sq
    have dp := (q.mono sub).dp (by rw [ep]; exact lay)
    rw [ep, hK] at dp
    obtain ⟨as, ra⟩ := Dp.readsAll I _ _ its dp r'
    exact ⟨a, its.toArray, as, rfl, pl, by simpa using ra⟩
theorem read_int {h : Heap} {v : Value} {i : Int} {bs : List Addr} (r : Reads h v (.int i) bs) : RelV (.int i) v := by
  cases r
  exact ⟨_, rfl⟩
theorem cb_min (hX : XOk X k) : CallR X (.builtin "min") (rBlt k (bltP .min)) := by
  intro pins s σ H xs us Q I r ⟨ρ, σ', F, ds, QQ, rel, br, wp, fin⟩
  have hh := I.ok.hd hX.calm
  have un := hX.room.un
  match ds, br, wp with
  | [.int i, .int j], br, wp =>
    obtain ⟨x, y, rfl, b, c⟩ := brs2 br
    cases b.int; cases c.int
    exact call_min2 hX.calm pins s σ H _ us Q I r ⟨i, j, rfl, fin _ _ _ _ (.flat rel .refl (.int _)) wp⟩
  | [.lst xs], br, wp =>
    obtain ⟨x, rfl, b⟩ := brs1 br
    obtain ⟨is, h1, h2, h3⟩ := wp
    obtain ⟨u, rfl, ru⟩ := vals1 r
    obtain ⟨a, its, as, rfl, hl, ra⟩ := seq_ints (isT := false) hX.K I rel.sub b ru h1
    match is, h2 with
    | i :: is, _ =>
      refine PySem.W.min_list_data (x := .int i) (xs := is.map .int) hh hl (by simpa using ra) (ints_alike (i :: is)) ?_ fun _ v h' tk bs _ rd hk => ?_
      · have := (ints_lay (i :: is)).2
        simp only [List.map_cons] at this
        rw [this]; omega
      · rw [PySem.W.minD_ints] at rd
        exact ⟨_, H, I.kept hk, read_int rd, fin _ _ _ _ (.flat rel .refl (.int _)) h3⟩
  | [.tup xs], br, wp =>
    obtain ⟨x, rfl, b⟩ := brs1 br
    obtain ⟨is, h1, h2, h3⟩ := wp
    obtain ⟨u, rfl, ru⟩ := vals1 r
    obtain ⟨a, its, as, rfl, hl, ra⟩ := seq_ints (isT := true) hX.K I rel.sub b ru h1
    match is, h2 with
    | i :: is, _ =>
      refine PySem.W.min_tuple_data (x := .int i) (xs := is.map .int) hh hl (by simpa using ra) (ints_alike (i :: is)) ?_ fun _ v h' tk bs _ rd hk => ?_
      · have := (ints_lay (i :: is)).2
        simp only [List.map_cons] at this
        rw [this]; omega
      · rw [PySem.W.minD_ints] at rd
        exact ⟨_, H, I.kept hk, read_int rd, fin _ _ _ _ (.flat rel .refl (.int _)) h3⟩
theorem cb_max (hX : XOk X k) : CallR X (.builtin "max") (rBlt k (bltP .max)) := by
  intro pins s σ H xs us Q I r ⟨ρ, σ', F, ds, QQ, rel, br, wp, fin⟩
  have hh := I.ok.hd hX.calm
  have un := hX.room.un
  match ds, br, wp with
  | [.int i, .int j], br, wp =>
    obtain ⟨x, y, rfl, b, c⟩ := brs2 br
    cases b.int; cases c.int
    exact call_max2 hX.calm pins s σ H _ us Q I r ⟨i, j, rfl, fin _ _ _ _ (.flat rel .refl (.int _)) wp⟩
  | [.lst xs], br, wp =>
    obtain ⟨x, rfl, b⟩ := brs1 br
    obtain ⟨is, h1, h2, h3⟩ := wp
    obtain ⟨u, rfl, ru⟩ := vals1 r
    obtain ⟨a, its, as, rfl, hl, ra⟩ := seq_ints (isT := false) hX.K I rel.sub b ru h1
    match is, h2 with
    | i :: is, _ =>
      refine PySem.W.max_list_data (x := .int i) (xs := is.map .int) hh hl (by simpa using ra) (ints_alike (i :: is)) ?_ fun _ v h' tk bs _ rd hk => ?_
      · have := (ints_lay (i :: is)).2
        simp only [List.map_cons] at this
        rw [this]; omega
      · rw [PySem.W.maxD_ints] at rd
        exact ⟨_, H, I.kept hk, read_int rd, fin _ _ _ _ (.flat rel .refl (.int _)) h3⟩
  | [.tup xs], br, wp =>
    obtain ⟨x, rfl, b⟩ := brs1 br
    obtain ⟨is, h1, h2, h3⟩ := wp
    obtain ⟨u, rfl, ru⟩ := vals1 r
    obtain ⟨a, its, as, rfl, hl, ra⟩ := seq_ints (isT := true) hX.K I rel.sub b ru h1
    match is, h2 with
    | i :: is, _ =>
      refine PySem.W.max_tuple_data (x := .int i) (xs := is.map .int) hh hl (by simpa using ra) (ints_alike (i :: is)) ?_ fun _ v h' tk bs _ rd hk => ?_
      · have := (ints_lay (i :: is)).2
        simp only [List.map_cons] at this
        rw [this]; omega
      · rw [PySem.W.maxD_ints] at rd
        exact ⟨_, H, I.kept hk, read_int rd, fin _ _ _ _ (.flat rel .refl (.int _)) h3⟩
/-! ### tuple(..), list(..), range(..) -/
theorem rs_rng {F : Hp} (lo hi : Int) : Rs k F (rgV lo hi) (rngL lo hi) := by
  unfold rgV rngL
  induction List.range (hi - lo).toNat with
  | nil => exact .nil
  | cons n l ih => exact .cons (.int _) ih
theorem rng_at {pins : List (Addr × Obj)} {s : Shared} {σ : L2.St} {H : Hp} {a : Addr} {lo hi : Int} (I : Inv X pins σ H s) (h : H a = some (.rng lo hi)) : ∃ t u v, IsRange s.heap a lo hi 1 t u v := by
  obtain ⟨t, u, v, e⟩ : ObjOk X.prog X.w H s.heap a (.rng lo hi) := I.hok a _ h
  exact ⟨t, u, v, e⟩
theorem cb_tuple (hX : XOk X k) : CallR X (.type "tuple") (rBlt k (bltP .tuple)) := by
  intro pins s σ H xs us Q I r ⟨ρ, σ', F, ds, QQ, rel, br, wp, fin⟩
  have hK := hX.K
  match ds, br, wp with
  | [.lst xs], br, wp =>
    obtain ⟨x, rfl, b⟩ := brs1 br
    obtain ⟨a, vs, rfl, t, q⟩ := b.lst rel.sub
    exact tuple_ofF pins s σ H _ us Q I r ⟨a, vs, rfl, .inl ⟨.of t, newT rel q fun v F' H' p => fin _ _ _ _ p wp⟩⟩
  | [.tup xs], br, wp =>
    obtain ⟨x, rfl, b⟩ := brs1 br
    obtain ⟨a, vs, rfl, t, q⟩ := b.tup
    have sq := (t.mono rel.sub).sq
    rw [hK] at sq
    exact tuple_ofF pins s σ H _ us Q I r ⟨a, vs, rfl, .inr ⟨sq, fin _ _ _ _ (.flat rel .refl (.tup t q)) wp⟩⟩
  | [.rng lo hi], br, wp =>
    obtain ⟨x, rfl, b⟩ := brs1 br
    obtain ⟨a, rfl, t, ⟨l1, l2⟩, h1, h2⟩ := b.rng
    obtain ⟨u, rfl, ru⟩ := vals1 r
    cases ru
    obtain ⟨hn, q⟩ := wp
    obtain ⟨t1, t2, t3, hr⟩ := rng_at I (rel.sub _ _ t)
    refine call_tuple_range (n := (hi - lo).toNat) (I.ok.hd hX.calm) hr (small_one l1 l2 h1 h2) (rangeSize_nat lo hi) hn fun h' tk acc hk hi' => ?_
    have I2 : Inv X pins σ H { s with heap := h', toks := tk } := I.kept hk
    have hz : (rgV lo hi).length ≤ sizeLine := by rw [rgV_length, sizeLine_eq]; omega
    have I3 := laidT (t' := tk) I2 (vals_rg hi') hz
    have e : (acc.toList.toArray : Array Value) = acc := by simp
    unfold tupObj at I3
    rw [e] at I3
    exact ⟨.ref h'.objs.size, _, I3, rfl, newT rel (rs_rng lo hi) (fun v F' H' p => fin _ _ _ _ p q) _ _ (I2.hok.fresh (Nat.le_refl _)) rfl⟩
theorem rk_keys {F : Hp} : ∀ {es : List DictEntry} {kvs : List (D × D)}, RKs k F es kvs → ∃ vs, Rs k F vs (kvs.map (·.1)) ∧ Vals vs (es.map (·.key))
  | _, _, .nil => ⟨[], .nil, .nil⟩
  | _, _, .cons r1 r2 _ _ _ _ _ r => by
    obtain ⟨vs, h1, h2⟩ := rk_keys r
    exact ⟨_ :: vs, .cons r2 h1, .cons r1 h2⟩
theorem cb_list (hX : XOk X k) : CallR X (.type "list") (rBlt k (bltP .list)) := by
  intro pins s σ H xs us Q I r ⟨ρ, σ', F, ds, QQ, rel, br, wp, fin⟩
  have hK := hX.K
  match ds, br, wp with
  | [.lst xs], br, wp =>
    obtain ⟨x, rfl, b⟩ := brs1 br
    obtain ⟨a, vs, rfl, t, q⟩ := b.lst rel.sub
    exact call_list_of pins s σ H _ us Q I r ⟨a, vs, rfl, .inl (.of t), fun l hn => fin _ _ _ _ (.newL rel .refl hn q) wp⟩
  | [.tup xs], br, wp =>
    obtain ⟨x, rfl, b⟩ := brs1 br
    obtain ⟨a, vs, rfl, t, q⟩ := b.tup
    have sq := (t.mono rel.sub).sq
    rw [hK] at sq
    exact call_list_of pins s σ H _ us Q I r ⟨a, vs, rfl, .inr sq, fun l hn => fin _ _ _ _ (.newL rel .refl hn q) wp⟩
  | [.rng lo hi], br, wp =>
    obtain ⟨x, rfl, b⟩ := brs1 br
    obtain ⟨a, rfl, t, ⟨l1, l2⟩, h1, h2⟩ := b.rng
    obtain ⟨u, rfl, ru⟩ := vals1 r
    cases ru
    obtain ⟨hn, q⟩ := wp
    obtain ⟨t1, t2, t3, hr⟩ := rng_at I (rel.sub _ _ t)
    refine call_list_range (n := (hi - lo).toNat) (I.ok.hd hX.calm) hr (small_one l1 l2 h1 h2) (rangeSize_nat lo hi) hn fun h' tk acc c' hk e' hi' => ?_
    refine ⟨.ref s.heap.objs.size, upd H s.heap.objs.size (.lst (rgV lo hi)), I.laid hk (Nat.le_refl _) (show ObjOk X.prog X.w _ _ _ (.lst (rgV lo hi)) from ⟨?_, acc.toList, c', vals_rg hi', ?_⟩), rfl, fin _ _ _ _ (.newL rel .refl (I.hok.fresh (Nat.le_refl _)) (rs_rng lo hi)) q⟩
    · rw [rgV_length, sizeLine_eq]; omega
    · rw [Array.toArray_toList]; exact e'
  | [.dct kvs], br, wp =>
    obtain ⟨x, rfl, b⟩ := brs1 br
    obtain ⟨a, es, rfl, g1, g2, g3, g4⟩ := b.dct rel.sub
    obtain ⟨u, rfl, ru⟩ := vals1 r
    cases ru
    obtain ⟨o, ep, h1, h2, h3, h4, h5⟩ := dct_at I g1
    refine PySem.W.kdl_call (kdl_raw h4 h2 h3) (I.ok.hd hX.calm) h1 (by simpa using h5) fun h' tk acc' c' kp e it => ?_
    obtain ⟨vs, q1, q2⟩ := rk_keys g2
    have ea : acc'.toList = es.map (·.key) := by
      have hl : acc'.toList.length = es.length := by rw [Array.length_toList, it.1]; simp
      apply List.ext_getElem?
      intro j
      rw [List.getElem?_map]
      cases hj : acc'.toList[j]? with
      | none =>
        have := List.getElem?_eq_none_iff.mp hj
        rw [List.getElem?_eq_none (by omega)]
        rfl
      | some v =>
        obtain ⟨en, hen, hv⟩ := it.2 j v (by rw [← Array.getElem?_toList]; exact hj)
        have hen : es[j]? = some en := by simpa using hen
        rw [hen, hv]; rfl
    refine ⟨.ref s.heap.objs.size, upd H s.heap.objs.size (.lst vs), I.laid (t' := tk) kp (Nat.le_refl _) (show ObjOk X.prog X.w _ _ _ (.lst vs) from ⟨?_, acc'.toList, c', by rw [ea]; exact q2, ?_⟩), rfl, fin _ _ _ _ (.newL rel .refl (I.hok.fresh (Nat.le_refl _)) q1) wp⟩
    · rw [q1.length, List.length_map, ← g2.length]; exact h5
    · rw [Array.toArray_toList]; exact e
/-! ### isinstance -/
def tyName : Ty → String
  | .bool => "bool"
  | .int => "int"
  | .str => "str"
  | .tuple => "tuple"
  | .list => "list"
  | .dict => "dict"
def tyOfD : D → String
  | .bl _ => "bool"
  | .int _ => "int"
  | .str _ => "str"
  | .tup _ => "tuple"
  | .lst _ => "list"
  | _ => "NoneType"
theorem tyx_of {ρ : PEnv} {σ : L2.St} {F H : Hp} {x : V} {d : D} (hK : k.K = X.K) (rel : Rel k ρ σ F H) (b : BR k F H x d) (h : hasTy d = true) : TyX X.K H x (.type (tyOfD d)) := by
  cases d <;> first | (simp [hasTy] at h; done) | skip
  · cases b.non; exact .base .non
  · cases b.bl; exact .base (.bl _)
  · cases b.int; exact .base (.int _)
  · cases b.str; exact .base (.str _)
  · obtain ⟨a, vs, rfl, t, q⟩ := b.tup
    rcases t.mono rel.sub with ⟨o, ho, _⟩ | ⟨o, its, n, h1, h2, _⟩
    · exact .fTuple ho
    · rw [hK] at h1; exact .kTuple h1 h2
  · obtain ⟨a, vs, rfl, t, q⟩ := b.lst rel.sub
    exact .base (.lst t)
theorem kit_all (K : PySem.W.Frag) (d : D) (h : hasTy d = true) (t : Ty) : PySem.W.kitOne K (.type (tyOfD d)) (.type (tyName t)) = some (isTy t d) := by
  cases d <;> first | (simp [hasTy] at h; done) | skip
  all_goals cases t <;> (simp only [tyOfD, tyName, isTy]; exact kit_ty (by decide +kernel))
theorem cb_isi (hX : XOk X k) (t : Ty) : CallR X (.builtin "isinstance") (fun xs H Q => ∃ ρ σ F d x, Rel k ρ σ F H ∧ BR k F H x d ∧ xs = [x, .ty (tyName t)] ∧ hasTy d = true ∧ Q (.bl (isTy t d)) H) := by
  intro pins s σ H xs us Q I r ⟨ρ, σ', F, d, x, rel, br, e, ht, q⟩
  exact call_isi pins s σ H xs us Q I r ⟨x, .ty (tyName t), _, _, _, e, .ty _, tyx_of hX.K rel br ht, kit_all X.K d ht t, q⟩
end
end PL
/-! PL10: calls; the statements' reading: stores, sequence, if, return. -/
namespace PL
open PySem PySem.Spec PyProof.Rows L2

/-- a call has ended -/
structure CPost (k : RC) (F0 H0 : Hp) (r : RV) (dr : Nat) (v : V) (F H : Hp) : Prop where
  ins : Same F H
  sub : Same F0 F
  heap : SameX k H0 H
  there : ∀ a, H0 a ≠ none → H a ≠ none
  vis : ∀ a, H0 a ≠ none → F a = F0 a
  pool : PoolOk k F H dr
  res : RR k H0 F H v r
/-- a promise over plain data as a promise of the hand layer -/
def lift (K : PySem.W.Frag) (w : World) (sp : Spec) : Sp := fun vs H Q _ => ∃ (P : Option (Addr × Addr × Addr)) (F : Hp) (ds : List D) (dr : Nat) (QQ : RV → Nat → Prop),
  Same F H ∧ PoolOk ⟨K, w, P⟩ F H dr ∧ Rs ⟨K, w, P⟩ F vs ds ∧ sp ds dr QQ (fun _ _ => False) ∧ ∀ r dr' v F' H', CPost ⟨K, w, P⟩ F H r dr' v F' H' → QQ r dr' → Q v H'
section
variable {X : Cx} {k : RC} {C : PC}
theorem qe_call (hX : XOk X k) {f i j : Nat} {x : Str} {e : Expr} {es : List Expr} {ies : IE} {p pos : Pos} (c : C8.Cal X.prog X.w X.K X.mg X.base i x (lift X.K X.w (C.sp f)) []) (hr : Room j X.A) (hij : i ≤ j) (hg : Gl X x) (hxe : C.xe = fun _ _ => False)
    (ha : PA X (e :: es) (tA C k false ies)) (hdb : (x == ("__debug__" : Str)) = false) (he : starEach (e :: es) X.env = (false, eval e X.env) :: starEach es X.env) (hpl : (backTo pos (starEach es X.env)).any (·.1) = false) :
    PE X (.Call (.Name x p) (e :: es) [] pos) (tE C k (.call f ies)) :=
  weak (C8.pe_c c hr hij hg ha hdb he hpl) fun σ H Q ⟨ρ, F, QQ, rel, wp, fin⟩ => ⟨ρ, F, _, rel, wp, fun ds ρ1 vs F1 H1 rel1 tr1 a1 q1 => by
    have hk : (⟨X.K, X.w, k.P⟩ : RC) = k := by rw [← hX.K, ← hX.w]
    have a1 : Rs k F1 vs ds := a1
    rw [hxe] at q1
    refine ⟨k.P, F1, ds, ρ1.dr, _, rel1.sub, ?_, ?_, q1, fun r dr' v F' H' cp q => ?_⟩
    · rw [hk]; exact rel1.pool
    · rw [hk, List.append_nil]; exact a1
    · rw [hk] at cp
      have rel2 : Rel k ⟨ρ1.sl, dr'⟩ σ F' H' := rel1.grow cp.sub cp.ins cp.heap cp.vis cp.pool
      have p2 : EPost k ρ1 σ F1 H1 r v ⟨ρ1.sl, dr'⟩ F' H' := ⟨rel2, .grow cp.sub cp.heap cp.there cp.vis, cp.res⟩
      exact fin _ _ _ _ _ ((⟨rel1, tr1, .non⟩ : EPost k ρ σ F H (.val .non) .non ρ1 F1 H1).then p2) q⟩
end

/-! ### slots written -/
section
variable {k : RC} {ρ ρ' ρ1 ρ2 : PEnv} {σ σ' : L2.St} {F F1 F' F0 H H1 H' H0 G : Hp} {v : V} {d : D} {r : RV} {a : Addr} {i : Nat} {s : SV}
theorem put_oob (hi : ¬ i < ρ.sl.length) : ρ.put i s = ρ := by
  cases ρ
  unfold PEnv.put
  rw [List.set_eq_of_length_le (by simpa using hi)]
theorem Rel.store (h : Rel k ρ σ F H) (hs : SlotR k F H (some (some v)) s) (hn : s.plain = false → ∀ a, v = .ref a → ∀ j, ¬ OwnAt ρ σ j a) :
    Rel k (ρ.put i s) (σ.set i (some v)) F H ∧ ∀ j a, OwnAt (ρ.put i s) (σ.set i (some v)) j a → OwnAt ρ σ j a ∨ (s.plain = false ∧ v = .ref a ∧ j = i) := by
  by_cases hi : i < ρ.sl.length
  · have hi' : i < σ.length := by rw [← h.len]; exact hi
    have gs : (σ.set i (some v))[i]? = some (some v) := List.getElem?_set_self hi'
    have gn : ∀ j, j ≠ i → (σ.set i (some v))[j]? = σ[j]? := fun j e => List.getElem?_set_ne (Ne.symm e)
    have ow : ∀ j a, OwnAt (ρ.put i s) (σ.set i (some v)) j a → OwnAt ρ σ j a ∨ (s.plain = false ∧ v = .ref a ∧ j = i) := fun j a ⟨z1, z2⟩ => by
      rw [get_put hi] at z1
      by_cases e : j = i
      · subst e
        rw [if_pos rfl] at z1
        rw [gs] at z2
        cases z2
        exact .inr ⟨z1, rfl, rfl⟩
      · rw [if_neg e] at z1
        rw [gn j e] at z2
        exact .inl ⟨z1, z2⟩
    refine ⟨⟨by rw [put_len, List.length_set]; exact h.len, h.sub, fun j => ?_, fun j l a x y => ?_, h.pool⟩, ow⟩
    · rw [get_put hi]
      by_cases e : j = i
      · subst e; rw [if_pos rfl, gs]; exact hs
      · rw [if_neg e, gn j e]; exact h.slot j
    · rcases ow j a x with x | ⟨x1, x2, x3⟩
      · rcases ow l a y with y | ⟨y1, y2, y3⟩
        · exact h.inj j l a x y
        · exact absurd x (hn y1 a y2 j)
      · rcases ow l a y with y | ⟨y1, y2, y3⟩
        · exact absurd y (hn x1 a x2 l)
        · rw [x3, y3]
  · have hi' : ¬ i < σ.length := by rw [← h.len]; exact hi
    rw [put_oob hi, List.set_eq_of_length_le (by omega)]
    exact ⟨h, fun _ _ z => .inl z⟩
/-- a plain value -/
theorem Rel.put (h : Rel k ρ σ F H) (q : R k F v d) : Rel k (ρ.put i (.val d)) (σ.set i (some v)) F H ∧ ∀ j a, OwnAt (ρ.put i (.val d)) (σ.set i (some v)) j a → OwnAt ρ σ j a := by
  obtain ⟨h1, h2⟩ := h.store (i := i) (s := .val d) (v := v) ⟨v, rfl, q⟩ (fun z => by cases z)
  exact ⟨h1, fun j a z => (h2 j a z).elim id fun z => by cases z.1⟩
/-- slot i's own thing written -/
theorem Rel.write {o : HO} (h : Rel k ρ σ F H) (q : OwnAt ρ σ i a) (fa : F a = none) (np : ¬ inP' k a) (hs : SlotR k F (upd H a o) (some (some (.ref a))) s) :
    Rel k (ρ.put i s) σ F (upd H a o) ∧ (∀ j b, OwnAt (ρ.put i s) σ j b → OwnAt ρ σ j b) := by
  have hi : i < ρ.sl.length := get_lt fun z => by have := q.1; rw [z] at this; cases this
  have ow : ∀ j b, OwnAt (ρ.put i s) σ j b → OwnAt ρ σ j b := fun j b ⟨z1, z2⟩ => by
    by_cases e : j = i
    · subst e
      have := q.2.symm.trans z2
      cases this
      exact q
    · rw [get_put hi, if_neg e] at z1
      exact ⟨z1, z2⟩
  refine ⟨⟨by rw [put_len]; exact h.len, fun b u e => ?_, fun j => ?_, fun j l b x y => h.inj j l b (ow j b x) (ow l b y), fun p r c e => ?_⟩, ow⟩
  · rw [upd_ne (ne_of_none e fa)]; exact h.sub b u e
  · rw [get_put hi]
    by_cases e : j = i
    · subst e
      rw [if_pos rfl, q.2]
      exact hs
    · rw [if_neg e]
      have z := h.slot j
      cases eg : ρ.get j with
      | no => trivial
      | val d => rw [eg] at z; exact z
      | own xs =>
        rw [eg] at z; obtain ⟨b, e1, vs, e2, e3⟩ := z
        have ne : b ≠ a := fun y => e (h.inj j i a ⟨by rw [eg]; rfl, y ▸ e1⟩ q)
        exact ⟨b, e1, vs, (upd_ne ne).trans e2, e3⟩
      | owd xs =>
        rw [eg] at z; obtain ⟨b, e1, es, ⟨ob, ep, e2, er⟩, e3⟩ := z
        have ne : b ≠ a := fun y => e (h.inj j i a ⟨by rw [eg]; rfl, y ▸ e1⟩ q)
        exact ⟨b, e1, es, ⟨ob, ep, (upd_ne ne).trans e2, er⟩, e3⟩
  · obtain ⟨f, n, h1, ⟨rows, hr, h2⟩, m, hm, hm', h3⟩ := h.pool p r c e
    have w : ∀ b, (b = p ∨ b = r ∨ b = c) → b ≠ a := fun b z y => np ⟨p, r, c, e, y ▸ z⟩
    exact ⟨f, n, (upd_ne (w p (.inl rfl))).trans h1, ⟨rows, hr, (upd_ne (w r (.inr (.inl rfl)))).trans h2⟩, m, hm, hm', (upd_ne (w c (.inr (.inr rfl)))).trans h3⟩

/-! ### since a def's entry -/
structure STr (k : RC) (F0 H0 G : Hp) (ρ : PEnv) (σ : L2.St) (F H : Hp) : Prop where
  sub : Same F0 F
  heap : SameX k H0 H
  there : ∀ a, H0 a ≠ none → H a ≠ none
  vis : ∀ a, H0 a ≠ none → F a = F0 a
  own : ∀ i a, OwnAt ρ σ i a → H0 a = none
  mid : Same G F
theorem STr.next (t : STr k F0 H0 G ρ σ F H) (e : ETr k ρ σ F H ρ' F' H') : STr k F0 H0 G ρ' σ F' H' where
  sub := fun b o h => e.sub b o (t.sub b o h)
  heap := t.heap.trans e.heap
  there := fun a h => e.there a (t.there a h)
  vis := fun a h => (e.vis a (t.there a h) fun i z => h (t.own i a z)).trans (t.vis a h)
  own := fun i a z => t.own i a (e.own i a z)
  mid := fun b o h => e.sub b o (t.mid b o h)
theorem STr.slots (t : STr k F0 H0 G ρ σ F H) (h : ∀ j a, OwnAt ρ' σ' j a → H0 a = none) : STr k F0 H0 G ρ' σ' F H := ⟨t.sub, t.heap, t.there, t.vis, h, t.mid⟩
theorem STr.write {o : HO} (t : STr k F0 H0 G ρ σ F H) (q : H0 a = none) (h : ∀ j b, OwnAt ρ' σ j b → OwnAt ρ σ j b) : STr k F0 H0 G ρ' σ F (upd H a o) := by
  refine ⟨t.sub, fun b u e n => ?_, fun b hb => ?_, t.vis, fun j b z => t.own j b (h j b z), t.mid⟩
  · rw [upd_ne (ne_of_none e q)]; exact t.heap b u e n
  · rw [upd_ne (fun z => hb (by rw [z]; exact q))]; exact t.there b hb
theorem STr.post {r : RV} {dr : Nat} (t : STr k F0 H0 G ρ σ F H) (ins : Same F H) (pool : PoolOk k F H dr) (res : RR k H0 F H v r) : CPost k F0 H0 r dr v F H := ⟨ins, t.sub, t.heap, t.there, t.vis, pool, res⟩
/-- an expression's value to a slot -/
theorem EPost.slot {Q : SV → Prop} (h0 : Rel k ρ σ F H) (p : EPost k ρ σ F H r v ρ1 F1 H1) (h : r.slot Q) : ∃ s, Q s ∧ SlotR k F1 H1 (some (some v)) s ∧ (s.plain = false → ∀ a, v = .ref a → H a = none) := by
  have q := p.res
  cases r with
  | val d => exact ⟨_, h, ⟨v, rfl, q⟩, fun z => by cases z⟩
  | brw d => exact h.elim
  | own xs => obtain ⟨a, rfl, hn, o⟩ := q; exact ⟨_, h, ⟨a, rfl, o⟩, fun _ b e => by cases e; exact hn⟩
  | owd xs => obtain ⟨a, rfl, hn, o⟩ := q; exact ⟨_, h, ⟨a, rfl, o⟩, fun _ b e => by cases e; exact hn⟩
theorem EPost.store {i : Nat} {s : SV} (h0 : Rel k ρ σ F H) (t : STr k F0 H0 G ρ σ F H) (p : EPost k ρ σ F H r v ρ1 F1 H1) (hs : SlotR k F1 H1 (some (some v)) s) (hn : s.plain = false → ∀ a, v = .ref a → H a = none) :
    Rel k (ρ1.put i s) (σ.set i (some v)) F1 H1 ∧ STr k F0 H0 G (ρ1.put i s) (σ.set i (some v)) F1 H1 := by
  obtain ⟨x1, x2⟩ := p.rel.store (i := i) hs fun z a e j w => h0.ownH (p.tr.own j a w) (hn z a e)
  refine ⟨x1, (t.next p.tr).slots fun j a z => ?_⟩
  rcases x2 j a z with z | ⟨z1, z2, _⟩
  · exact (t.next p.tr).own j a z
  · exact none_back t.there (hn z1 a z2)
end

/-! ### statements -/
structure SEnds (k : RC) (F0 H0 G : Hp) (E : PEnds) (D : Ends) : Prop where
  nx : ∀ ρ σ F H, Rel k ρ σ F H → STr k F0 H0 G ρ σ F H → E.nx ρ → D.nx σ H
  bk : ∀ ρ σ F H, Rel k ρ σ F H → STr k F0 H0 G ρ σ F H → E.bk ρ → D.bk σ H
  ct : ∀ ρ σ F H, Rel k ρ σ F H → STr k F0 H0 G ρ σ F H → E.ct ρ → D.ct σ H
  rt : ∀ r dr v F H, CPost k F0 H0 r dr v F H → E.rt r dr → D.rt v H
def tS (C : PC) (k : RC) (b : IS) : TS := fun D σ H => ∃ ρ F F0 H0 G E, Rel k ρ σ F H ∧ STr k F0 H0 G ρ σ F H ∧ wpS C b ρ E ∧ SEnds k F0 H0 G E D
theorem weakS {X : Cx} {e : Stmt} {t t' : TS} (h : PS X e t) (w : ∀ D σ H, t' D σ H → t D σ H) : PS X e t' := ⟨fun pins s σ H D I q => h.run pins s σ H D I (w D σ H q)⟩
theorem weakSs {X : Cx} {e : List Stmt} {t t' : TS} (h : PSs X e t) (w : ∀ D σ H, t' D σ H → t D σ H) : PSs X e t' := ⟨fun pins s σ H D I q => h.run pins s σ H D I (w D σ H q)⟩
section
variable {X : Cx} {k : RC} {C : PC} {pos : Pos}
theorem qss_nil : PSs X [] (tS C k .skip) := weakSs pss_nil fun D σ H ⟨ρ, F, F0, H0, G, E, rel, tr, wp, en⟩ => en.nx _ _ _ _ rel tr wp
theorem qss_one {st : Stmt} {a : IS} (h : PS X st (tS C k a)) : PSs X [st] (tS C k a) := pss_one h
theorem qss_cons {st : Stmt} {rest : List Stmt} {a b : IS} (h1 : PS X st (tS C k a)) (h2 : PSs X rest (tS C k b)) : PSs X (st :: rest) (tS C k (.seq a b)) :=
  weakSs (pss_cons h1 h2) fun D σ H ⟨ρ, F, F0, H0, G, E, rel, tr, wp, en⟩ => ⟨ρ, F, F0, H0, G, _, rel, tr, wp, ⟨fun ρ' σ' F' H' rel' tr' wp' => ⟨ρ', F', F0, H0, G, E, rel', tr', wp', en⟩, en.bk, en.ct, en.rt⟩⟩
theorem qs_pass : PS X (.Pass pos) (tS C k .skip) := weakS ps_pass fun D σ H ⟨ρ, F, F0, H0, G, E, rel, tr, wp, en⟩ => en.nx _ _ _ _ rel tr wp
theorem qs_brk : PS X (.Break pos) (tS C k .brk) := weakS ps_break fun D σ H ⟨ρ, F, F0, H0, G, E, rel, tr, wp, en⟩ => en.bk _ _ _ _ rel tr wp
theorem qs_cnt : PS X (.Continue pos) (tS C k .cnt) := weakS ps_continue fun D σ H ⟨ρ, F, F0, H0, G, E, rel, tr, wp, en⟩ => en.ct _ _ _ _ rel tr wp
theorem qs_doc {x j pos pos'} : PS X (.Expr (.Constant (.str x) j pos) pos') (tS C k .skip) := weakS ps_doc fun D σ H ⟨ρ, F, F0, H0, G, E, rel, tr, wp, en⟩ => en.nx _ _ _ _ rel tr wp
theorem qs_ex {e : Expr} {ie : IE} (he : PE X e (tE C k ie)) (hs : swapsWith e none pos.line X.env = pure false) : PS X (.Expr e pos) (tS C k (.ex ie)) :=
  weakS (ps_expr he hs) fun D σ H ⟨ρ, F, F0, H0, G, E, rel, tr, wp, en⟩ => ⟨ρ, F, _, rel, wp, fun r ρ' v F' H' p q => en.nx _ _ _ _ p.rel (tr.next p.tr) q⟩
theorem qs_ret {e : Expr} {ie : IE} (he : PE X e (tE C k ie)) : PS X (.Return (some e) pos) (tS C k (.ret ie)) :=
  weakS (ps_ret he) fun D σ H ⟨ρ, F, F0, H0, G, E, rel, tr, wp, en⟩ => ⟨ρ, F, _, rel, wp, fun r ρ' v F' H' p q => by
    refine en.rt r _ v F' H' ((tr.next p.tr).post p.rel.sub p.rel.pool ?_) q
    have z := p.res
    cases r with
    | val d => exact z
    | brw d => exact z
    | own xs => obtain ⟨a, e, n, o⟩ := z; exact ⟨a, e, none_back tr.there n, o⟩
    | owd xs => obtain ⟨a, e, n, o⟩ := z; exact ⟨a, e, none_back tr.there n, o⟩⟩
theorem qs_ret0 : PS X (.Return none pos) (tS C k .ret0) :=
  weakS ps_retN fun D σ H ⟨ρ, F, F0, H0, G, E, rel, tr, wp, en⟩ => en.rt (.val .non) _ _ _ _ (tr.post rel.sub rel.pool (show R k F .non .non from .non)) wp
theorem qs_reto {e : Expr} {i : Nat} (he : PE X e (tVar i)) : PS X (.Return (some e) pos) (tS C k (.reto i)) :=
  weakS (ps_ret he) fun D σ H ⟨ρ, F, F0, H0, G, E, rel, tr, wp, en⟩ => by
    have wp : (match ρ.get i with | .own xs => E.rt (.own xs) ρ.dr | .owd kvs => E.rt (.owd kvs) ρ.dr | _ => False) := wp
    cases e : ρ.get i with
    | no => rw [e] at wp; exact wp.elim
    | val d => rw [e] at wp; exact wp.elim
    | own xs =>
      rw [e] at wp
      obtain ⟨a, h1, h2⟩ := slot_own rel e
      exact ⟨_, h1, en.rt _ _ _ _ _ (tr.post rel.sub rel.pool (show RR k H0 F H _ (.own xs) from ⟨a, rfl, tr.own i a ⟨by rw [e]; rfl, h1⟩, h2⟩)) wp⟩
    | owd xs =>
      rw [e] at wp
      obtain ⟨a, h1, h2⟩ := slot_owd rel e
      exact ⟨_, h1, en.rt _ _ _ _ _ (tr.post rel.sub rel.pool (show RR k H0 F H _ (.owd xs) from ⟨a, rfl, tr.own i a ⟨by rw [e]; rfl, h1⟩, h2⟩)) wp⟩
theorem qs_if {c : Expr} {a b : List Stmt} {ic : IE} {ia ib : IS} (hc : PT X c (tT C k ic)) (ha : PSs X a (tS C k ia)) (hb : PSs X b (tS C k ib)) : PS X (.If c a b pos) (tS C k (.ifs ic ia ib)) :=
  weakS (ps_if hc ha hb) fun D σ H ⟨ρ, F, F0, H0, G, E, rel, tr, wp, en⟩ => ⟨ρ, F, _, rel, wp, fun c ρ' F' H' rel' tr' q => by
    obtain ⟨c', ec, q⟩ := q
    cases ec
    cases c with
    | true => rw [brn_ite, if_pos rfl] at q; rw [if_pos rfl]; exact ⟨ρ', F', F0, H0, G, E, rel', tr.next tr', q, en⟩
    | false => rw [brn_ite, if_neg Bool.false_ne_true] at q; rw [if_neg Bool.false_ne_true]; exact ⟨ρ', F', F0, H0, G, E, rel', tr.next tr', q, en⟩⟩
theorem qs_set {i : Nat} {x : Str} {e : Expr} {ie : IE} {pos' : Pos} (hN : X.N.Nodup) (hi : X.N[i]? = some x) (hx : Loc X.env.scope x) (he : PE X e (tE C k ie)) (hs : swapsWith e (some (.Name x pos')) pos.line X.env = pure false) (hf : X.fn x = true ∨ X.env.scope.names.lookup x = some .local) :
    PS X (.Assign [.Name x pos'] e pos) (tS C k (.asg (.nm i) ie)) :=
  weakS (ps_set hN hi hx he hs hf) fun D σ H ⟨ρ, F, F0, H0, G, E, rel, tr, wp, en⟩ => ⟨ρ, F, _, rel, wp, fun r ρ' v F' H' p q => by
    obtain ⟨s, q1, q2, q3⟩ := p.slot rel q
    obtain ⟨x1, x2⟩ := p.store (i := i) rel tr q2 q3
    exact en.nx _ _ _ _ x1 x2 q1⟩
end
end PL
/-! PL11: a slot's own list or dict written; targets. -/
namespace PL
open PySem PySem.Spec PyProof.Rows L2
section
variable {X : Cx} {k : RC} {C : PC} {pos : Pos}
/-- where a slot's own list stands, all along an expression -/
theorem own_before {ρ ρ1 : PEnv} {σ : L2.St} {F F1 H H1 : Hp} {i : Nat} (rel : Rel k ρ σ F H) (h : (ρ.get i).isO = true) : ∃ a xs vs, ρ.get i = .own xs ∧ σ[i]? = some (some (.ref a)) ∧ H a = some (.lst vs) := by
  cases e : ρ.get i with
  | own xs =>
    obtain ⟨a, h1, vs, h2, _⟩ := slot_own rel e
    exact ⟨a, xs, vs, rfl, h1, h2⟩
  | _ => rw [e] at h; cases h
theorem own_after {ρ1 : PEnv} {σ : L2.St} {F1 H1 : Hp} {i : Nat} {a : Addr} {xs : List D} (rel1 : Rel k ρ1 σ F1 H1) (hi : σ[i]? = some (some (.ref a))) (e : ρ1.get i = .own xs) : OwnAt ρ1 σ i a ∧ OwnL k F1 H1 a xs := by
  obtain ⟨b, h1, h2⟩ := slot_own rel1 e
  have := hi.symm.trans h1
  cases this
  exact ⟨⟨by rw [e]; rfl, hi⟩, h2⟩
theorem owd_after {ρ1 : PEnv} {σ : L2.St} {F1 H1 : Hp} {i : Nat} {a : Addr} {xs : List (D × D)} (rel1 : Rel k ρ1 σ F1 H1) (hi : σ[i]? = some (some (.ref a))) (e : ρ1.get i = .owd xs) : OwnAt ρ1 σ i a ∧ OwnDk k F1 H1 a xs := by
  obtain ⟨b, h1, h2⟩ := slot_owd rel1 e
  have := hi.symm.trans h1
  cases this
  exact ⟨⟨by rw [e]; rfl, hi⟩, h2⟩
/-- the slot's own list becomes ys -/
theorem write_own {ρ : PEnv} {σ : L2.St} {F H F0 H0 G : Hp} {i : Nat} {a : Addr} {xs ys : List D} {ws : List V} (rel : Rel k ρ σ F H) (tr : STr k F0 H0 G ρ σ F H) (q : OwnAt ρ σ i a) (o : OwnL k F H a xs) (r : Rs k F ws ys) :
    Rel k (ρ.put i (.own ys)) σ F (upd H a (.lst ws)) ∧ STr k F0 H0 G (ρ.put i (.own ys)) σ F (upd H a (.lst ws)) ∧ OwnAt (ρ.put i (.own ys)) σ i a := by
  obtain ⟨vs, h1, h2, h3, h4⟩ := o
  have hi : i < ρ.sl.length := get_lt fun z => by have := q.1; rw [z] at this; cases this
  obtain ⟨x1, x2⟩ := rel.write (s := .own ys) (o := .lst ws) q h2 h3 ⟨a, rfl, ws, upd_same, h2, h3, r⟩
  exact ⟨x1, tr.write (tr.own i a q) x2, by rw [get_put hi, if_pos rfl]; rfl, q.2⟩
theorem write_owd {ρ : PEnv} {σ : L2.St} {F H F0 H0 G : Hp} {i : Nat} {a : Addr} {xs ys : List (D × D)} {es : List DictEntry} {o' : Obj} (rel : Rel k ρ σ F H) (tr : STr k F0 H0 G ρ σ F H) (q : OwnAt ρ σ i a) (o : OwnDk k F H a xs) (da : DctAt (upd H a (exO a o')) a es)
    (r : RKs k F es ys) (n : (ys.map fun p => nk p.1).Nodup) (u : ∀ p ∈ ys, ∀ q ∈ ys, scal p.1 = scal q.1) :
    Rel k (ρ.put i (.owd ys)) σ F (upd H a (exO a o')) ∧ STr k F0 H0 G (ρ.put i (.owd ys)) σ F (upd H a (exO a o')) := by
  obtain ⟨vs, h1, h2, h3, h4⟩ := o
  obtain ⟨x1, x2⟩ := rel.write (s := .owd ys) (o := exO a o') q h2 h3 ⟨a, rfl, es, da, h2, h3, r, n, u⟩
  exact ⟨x1, tr.write (tr.own i a q) x2⟩
theorem qs_app {i : Nat} {eo e : Expr} {ie : IE} {apos cpos : Pos} (ho : PE X eo (tVar i)) (he : PE X e (tE C k ie)) (hsw : swapsWith (.Call (.Attribute eo "append" apos) [e] [] cpos) none pos.line X.env = pure false)
    (hbase : attributeBase eo "append" X.env (eval eo X.env) = eval eo X.env)
    (hfew : ((backTo cpos (starEach [e] X.env)).all (fun x => !x.1) && (backToKw cpos (keywordEach [] X.env)).all (fun x => x.1.isSome)
      && decide ([e].length + ([] : List Keyword).length + (if ([] : List Keyword).isEmpty then 0 else 1) < 30)) = true)
    (hline : (apos.endLine == cpos.line) = true) (hs : starEach [e] X.env = (false, eval e X.env) :: starEach [] X.env) :
    PS X (.Expr (.Call (.Attribute eo "append" apos) [e] [] cpos) pos) (tS C k (.app i ie)) :=
  weakS (ps_expr (pe_bm (id := "list.append") F.plainAttrs_list F.slot_list_append F.type_list_append mt_append ho (pa_cons he pa_nil hs) hbase hfew hline hs rfl) hsw) fun D σ H ⟨ρ, F, F0, H0, G, E, rel, tr, ⟨w0, wp⟩, en⟩ => by
    obtain ⟨a, xs0, vs0, e0, hi, hv0⟩ := own_before (ρ1 := ρ) (F1 := F) (H1 := H) rel w0
    refine ⟨_, hi, .inl ⟨rfl, vs0, .of hv0⟩, ρ, F, _, rel, wp, fun r ρ1 v F1 H1 p q => ?_⟩
    obtain ⟨d, F2, q, e2, rd, rel2, tr2⟩ := p.keep rel q
    obtain ⟨xs, q1, q2, q3⟩ := q
    obtain ⟨o1, o2⟩ := own_after rel2 hi q1
    obtain ⟨vs, v1, v2, v3, v4⟩ := id o2
    refine ⟨a, vs, v, rfl, rfl, v1, by rw [v4.length]; exact q2, ?_⟩
    obtain ⟨x1, x2, _⟩ := write_own rel2 (tr.next tr2) o1 o2 (v4.append (.cons rd .nil))
    exact en.nx _ _ _ _ x1 x2 q3
/-- o[i] = v -/
def rSet (X : Cx) (k : RC) : TSet := fun o i v H Q => rSetL o i v H Q ∨ ∃ a es F kvs kd vd, o = .ref a ∧ Same F H ∧ DctAt H a es ∧ RKs k F es kvs ∧ (kvs.map fun p => nk p.1).Nodup ∧ R k F i kd ∧ keyOk kvs kd = true ∧ kvs.length < sizeLine ∧ R k F v vd ∧
  ∀ es' o', DctAt (upd H a (exO a o')) a es' → RKs k F es' (putD kvs kd vd) → ((putD kvs kd vd).map fun p => nk p.1).Nodup → (∀ p ∈ putD kvs kd vd, ∀ q ∈ putD kvs kd vd, scal p.1 = scal q.1) → Q (upd H a (exO a o'))
theorem set_any (hX : XOk X k) : PSet X (rSet X k) := by
  intro pins s σ H o i v ov iv u Q I ro ri rv h
  rcases h with h | ⟨a, es, F, kvs, kd, vd, rfl, sub, da, rk, nd, rkd, ok, hz, rvd, fin⟩
  · exact set_list pins s σ H o i v ov iv u Q I ro ri rv h
  · cases ro
    exact d_set hX I sub da rk nd rkd ri ok hz rv rvd fun s' es' o' I' d1 d2 d3 d4 => ⟨_, I', fin es' o' d1 d2 d3 d4⟩
theorem qs_asgS (hX : XOk X k) {i : Nat} {eo ek e : Expr} {ik ie : IE} {tp : Pos} (ho : PE X eo (tVar i)) (hk : PE X ek (tE C k ik)) (he : PE X e (tE C k ie))
    (ha : ∀ v, assign (.Subscript eo ek tp) X.env v = (do
      let ov ← holding [v] (eval eo X.env)
      let iv ← holding [v, ov] (eval ek X.env)
      standAt tp
      holding [v, ov, iv] (setItem ov iv v)
      release [v, ov, iv] []))
    (hs : swapsWithSole [.Subscript eo ek tp] e pos.line X.env = pure false) (hw : swappedStores [.Subscript eo ek tp] e X.env = pure none) (h1 : (assignEach [.Subscript eo ek tp] X.env).map (·.2) = [assign (.Subscript eo ek tp) X.env]) :
    PS X (.Assign [.Subscript eo ek tp] e pos) (tS C k (.asgS i ik ie)) :=
  weakS (ps_asg he (pg_sub ho hk (set_any hX) ha) hs hw h1) fun D σ H ⟨ρ, F, F0, H0, G, E, rel, tr, wp, en⟩ => ⟨ρ, F, _, rel, wp, fun r ρ1 v F1 H1 p q => by
    obtain ⟨d, F2, q, e2, rd, rel2, tr2⟩ := p.keep rel q
    -- the slot holds its own thing all along
    have key : ∃ o, σ[i]? = some (some o) ∧ tE C k ik σ H1 (fun i' H2 => rSet X k o i' v H2 fun H3 => D.nx σ H3) := by
      have hh : ∀ o, σ[i]? = some (some o) → tE C k ik σ H1 (fun i' H2 => rSet X k o i' v H2 fun H3 => D.nx σ H3) := fun o ho => by
        refine ⟨ρ1, F2, _, rel2, q.2, fun kr ρ2 kv F3 H2 pk q => ?_⟩
        cases e : ρ2.get i with
        | no => rw [e] at q; exact q.elim
        | val d => rw [e] at q; exact q.elim
        | own xs =>
          rw [e] at q
          obtain ⟨n, j, q1, q2, q3⟩ := q
          obtain ⟨a, h1, _⟩ := slot_own pk.rel e
          have := ho.symm.trans h1
          cases this
          obtain ⟨o1, o2⟩ := own_after pk.rel h1 e
          obtain ⟨vs, v1, v2, v3, v4⟩ := id o2
          have l := pk.lent
          rw [q1] at l
          obtain ⟨x1, x2, _⟩ := write_own pk.rel ((tr.next tr2).next pk.tr) o1 o2 (v4.set j (rd.mono pk.tr.sub))
          exact .inl ⟨a, vs, n, j, rfl, l.int, v1, by rw [v4.length]; exact q2, en.nx _ _ _ _ x1 x2 q3⟩
        | owd kvs =>
          rw [e] at q
          obtain ⟨kd, F4, ⟨q1, q2, q3⟩, e5, rk, rel4, tr4⟩ := pk.keep rel2 q
          obtain ⟨a, h1, _⟩ := slot_owd rel4 e
          have := ho.symm.trans h1
          cases this
          obtain ⟨o1, o2⟩ := owd_after rel4 h1 e
          obtain ⟨es, d1, d2, d3, d4, d5, d6⟩ := id o2
          refine .inr ⟨a, es, F4, kvs, kd, d, rfl, rel4.sub, d1, d4, d5, rk, q1, q2, rd.mono tr4.sub, fun es' o' g1 g2 g3 g4 => ?_⟩
          obtain ⟨x1, x2⟩ := write_owd rel4 ((tr.next tr2).next tr4) o1 o2 g1 g2 g3 g4
          exact en.nx _ _ _ _ x1 x2 q3
      obtain ⟨m, hm⟩ : ∃ m, σ[i]? = some (some m) := by
        obtain ⟨b, h1, _⟩ := SlotR.here (x := none) (rel2.slot i) q.1
        exact ⟨_, h1⟩
      exact ⟨m, hm, hh m hm⟩
    exact key⟩
/-! ### line = line + (left.pop(..),) -/
theorem qs_popT {i j : Nat} {x : Str} {ek eo e : Expr} {ie : IE} {px bp tp apos cpos : Pos} {kk : Nat} (hX : XOk X k) (hN : X.N.Nodup) (hj : X.N[j]? = some x) (hx : Loc X.env.scope x) (hf : X.fn x = true ∨ X.env.scope.names.lookup x = some .local)
    (hk : PE X ek (tVar j)) (ho : PE X eo (tVar i)) (he : PE X e (tE C k ie))
    (hsw : swapsWith (.BinOp ek .Add (.Tuple [.Call (.Attribute eo "pop" apos) [e] [] cpos] kk tp) bp) (some (.Name x px)) pos.line X.env = pure false)
    (hbase : attributeBase eo "pop" X.env (eval eo X.env) = eval eo X.env)
    (hfew : ((backTo cpos (starEach [e] X.env)).all (fun x => !x.1) && (backToKw cpos (keywordEach [] X.env)).all (fun x => x.1.isSome)
      && decide ([e].length + ([] : List Keyword).length + (if ([] : List Keyword).isEmpty then 0 else 1) < 30)) = true)
    (hline : (apos.endLine == cpos.line) = true) (hs : starEach [e] X.env = (false, eval e X.env) :: starEach [] X.env)
    (hs2 : starEach [.Call (.Attribute eo "pop" apos) [e] [] cpos] X.env = (false, eval (.Call (.Attribute eo "pop" apos) [e] [] cpos) X.env) :: starEach [] X.env) :
    PS X (.Assign [.Name x px] (.BinOp ek .Add (.Tuple [.Call (.Attribute eo "pop" apos) [e] [] cpos] kk tp) bp) pos) (tS C k (.popT j i ie)) :=
  weakS (ps_set hN hj hx (pe_op (op_catF) hk (pe_tupF (pa_cons (pe_bm (id := "list.pop") F.plainAttrs_list F.slot_list_pop F.type_list_pop mt_popAt ho (pa_cons he pa_nil hs) hbase hfew hline hs rfl) pa_nil hs2))) hsw hf)
    fun D σ H ⟨ρ, F, F0, H0, G, E, rel, tr, ⟨ts, et, w0, wp⟩, en⟩ => by
    obtain ⟨tv, ht, rt⟩ := slot_val rel et
    obtain ⟨a, xs0, vs0, e0, hi, hv0⟩ := own_before (ρ1 := ρ) (F1 := F) (H1 := H) rel w0
    refine ⟨tv, ht, _, hi, .inl ⟨rfl, vs0, .of hv0⟩, ρ, F, _, rel, wp, fun r ρ1 v F1 H1 p q => ?_⟩
    obtain ⟨xs, n, m, d, q1, q2, q3, q4, q5, q6, q7⟩ := q
    obtain ⟨o1, o2⟩ := own_after p.rel hi q1
    obtain ⟨vs, v1, v2, v3, v4⟩ := id o2
    have l := p.lent
    rw [q2] at l
    have hseq := (ixN_seq q4).1
    rw [← v4.length] at hseq
    obtain ⟨y, y1, y2⟩ := v4.get q5
    obtain ⟨x1, x2, x3⟩ := write_own p.rel (tr.next p.tr) o1 o2 (v4.eraseIdx m)
    obtain ⟨b1, b2⟩ := q3
    refine ⟨a, vs, n, m, y, rfl, by rw [l.int], v1, by omega, by omega, hseq, y1, ?_⟩
    refine ⟨by show 1 ≤ sizeLine; decide, newT x1 (.cons y2 .nil) fun w F3 H3 p3 => ?_⟩
    have rt3 : R k F3 tv (.tup ts) := (rt.mono p.tr.sub).mono p3.tr.sub
    have rw3 : R k F3 w (.tup [d]) := p3.res
    have tr3 := x2.next p3.tr
    have hK := hX.K
    cases rt3 with
    | tup ta ra =>
      cases rw3 with
      | tup tb rb =>
        have sq1 := (ta.mono p3.rel.sub).sq
        have sq2 := (tb.mono p3.rel.sub).sq
        rw [hK] at sq1 sq2
        have fin : ∀ {v F' H'}, EPost k (ρ1.put i (.own (xs.eraseIdx m))) σ F3 H3 (.val (.tup (ts ++ [d]))) v (ρ1.put i (.own (xs.eraseIdx m))) F' H' → gName j v σ H' D.nx := fun {v F' H'} p4 => by
          obtain ⟨z1, z2⟩ := p4.rel.put (i := j) (p4.res : R k F' v (.tup (ts ++ [d])))
          exact en.nx _ _ _ _ z1 ((tr3.next p4.tr).slots fun j a z => (tr3.next p4.tr).own j a (z2 j a z)) q7
        refine ⟨_, _, _, _, rfl, rfl, sq1, sq2, by rw [ra.length, rb.length]; exact q6, fun z => ?_, fun _ z => ?_, fun _ _ => newT p3.rel (ra.append rb) fun v F' H' p => fin p⟩
        · subst z
          have := rs_nil' ra
          subst this
          exact fin (.flat p3.rel .refl (.tup tb rb))
        · subst z
          have := rs_nil' rb
          cases this
end
/-! ### targets -/
/-- a value to be laid into a target; where the target unpacks it, it may be a tuple that stands for the moment alone -/
def TgV (k : RC) (F H : Hp) (t : Tg) (v : V) (d : D) : Prop := R k F v d ∨ ∃ is T vs ds, t = .tp is ∧ v = .ref T ∧ d = .tup ds ∧ H T = some (.tup vs) ∧ Rs k F vs ds
structure TgTr (t : Tg) (ρ : PEnv) (σ : L2.St) (ρ' : PEnv) (σ' : L2.St) : Prop where
  own : ∀ i a, OwnAt ρ' σ' i a → OwnAt ρ σ i a
  wp : ∀ vs, (∀ i ∈ t.slots, i ∈ vs) → L2.wipe σ' vs = L2.wipe σ vs
  wr : ∀ vs, (∀ i ∈ t.slots, i ∈ vs) → ρ'.wipe vs = ρ.wipe vs
  dr : ρ'.dr = ρ.dr
def tG (k : RC) (t : Tg) : TG := fun v σ H Q => ∃ ρ F d QQ, Rel k ρ σ F H ∧ TgV k F H t v d ∧ tgP t d ρ QQ ∧ ∀ ρ' σ', Rel k ρ' σ' F H → TgTr t ρ σ ρ' σ' → QQ ρ' → Q σ' H
theorem weakG {X : Cx} {e : Expr} {t t' : TG} (h : PG X e t) (w : ∀ v σ H Q, t' v σ H Q → t v σ H Q) : PG X e t' := ⟨fun pins s σ H v u Q I r q => h.run pins s σ H v u Q I r (w v σ H Q q)⟩
theorem wipe_get {σ : L2.St} {j : Nat} : ∀ {vs : List Nat}, (L2.wipe σ vs)[j]? = if j ∈ vs then (if j < σ.length then some none else none) else σ[j]?
  | [] => by simp [L2.wipe]
  | v :: vs => by
    unfold L2.wipe
    have ih := @wipe_get σ j vs
    by_cases e : v = j
    · subst e
      rw [if_pos List.mem_cons_self]
      by_cases h : v < σ.length
      · rw [if_pos h, List.getElem?_set_self (by rw [wipe_length]; exact h)]
      · rw [if_neg h, List.getElem?_eq_none (by rw [List.length_set, wipe_length]; omega)]
    · rw [List.getElem?_set_ne e, ih]
      have : (j ∈ v :: vs) ↔ j ∈ vs := by simp [Ne.symm e]
      simp only [this]
theorem wipe_set {σ : L2.St} {i : Nat} {x : Option V} {vs : List Nat} (h : i ∈ vs) : L2.wipe (σ.set i x) vs = L2.wipe σ vs := by
  apply List.ext_getElem?
  intro j
  rw [wipe_get, wipe_get, List.length_set]
  by_cases e : j ∈ vs
  · rw [if_pos e, if_pos e]
  · rw [if_neg e, if_neg e, List.getElem?_set_ne (show i ≠ j from fun z => e (by rw [← z]; exact h))]
theorem pwipe_get {l : List SV} {j : Nat} : ∀ {vs : List Nat} {l : List SV}, (vs.foldl (fun l i => l.set i SV.no) l)[j]? = if j ∈ vs then (if j < l.length then some .no else none) else l[j]?
  | [], l => by simp
  | v :: vs, l => by
    rw [List.foldl_cons, @pwipe_get l j vs (l.set v .no), List.length_set]
    by_cases e : v = j
    · subst e
      by_cases m : v ∈ vs
      · rw [if_pos m, if_pos List.mem_cons_self]
      · rw [if_neg m, if_pos List.mem_cons_self]
        by_cases h : v < l.length
        · rw [if_pos h, List.getElem?_set_self h]
        · rw [if_neg h, List.getElem?_eq_none (by rw [List.length_set]; omega)]
    · have : (j ∈ v :: vs) ↔ j ∈ vs := by simp [Ne.symm e]
      simp only [this, List.getElem?_set_ne e]
theorem pwipe_put {ρ : PEnv} {i : Nat} {x : SV} {vs : List Nat} (h : i ∈ vs) : (ρ.put i x).wipe vs = ρ.wipe vs := by
  unfold PEnv.wipe PEnv.put
  congr 1
  apply List.ext_getElem?
  intro j
  rw [pwipe_get (l := []), pwipe_get (l := []), List.length_set]
  by_cases e : j ∈ vs
  · rw [if_pos e, if_pos e]
  · rw [if_neg e, if_neg e, List.getElem?_set_ne (show i ≠ j from fun z => e (by rw [← z]; exact h))]
section
variable {X : Cx} {k : RC} {pos : Pos}
theorem qg_nm {i : Nat} {x : Str} (hN : X.N.Nodup) (hi : X.N[i]? = some x) (hx : Loc X.env.scope x) (hf : X.fn x = true ∨ X.env.scope.names.lookup x = some .local) : PG X (.Name x pos) (tG k (.nm i)) :=
  weakG (pg_name hN hi hx hf) fun v σ H Q ⟨ρ, F, d, QQ, rel, tv, wp, fin⟩ => by
    rcases tv with r | ⟨_, _, _, _, e, _⟩
    · obtain ⟨x1, x2⟩ := rel.put (i := i) r
      exact fin _ _ x1 ⟨x2, fun vs h => wipe_set (h i (by simp [Tg.slots])), fun vs h => pwipe_put (h i (by simp [Tg.slots])), rfl⟩ wp
    · cases e
inductive NmAll (X : Cx) : List Expr → List Nat → Prop
  | nil : NmAll X [] []
  | cons {x : Str} {p : Pos} {i : Nat} {es : List Expr} {is : List Nat} : X.N[i]? = some x → Loc X.env.scope x → (X.fn x = true ∨ X.env.scope.names.lookup x = some .local) → NmAll X es is → NmAll X (.Name x p :: es) (i :: is)
def gAll : List Nat → TGs
  | [] => gNil
  | i :: is => gCons (gName i) (gAll is)
theorem pgs_all (hN : X.N.Nodup) : ∀ {es : List Expr} {is : List Nat}, NmAll X es is → PGs X es (gAll is)
  | _, _, .nil => pgs_nil
  | _, _, .cons h1 h2 h3 r => pgs_cons (pg_name hN h1 h2 h3) (pgs_all hN r)
theorem nm_len : ∀ {es : List Expr} {is : List Nat}, NmAll X es is → (assignEach es X.env).length = is.length ∧ (assignEach es X.env).findIdx? (·.1) = none
  | _, _, .nil => ⟨rfl, rfl⟩
  | _, _, .cons (x := x) (p := p) (es := es) h1 h2 h3 r => by
    obtain ⟨a, b⟩ := nm_len r
    have e : assignEach (.Name x p :: es) X.env = (false, assign (.Name x p) X.env) :: assignEach es X.env := rfl
    rw [e]
    refine ⟨by rw [List.length_cons, List.length_cons, a], ?_⟩
    rw [List.findIdx?_cons, if_neg (by simp), b]
    rfl
theorem gall_ok {F H : Hp} : ∀ {is : List Nat} {ρ : PEnv} {σ : L2.St} {vs : List V} {ds : List D} {ρ' : PEnv} {Q : L2.St → Hp → Prop}, Rel k ρ σ F H → Rs k F vs ds → putAll ρ is ds = some ρ' →
    (∀ σ', Rel k ρ' σ' F H → TgTr (.tp is) ρ σ ρ' σ' → Q σ' H) → gAll is vs σ H Q
  | [], ρ, σ, _, _, ρ', Q, rel, .nil, e, fin => by
    simp only [putAll, Option.some.injEq] at e
    subst e
    exact ⟨rfl, fin σ rel ⟨fun _ _ z => z, fun _ _ => rfl, fun _ _ => rfl, rfl⟩⟩
  | [], _, _, _, _, _, _, _, .cons _ _, e, _ => by simp [putAll] at e
  | _ :: _, _, _, _, _, _, _, _, .nil, e, _ => by simp [putAll] at e
  | i :: is, ρ, σ, _, _, ρ', Q, rel, .cons (v := v) (vs := vs) (d := d) (ds := ds) r rr, e, fin => by
    have e : putAll (ρ.put i (.val d)) is ds = some ρ' := e
    obtain ⟨x1, x2⟩ := rel.put (i := i) r
    refine ⟨v, vs, rfl, gall_ok x1 rr e fun σ' rel' tr' => fin σ' rel' ⟨fun j a z => x2 j a (tr'.own j a z), fun ws h => ?_, fun ws h => ?_, tr'.dr⟩⟩
    · rw [tr'.wp ws fun j hj => h j (by simp only [Tg.slots, List.mem_cons]; exact .inr hj), wipe_set (h i (by simp [Tg.slots]))]
    · rw [tr'.wr ws fun j hj => h j (by simp only [Tg.slots, List.mem_cons]; exact .inr hj), pwipe_put (h i (by simp [Tg.slots]))]
theorem put_len_eq : ∀ {is : List Nat} {ds : List D} {ρ ρ' : PEnv}, putAll ρ is ds = some ρ' → ds.length = is.length
  | [], [], _, _, _ => rfl
  | [], _ :: _, _, _, e => by simp [putAll] at e
  | _ :: _, [], _, _, e => by simp [putAll] at e
  | i :: is, d :: ds, ρ, ρ', e => by
    have e : putAll (ρ.put i (.val d)) is ds = some ρ' := e
    rw [List.length_cons, List.length_cons, put_len_eq e]
theorem qg_tp (hX : XOk X k) {es : List Expr} {is : List Nat} {kk : Nat} (hN : X.N.Nodup) (h : NmAll X es is) : PG X (.Tuple es kk pos) (tG k (.tp is)) :=
  weakG (pg_tup hX.calm (pgs_all hN h) (nm_len h).1 (nm_len h).2) fun v σ H Q ⟨ρ, F, d, QQ, rel, tv, wp, fin⟩ => by
    obtain ⟨xs, ρ', rfl, e, q⟩ := wp
    have hl := put_len_eq e
    have hK := hX.K
    rcases tv with r | ⟨is', T, vs, ds, e1, rfl, e2, hT, rs⟩
    · cases r with
      | tup ta ra =>
        have sq := (ta.mono rel.sub).sq
        rw [hK] at sq
        exact ⟨_, _, rfl, sq, by rw [ra.length]; exact hl, gall_ok rel ra e fun σ' rel' tr' => fin _ _ rel' tr' q⟩
    · cases e1; cases e2
      exact ⟨_, _, rfl, .of hT, by rw [rs.length]; exact hl, gall_ok rel rs e fun σ' rel' tr' => fin _ _ rel' tr' q⟩
end
end PL
/-! PL12: what is walked; for, while. -/
namespace PL
open PySem PySem.Spec PyProof.Rows L2

/-- an item that is yielded; tp: it may be a tuple that stands for the moment alone -/
def ItemOk (k : RC) (tp : Bool) (F H : Hp) (v : V) (d : D) : Prop := R k F v d ∨ (tp = true ∧ ∃ T vs ds, v = .ref T ∧ d = .tup ds ∧ H T = some (.tup vs) ∧ Rs k F vs ds)
/-- wherever S holds, the walk J has the items ds -/
def ItOk (k : RC) (S : Hp → Hp → Prop) (tp : Bool) (J : It) (ds : List D) : Prop := ∀ F H, S F H → ∀ i, (ds.length ≤ i → J.stop i H) ∧ ∀ d, ds[i]? = some d → J.go i H ∧ ∀ x H', J.yld i H x H' → Same H H' ∧ ItemOk k tp F H' x d
/-- since the walk began; b: in an expression -/
def Stay (k : RC) (b : Bool) (F0 H0 : Hp) : Hp → Hp → Prop := fun F H => Same F0 F ∧ (b = true → SameX k H0 H) ∧ Same F H
def tI (C : PC) (k : RC) (b tp : Bool) (ie : IE) : TI := fun σ H Rr => ∃ ρ F QQ, Rel k ρ σ F H ∧ wpI C b ie ρ QQ ∧ ∀ ds ρ' F' H' J, Rel k ρ' σ F' H' → ETr k ρ σ F H ρ' F' H' → ItOk k (Stay k b F' H') tp J ds → QQ ds ρ' → Rr J H'
/-- the keys of the exact dict at d -/
def Itx (d : Addr) (o : Obj) (es : List DictEntry) : It :=
  ⟨fun i H => H d = some (exO d o) ∧ i < es.length, fun i H x H' => H' = H ∧ ∃ e : DictEntry, es[i]? = some e ∧ RelV x e.key, fun i H => H d = some (exO d o) ∧ es.length ≤ i⟩
theorem exO_get {X : Cx} {pins : List (Addr × Obj)} {σ : L2.St} {H : Hp} {s : Shared} {d : Addr} {o : Obj} (I : Inv X pins σ H s) (h : H d = some (exO d o)) : s.heap.get? d = some o := (I.hok d _ h).1
theorem turn_x {P : Program} {w : World} {K : PySem.W.Frag} {tg : Expr} {d : Addr} {o : Obj} {es : List DictEntry} {ep : Nat} (it : Addr) (hod : o.data = .dict es.toArray ep) (hv : ∀ e ∈ es, ∃ x, RelV x e.key) :
    Turn P w K tg (Itx d o es) [it] it (fun i h => h.IsKeyIter it d i es.toArray.size ep) where
  mem := by simp
  obj := fun i h st b hb => by
    have e : b = it := by simpa using hb
    subst e
    obtain ⟨oi, e, c, dd⟩ := st
    exact ⟨oi, e, fun v z => by rw [dd] at z; cases z⟩
  keep := fun i h h' st k => st.at fun oi e => k it (by simp) oi e
  item := by
    intro X hP hw hK hc i pins s σ H E I hf st hg
    subst hP hw hK
    obtain ⟨hd, hi⟩ := hg
    obtain ⟨f0, f1, f2, f3, f4, f5⟩ := hf it (by simp)
    have ho := exO_get I hd
    have hx : es.toArray[i]? = some es[i] := by rw [List.getElem?_toArray]; exact List.getElem?_eq_getElem hi
    refine next_key_item st ho hod rfl hx fun h' st' sb => ?_
    have I1 : Inv X pins σ H { s with heap := h' } := I.turned (t' := s.toks) (fun b ob hb e => (sb.2 b hb).trans e) f0 f1 f3 f4 f5
    obtain ⟨oi, e, c, dd⟩ := id st'
    obtain ⟨x, rx⟩ := hv es[i] (List.getElem_mem hi)
    exact ⟨_, rfl, go_of (s := { s with heap := h' }) e c dd (by decide) ⟨x, H, I1, rx, ⟨rfl, _, List.getElem?_eq_getElem hi, rx⟩, st', fun b hb => (hf b hb).1⟩⟩
  done := by
    intro X hP hw hK hc i pins s σ H E I hf st hg
    subst hP hw hK
    obtain ⟨hd, hi⟩ := hg
    obtain ⟨f0, f1, f2, f3, f4, f5⟩ := hf it (by simp)
    exact next_key_end (I.ok.hd hc) st (exO_get I hd) hod rfl (by simpa using hi) fun h' eb => ⟨rfl, I.turned (t' := s.toks) (fun b ob hb e => eb b ob hb e) f0 f1 f3 f4 f5⟩
  self := fun A i s Q E st h => wpAny_pyIter_keyiter st h
theorem rk_get {k : RC} {F : Hp} : ∀ {es : List DictEntry} {kvs : List (D × D)} {i : Nat} {e : DictEntry}, RKs k F es kvs → es[i]? = some e → ∃ p v, kvs[i]? = some p ∧ RelV v e.key ∧ R k F v p.1
  | _, _, _, _, .nil, h => by simp at h
  | _, _, 0, _, .cons h1 h2 _ _ _ _ _ _, h => by simp at h; subst h; exact ⟨_, _, rfl, h1, h2⟩
  | _, _, i + 1, e, .cons _ _ _ _ _ _ _ r, h => by
    obtain ⟨p, v, h1, h2⟩ := rk_get (i := i) (e := e) r (by simpa using h)
    exact ⟨p, v, by simpa using h1, h2⟩
section
variable {X : Cx} {k : RC} {C : PC} {pos : Pos} {tg : Expr}
/-- a thing that can be walked, walked -/
theorem it_any (hX : XOk X k) {pins : List (Addr × Obj)} {σ : L2.St} {F H : Hp} {s : Shared} {x : V} {u : Value} {d : D} {xs : List D} {b : Bool} {Rr : It → Hp → Prop} (I : Inv X pins σ H s) (rx : RelV x u) (sub : Same F H) {dr : Nat} (pool : PoolOk k F H dr) (br : BR k F H x d) (hb : b = false → R k F x d) (hd : itemsD d = some xs)
    (h : ∀ J, ItOk k (Stay k b F H) false J xs → Rr J H) : wpAny (model X.prog X.w) X.A (pyIter u) (PIE X pins σ tg Rr) X.xe s := by
  have stay : ∀ F' H', Stay k b F H F' H' → BR k F' H' x d ∧ Same F' H' := fun F' H' ⟨a1, a2, a3⟩ => by
    refine ⟨?_, a3⟩
    cases b with
    | false => exact .inl ((hb rfl).mono a1)
    | true => exact br.grow a1 (a2 rfl) a3
  have hK := hX.K
  cases d with
  | lst ys =>
    cases hd
    obtain ⟨a, vs, rfl, t, r⟩ := br.lst sub
    cases rx
    obtain ⟨its, rv, p, hz⟩ := I.list (.of t)
    refine wpAny_pyIter_list p.isList (pi_one (tk := s.toks) I _ (turn_list a _) ⟨_, Heap.get?_push_size _ rfl, rfl, rfl⟩ (h _ fun F' H' st i => ?_))
    obtain ⟨b', sub'⟩ := stay F' H' st
    obtain ⟨a', vs', e', t', r'⟩ := b'.lst sub'
    cases e'
    refine ⟨fun hi => ⟨vs', .of t', by rw [r'.length]; exact hi⟩, fun d hd => ?_⟩
    obtain ⟨w, w1, w2⟩ := r'.get hd
    refine ⟨⟨vs', w, .of t', w1⟩, fun y H'' ⟨e1, e2⟩ => ?_⟩
    subst e1
    have := (e2 vs' (.of t')).symm.trans w1
    cases this
    exact ⟨fun _ _ z => z, .inl w2⟩
  | tup ys =>
    cases hd
    obtain ⟨a, vs, rfl, t, r⟩ := br.tup
    cases rx
    have sq := (t.mono sub).sq
    rw [hK] at sq
    obtain ⟨its, rv, p, hz⟩ := I.tuple sq
    refine wpAny_pyIter_tuple (show s.heap.IsTuple a its.toArray from p) (pi_one (tk := s.toks) I _ (turn_tuple a _) ⟨_, Heap.get?_push_size _ rfl, rfl, rfl⟩ (h _ fun F' H' st i => ?_))
    obtain ⟨b', sub'⟩ := stay F' H' st
    obtain ⟨a', vs', e', t', r'⟩ := b'.tup
    cases e'
    have sq' := (t'.mono sub').sq
    rw [hK] at sq'
    refine ⟨fun hi => ⟨vs', sq', by rw [r'.length]; exact hi⟩, fun d hd => ?_⟩
    obtain ⟨w, w1, w2⟩ := r'.get hd
    refine ⟨⟨vs', w, sq', w1⟩, fun y H'' ⟨e1, e2⟩ => ?_⟩
    subst e1
    have := (e2 vs' sq').symm.trans w1
    cases this
    exact ⟨fun _ _ z => z, .inl w2⟩
  | dct kvs =>
    cases hd
    obtain ⟨a, es, rfl, ⟨o, ep, g1, g2, g3, g4, g5⟩, r, nd, un⟩ := br.dct sub
    cases rx
    have ho := exO_get I g1
    refine iter_keys g4 ho g2 g3 (pi_one (tk := s.toks) I _ (turn_x (es := es) _ g3 fun e he => ?_) ⟨_, Heap.get?_push_size _ rfl, rfl, rfl⟩ (h _ fun F' H' st i => ?_))
    · obtain ⟨i, hi⟩ := List.mem_iff_getElem?.mp he
      obtain ⟨p, v, _, h2, _⟩ := rk_get r hi
      exact ⟨v, h2⟩
    · -- the same object all along
      obtain ⟨a1, a2, a3⟩ := st
      have same : H' a = some (exO a o) := by
        cases b with
        | true =>
          refine a2 rfl _ _ g1 fun ⟨p, q, z⟩ => ?_
          obtain ⟨_, _, _, _, m, _, _, c1⟩ := pool p q a z
          have := c1.symm.trans g1
          cases this
        | false =>
          have hbr := hb rfl
          cases hbr with
          | dct da _ _ _ =>
            obtain ⟨oF, epF, f1, _⟩ := da
            have e1 := exO_get I (sub _ _ f1)
            have e2 := ho.symm.trans e1
            cases e2
            exact a3 _ _ (a1 _ _ f1)
      refine ⟨fun hi => ⟨same, by rw [r.length]; simpa using hi⟩, fun d hd => ?_⟩
      rw [List.getElem?_map] at hd
      obtain ⟨q, hq, rfl⟩ := Option.map_eq_some_iff.mp hd
      have hlt : i < es.length := by
        rw [r.length]; exact (List.getElem?_eq_some_iff.mp hq).1
      refine ⟨⟨same, hlt⟩, fun y H'' ⟨e1, e, e2, e3⟩ => ?_⟩
      subst e1
      obtain ⟨p, v, p1, p2, p3⟩ := rk_get r e2
      have := p1.symm.trans hq
      cases this
      have := e3.inj p2
      subst this
      exact ⟨fun _ _ z => z, .inl (p3.mono a1)⟩
  | rng lo hi =>
    cases hd
    obtain ⟨a, rfl, t, ⟨l1, l2⟩, h1, h2⟩ := br.rng
    cases rx
    obtain ⟨t1, t2, t3, hr⟩ := rng_at I (sub _ _ t)
    refine wpAny_pyIter_range hr (small_one l1 l2 h1 h2) (pi_one (tk := s.toks) I _ (turn_range _ lo (hi - lo).toNat) ?_ (h _ fun F' H' st i => ?_))
    · have e1 : lo + ((0 : Nat) : Int) * 1 = lo := by simp
      have e2 : (((hi - lo).toNat : Nat) : Int) - ((0 : Nat) : Int) = Builtin.Range.rangeSize lo hi 1 := by rw [rangeSize_one]; split <;> omega
      show IsRangeIter _ _ (lo + ((0 : Nat) : Int) * 1) ((((hi - lo).toNat : Nat) : Int) - ((0 : Nat) : Int)) 1
      rw [e1, e2]
      exact Heap.get?_push_size _ rfl
    · have hl : (rngL lo hi).length = (hi - lo).toNat := by unfold rngL; simp
      refine ⟨fun hi' => by rw [hl] at hi'; exact hi', fun d hd => ?_⟩
      have hlt : i < (hi - lo).toNat := by
        have := (List.getElem?_eq_some_iff.mp hd).1
        rw [hl] at this; exact this
      refine ⟨hlt, fun y H'' ⟨e1, e2⟩ => ?_⟩
      subst e1 e2
      unfold rngL at hd
      rw [List.getElem?_map, List.getElem?_range hlt] at hd
      cases hd
      exact ⟨fun _ _ z => z, .inl (.int _)⟩
  | _ => cases hd
/-- what has come from an expression, kept where it must be -/
theorem come {b : Bool} {ρ ρ1 : PEnv} {σ : L2.St} {F F1 H H1 : Hp} {r : RV} {v : V} {K : D → Prop} (rel : Rel k ρ σ F H) (p : EPost k ρ σ F H r v ρ1 F1 H1) (q : (if b = true then (fun K : D → Prop => K r.toD) else r.kept) K) :
    ∃ d F2, K d ∧ BR k F2 H1 v d ∧ (b = false → R k F2 v d) ∧ Rel k ρ1 σ F2 H1 ∧ ETr k ρ σ F H ρ1 F2 H1 := by
  cases b with
  | true => exact ⟨r.toD, F1, q, p.lent, fun z => Bool.noConfusion z, p.rel, p.tr⟩
  | false =>
    obtain ⟨d, F2, q1, _, rd, rel2, tr2⟩ := p.keep rel q
    exact ⟨d, F2, q1, .inl rd, fun _ => rd, rel2, tr2⟩
theorem qi_seq (hX : XOk X k) {b : Bool} {e : Expr} {ie : IE} (he : PE X e (tE C k ie)) : PI X tg e (tI C k b false (.itSeq ie)) := by
  refine ⟨fun pins s σ H Rr I ⟨ρ, F, QQ, rel, wp, fin⟩ => ?_⟩
  refine thn (he.run pins s σ H (fun v H1 => ∃ ρ1 F1 r, EPost k ρ σ F H r v ρ1 F1 H1 ∧ (if b = true then (fun K : D → Prop => K r.toD) else r.kept) fun d => ∃ xs, itemsD d = some xs ∧ QQ xs ρ1) I ⟨ρ, F, _, rel, wp, fun r ρ1 v F1 H1 p q => ⟨ρ1, F1, r, p, q⟩⟩) fun u s1 ⟨x, H1, I1, rx, ρ1, F1, r, p, q⟩ => ?_
  obtain ⟨d, F2, ⟨xs, q1, q2⟩, br, hb, rel2, tr2⟩ := come rel p q
  exact it_any hX I1 rx rel2.sub rel2.pool br hb q1 fun J hJ => fin xs ρ1 F2 H1 J rel2 tr2 hJ q2
theorem itr_ok {S : Hp → Hp → Prop} {lo hi : Int} : ItOk k S false (Itr lo (hi - lo).toNat) (rngL lo hi) := fun F' H' st i => by
  have hl : (rngL lo hi).length = (hi - lo).toNat := by unfold rngL; simp
  refine ⟨fun hi' => by rw [hl] at hi'; exact hi', fun d hd => ?_⟩
  have hlt : i < (hi - lo).toNat := by
    have := (List.getElem?_eq_some_iff.mp hd).1
    rw [hl] at this; exact this
  refine ⟨hlt, fun y H'' ⟨e1, e2⟩ => ?_⟩
  subst e1 e2
  unfold rngL at hd
  rw [List.getElem?_map, List.getElem?_range hlt] at hd
  cases hd
  exact ⟨fun _ _ z => z, .inl (.int _)⟩
theorem qi_rng1 {b : Bool} {a : Expr} {ia : IE} {p : Pos} (hg : Gl X "range") (hm : X.mg "range" = none) (ha : PE X a (tE C k ia)) (hs1 : starEach [a] X.env = (false, eval a X.env) :: starEach [] X.env) (hs : starEach [a] X.env = [(false, eval a X.env)]) : PI X tg (.Call (.Name "range" p) [a] [] pos) (tI C k b false (.itR1 ia)) := by
  refine ⟨fun pins s σ H Rr I ⟨ρ, F, QQ, rel, wp, fin⟩ => ?_⟩
  refine (pi_range1 hg hm (pa_cons ha pa_nil hs1) hs).run pins s σ H Rr I ⟨ρ, F, _, rel, wp, fun r ρ1 v F1 H1 p ⟨j, e, ⟨h1, h2⟩, q⟩ => ?_⟩
  have l := p.lent
  rw [e] at l
  have := itr_ok (k := k) (S := Stay k b F1 H1) (lo := 0) (hi := j)
  rw [Int.sub_zero] at this
  exact ⟨j, by rw [l.int], h1, h2, fin _ _ _ _ _ p.rel p.tr this q⟩
theorem qi_rng2 {b : Bool} {a c : Expr} {ia ic : IE} {p : Pos} (hg : Gl X "range") (hm : X.mg "range" = none) (ha : PE X a (tE C k ia)) (hc : PE X c (tE C k ic)) (hs1 : starEach [a, c] X.env = (false, eval a X.env) :: starEach [c] X.env) (hs3 : starEach [c] X.env = (false, eval c X.env) :: starEach [] X.env) (hs : starEach [a, c] X.env = [(false, eval a X.env), (false, eval c X.env)]) (hs2 : starEach [c] X.env = [(false, eval c X.env)]) : PI X tg (.Call (.Name "range" p) [a, c] [] pos) (tI C k b false (.itR2 ia ic)) := by
  refine ⟨fun pins s σ H Rr I ⟨ρ, F, QQ, rel, wp, fin⟩ => ?_⟩
  refine (pi_range2 hg hm (pa_cons ha (pa_cons hc pa_nil hs3) hs1) hs hs2).run pins s σ H Rr I ⟨ρ, F, _, rel, wp, fun r ρ1 v F1 H1 p q => ⟨ρ1, F1, _, p.rel, q, fun r2 ρ2 v2 F2 H2 p2 ⟨i, j, e1, e2, ⟨⟨h1, h2⟩, h3, h4⟩, q⟩ => ?_⟩⟩
  have l := p.lent
  rw [e1] at l
  have l2 := p2.lent
  rw [e2] at l2
  exact ⟨i, j, by rw [l.int, l2.int], ⟨h1, h2, h3, h4⟩, fin _ _ _ _ _ p2.rel (p.tr.trans p2.tr) itr_ok q⟩

/-! ### for -/
theorem STr.keepH {ρ : PEnv} {σ : L2.St} {F0 H0 G F H H' : Hp} (t : STr k F0 H0 G ρ σ F H) (s : Same H H') : STr k F0 H0 G ρ σ F H' := t.next (ETr.keepH s)
theorem STr.since {ρ : PEnv} {σ : L2.St} {F0 H0 G G' F H : Hp} (t : STr k F0 H0 G ρ σ F H) (h : Same G' F) : STr k F0 H0 G' ρ σ F H := ⟨t.sub, t.heap, t.there, t.vis, t.own, h⟩
/-- the ends of a loop's body, the walk having begun at F1 -/
theorem SEnds.loop {F0 H0 G F1 : Hp} {E : PEnds} {D : Ends} {Nx : PEnv → Prop} {N : L2.St → Hp → Prop} (en : SEnds k F0 H0 G E D) (h1 : Same G F1) (h : ∀ ρ σ F H, Rel k ρ σ F H → STr k F0 H0 F1 ρ σ F H → Nx ρ → N σ H) :
    SEnds k F0 H0 F1 ⟨Nx, E.rt, E.nx, Nx⟩ { D with nx := N, ct := N, bk := D.nx } :=
  ⟨h, fun ρ σ F H rel tr q => en.nx ρ σ F H rel (tr.since fun b o e => tr.mid b o (h1 b o e)) q, h, en.rt⟩
theorem qs_for (hX : XOk X k) {tp : Bool} {tgt : Tg} {iter : Expr} {body : List Stmt} {ii : IE} {ib : IS} (hp : PassesOwn (model X.prog X.w) X.A X.env X.xe) (hi : PI X tg iter (tI C k false tp ii)) (hg : PG X tg (tG k tgt)) (htp : tp = true → ∃ is, tgt = .tp is)
    (hb : PSs X body (tS C k ib)) (hs : ∀ x, foldedSetIterable iter X.env x = pure x) : PS X (.For tg iter body [] pos) (tS C k (.fr tgt ii ib)) :=
  weakS (ps_for hp hX.calm hi hg hb hs) fun D σ H ⟨ρ, F, F0, H0, G, E, rel, tr, wp, en⟩ => ⟨ρ, F, _, rel, wp, fun ds ρ1 F1 H1 J rel1 tr1 it q => by
    have gF : Same G F1 := fun b o e => tr1.sub b o (tr.mid b o e)
    refine ⟨fun i m σ' H' => m = ds.length - i ∧ i ≤ ds.length ∧ ∃ ρ' F', Rel k ρ' σ' F' H' ∧ STr k F0 H0 F1 ρ' σ' F' H' ∧ forL tgt (wpS C ib) (ds.drop i) ρ' E,
      ⟨ds.length, by simp, by omega, ρ1, F1, rel1, (tr.next tr1).since fun _ _ h => h, q⟩, ?_⟩
    rintro i m σ' H' ⟨rfl, hi, ρ', F', rel', tr', q'⟩
    obtain ⟨i1, i2⟩ := it F' H' ⟨tr'.mid, fun z => Bool.noConfusion z, rel'.sub⟩ i
    by_cases hlt : i < ds.length
    · obtain ⟨go, yl⟩ := i2 ds[i] (List.getElem?_eq_getElem hlt)
      rw [List.drop_eq_getElem_cons hlt] at q'
      refine .inr ⟨go, fun σ2 H2 => ∃ ρ2 F2, Rel k ρ2 σ2 F2 H2 ∧ STr k F0 H0 F1 ρ2 σ2 F2 H2 ∧ forL tgt (wpS C ib) (ds.drop (i + 1)) ρ2 E, fun σ2 H2 ⟨ρ2, F2, r2, t2, q2⟩ => ⟨_, (by omega : ds.length - (i + 1) < ds.length - i), rfl, hlt, ρ2, F2, r2, t2, q2⟩, fun x H'' y => ?_⟩
      obtain ⟨sH, iok⟩ := yl x H'' y
      have rel2 := rel'.keepH sH
      have tr2 := tr'.keepH sH
      refine ⟨ρ', F', ds[i], _, rel2, ?_, q', fun ρ3 σ3 rel3 tt q3 => ?_⟩
      · rcases iok with r | ⟨h1, T, vs, es, h2, h3, h4, h5⟩
        · exact .inl r
        · obtain ⟨is, e⟩ := htp h1
          exact .inr ⟨is, T, vs, es, e, h2, h3, h4, h5⟩
      · have tr3 : STr k F0 H0 F1 ρ3 σ3 F' H'' := tr2.slots fun j a z => tr2.own j a (tt.own j a z)
        exact ⟨ρ3, F', F0, H0, F1, _, rel3, tr3, q3, en.loop gF fun ρ4 σ4 F4 H4 rel4 tr4 q4 => ⟨ρ4, F4, rel4, tr4, q4⟩⟩
    · have e : i = ds.length := by omega
      subst e
      rw [List.drop_length] at q'
      exact .inl ⟨i1 (Nat.le_refl _), en.nx _ _ _ _ rel' (tr'.since fun b o e => tr'.mid b o (gF b o e)) q'⟩⟩
/-! ### while, += -/
theorem qs_whl {c : Expr} {body : List Stmt} {ic : IE} {ib : IS} (hp : PassesOwn (model X.prog X.w) X.A X.env X.xe) (hc : PT X c (tT C k ic)) (hb : PSs X body (tS C k ib)) : PS X (.While c body [] pos) (tS C k (.whl ic ib)) :=
  weakS (ps_while hp hc hb) fun D σ H ⟨ρ, F, F0, H0, G, E, rel, tr, ⟨n, q⟩, en⟩ => by
    refine ⟨fun m σ' H' => ∃ ρ' F', Rel k ρ' σ' F' H' ∧ STr k F0 H0 G ρ' σ' F' H' ∧ whlL (wpE C ic) (wpS C ib) m ρ' E, ⟨n, ρ, F, rel, tr, q⟩, ?_⟩
    rintro m σ' H' ⟨ρ', F', rel', tr', q'⟩
    cases m with
    | zero => exact q'.elim
    | succ m =>
      refine ⟨ρ', F', _, rel', q', fun b ρ1 F1 H1 rel1 tr1 ⟨b', e, q1⟩ => ?_⟩
      cases e
      cases b with
      | false =>
        rw [brn_ite, if_neg Bool.false_ne_true] at q1; rw [if_neg Bool.false_ne_true]
        exact en.nx _ _ _ _ rel1 (tr'.next tr1) q1
      | true =>
        rw [brn_ite, if_pos rfl] at q1; rw [if_pos rfl]
        refine ⟨fun σ2 H2 => ∃ ρ2 F2, Rel k ρ2 σ2 F2 H2 ∧ STr k F0 H0 G ρ2 σ2 F2 H2 ∧ whlL (wpE C ic) (wpS C ib) m ρ2 E, fun σ2 H2 h => ⟨m, Nat.lt_succ_self m, h⟩, ρ1, F1, F0, H0, G, _, rel1, tr'.next tr1, q1, ?_⟩
        exact ⟨fun ρ σ F H r t q => ⟨ρ, F, r, t, q⟩, en.nx, fun ρ σ F H r t q => ⟨ρ, F, r, t, q⟩, en.rt⟩
theorem qs_aug {i : Nat} {x : Str} {e : Expr} {ie : IE} {pos' : Pos} (hN : X.N.Nodup) (hi : X.N[i]? = some x) (hx : Loc X.env.scope x) (he : PE X e (tE C k ie)) (hf : X.fn x = true ∨ X.env.scope.names.lookup x = some .local) : PS X (.AugAssign (.Name x pos') .Add e pos) (tS C k (.aug i ie)) :=
  weakS (ps_aug hN hi hx he ip_add hf) fun D σ H ⟨ρ, F, F0, H0, G, E, rel, tr, ⟨n, e0, wp⟩, en⟩ => by
    obtain ⟨v, h1, h2⟩ := slot_val rel e0
    cases h2
    refine ⟨_, h1, ρ, F, _, rel, wp, fun r ρ1 v F1 H1 p ⟨m, e1, q⟩ => ?_⟩
    have l := p.lent
    rw [e1] at l
    obtain ⟨z1, z2⟩ := p.rel.put (i := i) (R.int (F := F1) (n + m))
    exact ⟨n, m, rfl, l.int, en.nx _ _ _ _ z1 ((tr.next p.tr).slots fun j a z => (tr.next p.tr).own j a (z2 j a z)) q⟩
theorem qs_tup (hX : XOk X k) {is : List Nat} {e : Expr} {es : List Expr} {kk : Nat} {tp : Pos} {ie : IE} (he : PE X e (tE C k ie)) (hg : PG X (.Tuple es kk tp) (tG k (.tp is))) (hs : swapsWithSole [.Tuple es kk tp] e pos.line X.env = pure false) (hw : swappedStores [.Tuple es kk tp] e X.env = pure none)
    (h1 : (assignEach [.Tuple es kk tp] X.env).map (·.2) = [assign (.Tuple es kk tp) X.env]) : PS X (.Assign [.Tuple es kk tp] e pos) (tS C k (.asg (.tp is) ie)) :=
  weakS (ps_asg he hg hs hw h1) fun D σ H ⟨ρ, F, F0, H0, G, E, rel, tr, wp, en⟩ => ⟨ρ, F, _, rel, wp, fun r ρ1 v F1 H1 p q => by
    obtain ⟨d, F2, q1, _, rd, rel2, tr2⟩ := p.keep rel q
    exact ⟨ρ1, F2, d, _, rel2, .inl rd, q1, fun ρ' σ' rel' tt q' => en.nx _ _ _ _ rel' ((tr.next tr2).slots fun j a z => (tr.next tr2).own j a (tt.own j a z)) q'⟩⟩
end
end PL
/-! PL13: list comprehensions. -/
namespace PL
open PySem PySem.Spec PyProof.Rows L2

/-- from an expression's start into the block of a comprehension -/
structure BTr (k : RC) (ρ : PEnv) (σ : L2.St) (F H : Hp) (ρ' : PEnv) (σ' : L2.St) (F' H' : Hp) : Prop where
  sub : Same F F'
  heap : SameX k H H'
  there : ∀ a, H a ≠ none → H' a ≠ none
  vis : ∀ a, H a ≠ none → (∀ i, ¬ OwnAt ρ σ i a) → F' a = F a
  own : ∀ i a, OwnAt ρ' σ' i a → OwnAt ρ σ i a
section
variable {k : RC} {ρ ρ' ρ1 ρ2 : PEnv} {σ σ' σ1 : L2.St} {F F' F1 F2 H H' H1 H2 : Hp} {vs : List Nat} {a : Addr} {o : HO}
theorem ETr.b (e : ETr k ρ σ F H ρ' F' H') : BTr k ρ σ F H ρ' σ F' H' := ⟨e.sub, e.heap, e.there, e.vis, e.own⟩
theorem BTr.e (e : BTr k ρ σ F H ρ' σ F' H') : ETr k ρ σ F H ρ' F' H' := ⟨e.sub, e.heap, e.there, e.vis, e.own⟩
theorem BTr.next (t : BTr k ρ σ F H ρ1 σ1 F1 H1) (e : ETr k ρ1 σ1 F1 H1 ρ2 F2 H2) : BTr k ρ σ F H ρ2 σ1 F2 H2 where
  sub := fun c o h => e.sub c o (t.sub c o h)
  heap := t.heap.trans e.heap
  there := fun c h => e.there c (t.there c h)
  vis := fun c h n => (e.vis c (t.there c h) fun i z => n i (t.own i c z)).trans (t.vis c h n)
  own := fun i c h => t.own i c (e.own i c h)
theorem BTr.slots (t : BTr k ρ σ F H ρ1 σ1 F1 H1) (h : ∀ i a, OwnAt ρ' σ' i a → OwnAt ρ1 σ1 i a) : BTr k ρ σ F H ρ' σ' F1 H1 := ⟨t.sub, t.heap, t.there, t.vis, fun i a z => t.own i a (h i a z)⟩
/-- a thing that no slot owns and that is not seen, written -/
theorem BTr.write (t : BTr k ρ σ F H ρ1 σ1 F1 H1) (hn : H a = none) : BTr k ρ σ F H ρ1 σ1 F1 (upd H1 a o) := by
  refine ⟨t.sub, fun b u e n => ?_, fun b hb => ?_, t.vis, t.own⟩
  · rw [upd_ne (ne_of_none e hn)]; exact t.heap b u e n
  · rw [upd_ne (fun z => hb (by rw [z]; exact hn))]; exact t.there b hb
theorem Rel.writeD (h : Rel k ρ σ F H) (n : ∀ i, ¬ OwnAt ρ σ i a) (fa : F a = none) (np : ¬ inP' k a) : Rel k ρ σ F (upd H a o) := by
  refine ⟨h.len, fun b u e => ?_, fun j => ?_, h.inj, fun p r c e => ?_⟩
  · rw [upd_ne (ne_of_none e fa)]; exact h.sub b u e
  · have z := h.slot j
    cases eg : ρ.get j with
    | no => trivial
    | val d => rw [eg] at z; exact z
    | own xs =>
      rw [eg] at z; obtain ⟨b, e1, vs, e2, e3⟩ := z
      have ne : b ≠ a := fun y => n j ⟨by rw [eg]; rfl, y ▸ e1⟩
      exact ⟨b, e1, vs, (upd_ne ne).trans e2, e3⟩
    | owd xs =>
      rw [eg] at z; obtain ⟨b, e1, es, ⟨ob, ep, e2, er⟩, e3⟩ := z
      have ne : b ≠ a := fun y => n j ⟨by rw [eg]; rfl, y ▸ e1⟩
      exact ⟨b, e1, es, ⟨ob, ep, (upd_ne ne).trans e2, er⟩, e3⟩
  · obtain ⟨f, n, h1, ⟨rows, hr, h2⟩, m, hm, hm', h3⟩ := h.pool p r c e
    have w : ∀ b, (b = p ∨ b = r ∨ b = c) → b ≠ a := fun b z y => np ⟨p, r, c, e, y ▸ z⟩
    exact ⟨f, n, (upd_ne (w p (.inl rfl))).trans h1, ⟨rows, hr, (upd_ne (w r (.inr (.inl rfl)))).trans h2⟩, m, hm, hm', (upd_ne (w c (.inr (.inr rfl)))).trans h3⟩
theorem get_wipe {j : Nat} : (ρ.wipe vs).get j = if j ∈ vs then .no else ρ.get j := by
  unfold PEnv.get PEnv.wipe
  simp only [List.getD_eq_getElem?_getD, pwipe_get (l := [])]
  by_cases e : j ∈ vs
  · rw [if_pos e, if_pos e]
    split <;> rfl
  · rw [if_neg e, if_neg e]
theorem wipe_len : (ρ.wipe vs).sl.length = ρ.sl.length := by
  unfold PEnv.wipe
  show (vs.foldl _ ρ.sl).length = _
  generalize ρ.sl = l
  induction vs generalizing l with
  | nil => rfl
  | cons v vs ih => rw [List.foldl_cons, ih, List.length_set]
theorem own_wipe {i : Nat} (h : OwnAt (ρ.wipe vs) (L2.wipe σ vs) i a) : OwnAt ρ σ i a ∧ i ∉ vs := by
  obtain ⟨h1, h2⟩ := h
  rw [get_wipe] at h1
  rw [wipe_get] at h2
  by_cases e : i ∈ vs
  · rw [if_pos e] at h1; cases h1
  · rw [if_neg e] at h1 h2; exact ⟨⟨h1, h2⟩, e⟩
theorem Rel.wipe (h : Rel k ρ σ F H) : Rel k (ρ.wipe vs) (L2.wipe σ vs) F H := by
  refine ⟨by rw [wipe_len, wipe_length]; exact h.len, h.sub, fun j => ?_, fun i j a x y => h.inj i j a (own_wipe x).1 (own_wipe y).1, h.pool⟩
  rw [get_wipe, wipe_get]
  by_cases e : j ∈ vs
  · rw [if_pos e, if_pos e]; trivial
  · rw [if_neg e, if_neg e]; exact h.slot j
theorem wipe_idem : L2.wipe (L2.wipe σ vs) vs = L2.wipe σ vs := by
  apply List.ext_getElem?
  intro j
  rw [wipe_get, wipe_get]
  by_cases e : j ∈ vs
  · rw [if_pos e, if_pos e, wipe_length]
  · rw [if_neg e, if_neg e]
theorem back_aux {g : Nat → SV} {j : Nat} : ∀ {vs : List Nat} {l : List SV}, (vs.foldl (fun l i => l.set i (g i)) l)[j]? = if j ∈ vs then (if j < l.length then some (g j) else none) else l[j]?
  | [], l => by simp
  | v :: vs, l => by
    rw [List.foldl_cons, @back_aux g j vs (l.set v (g v)), List.length_set]
    by_cases e : v = j
    · subst e
      by_cases m : v ∈ vs
      · rw [if_pos m, if_pos List.mem_cons_self]
      · rw [if_neg m, if_pos List.mem_cons_self]
        by_cases h : v < l.length
        · rw [if_pos h, List.getElem?_set_self h]
        · rw [if_neg h, List.getElem?_eq_none (by rw [List.length_set]; omega)]
    · have : (j ∈ v :: vs) ↔ j ∈ vs := by simp [Ne.symm e]
      simp only [this, List.getElem?_set_ne e]
theorem get_back {ρ0 : PEnv} {j : Nat} (hl : ρ0.sl.length = ρ.sl.length) : (PEnv.back ρ0 ρ vs).get j = if j ∈ vs then ρ0.get j else ρ.get j := by
  unfold PEnv.back
  show List.getD (vs.foldl _ ρ.sl) j .no = _
  rw [List.getD_eq_getElem?_getD, back_aux (g := ρ0.get)]
  by_cases e : j ∈ vs
  · rw [if_pos e, if_pos e]
    by_cases h : j < ρ.sl.length
    · rw [if_pos h]; rfl
    · rw [if_neg h]
      unfold PEnv.get
      rw [List.getD_eq_getElem?_getD, List.getElem?_eq_none (by omega)]
  · rw [if_neg e, if_neg e]
    unfold PEnv.get
    rw [List.getD_eq_getElem?_getD]
theorem back_len {ρ0 : PEnv} : (PEnv.back ρ0 ρ vs).sl.length = ρ.sl.length := by
  unfold PEnv.back
  show (vs.foldl _ ρ.sl).length = _
  generalize ρ.sl = l
  induction vs generalizing l with
  | nil => rfl
  | cons v vs ih => rw [List.foldl_cons, ih, List.length_set]
theorem plain_at (h : ρ.plainAt vs = true) {i : Nat} (hi : i ∈ vs) : (ρ.get i).plain = true := List.all_eq_true.mp h i hi
/-- behind the block: its slots as they were -/
theorem Rel.back {ρ0 : PEnv} {F0 H0 : Hp} (h0 : Rel k ρ0 σ F0 H0) (pl : ∀ i ∈ vs, (ρ0.get i).plain = true) (h : Rel k ρ (L2.wipe σ vs) F H) (s : Same F0 F) : Rel k (PEnv.back ρ0 ρ vs) σ F H ∧ ∀ i a, OwnAt (PEnv.back ρ0 ρ vs) σ i a → OwnAt ρ (L2.wipe σ vs) i a := by
  have hl : ρ0.sl.length = ρ.sl.length := by rw [h0.len, h.len, wipe_length]
  have ow : ∀ i a, OwnAt (PEnv.back ρ0 ρ vs) σ i a → OwnAt ρ (L2.wipe σ vs) i a := fun i a ⟨h1, h2⟩ => by
    rw [get_back hl] at h1
    by_cases e : i ∈ vs
    · rw [if_pos e, pl i e] at h1; cases h1
    · rw [if_neg e] at h1
      exact ⟨h1, by rw [wipe_get, if_neg e]; exact h2⟩
  refine ⟨⟨by rw [back_len, h.len, wipe_length], h.sub, fun j => ?_, fun i j a x y => h.inj i j a (ow i a x) (ow j a y), h.pool⟩, ow⟩
  rw [get_back hl]
  by_cases e : j ∈ vs
  · rw [if_pos e]
    have z := h0.slot j
    have q := pl j e
    cases eg : ρ0.get j with
    | no => trivial
    | val d => rw [eg] at z; obtain ⟨v, e1, e2⟩ := z; exact ⟨v, e1, e2.mono s⟩
    | own xs => rw [eg] at q; cases q
    | owd xs => rw [eg] at q; cases q
  · rw [if_neg e]
    have z := h.slot j
    rw [wipe_get, if_neg e] at z
    exact z
theorem wipe_wipe : (ρ.wipe vs).wipe vs = ρ.wipe vs := by
  unfold PEnv.wipe
  congr 1
  apply List.ext_getElem?
  intro j
  rw [pwipe_get (l := [])]
  by_cases e : j ∈ vs
  · rw [if_pos e, pwipe_get (l := []), if_pos e]
    have : (vs.foldl (fun l i => l.set i SV.no) ρ.sl).length = ρ.sl.length := wipe_len (ρ := ρ) (vs := vs)
    rw [this]
  · rw [if_neg e]

end
section
variable {X : Cx} {k : RC} {C : PC} {pos : Pos}
theorem SameX.trans' {H1 H2 : Hp} {a : Addr} {o : HO} (h : SameX k H1 H2) (hn : H1 a = none) : SameX k H1 (upd H2 a o) := fun b u e n => by
  rw [upd_ne (ne_of_none e hn)]; exact h b u e n
/-- the new list that a comprehension fills -/
structure NewD (k : RC) (ρ : PEnv) (σ : L2.St) (F H : Hp) (D : Addr) (acc : List PL.D) : Prop where
  at_ : ∃ vs, H D = some (.lst vs) ∧ Rs k F vs acc
  fn : F D = none
  np : ¬ inP' k D
  no : ∀ i, ¬ OwnAt ρ σ i D
theorem NewD.next {ρ ρ' : PEnv} {σ : L2.St} {F F' H H' : Hp} {D : Addr} {acc : List PL.D} (n : NewD k ρ σ F H D acc) (e : ETr k ρ σ F H ρ' F' H') : NewD k ρ' σ F' H' D acc := by
  obtain ⟨vs, h1, h2⟩ := n.at_
  exact ⟨⟨vs, e.heap _ _ h1 fun z => n.np z.inP, h2.mono e.sub⟩, (e.vis D (by rw [h1]; simp) n.no).trans n.fn, n.np, fun i z => n.no i (e.own i D z)⟩
theorem NewD.slots {ρ ρ' : PEnv} {σ σ' : L2.St} {F H : Hp} {D : Addr} {acc : List PL.D} (n : NewD k ρ σ F H D acc) (h : ∀ i a, OwnAt ρ' σ' i a → OwnAt ρ σ i a) : NewD k ρ' σ' F H D acc :=
  ⟨n.at_, n.fn, n.np, fun i z => n.no i (h i D z)⟩
theorem NewD.push {ρ : PEnv} {σ : L2.St} {F H : Hp} {D : Addr} {acc : List PL.D} {ws : List V} {v : V} {d : PL.D} (n : NewD k ρ σ F H D acc) (h : H D = some (.lst ws)) (r : R k F v d) : NewD k ρ σ F (upd H D (.lst (ws ++ [v]))) D (acc ++ [d]) := by
  obtain ⟨vs, h1, h2⟩ := n.at_
  have := h1.symm.trans h
  cases this
  exact ⟨⟨_, upd_same, h2.append (.cons r .nil)⟩, n.fn, n.np, n.no⟩
/-- the reading of a comprehension gives the hand layer's -/
theorem lc_sem {vs : List Nat} {tg : Tg} {tp : Bool} {it ic ie : IE} {σ : L2.St} {H : Hp} {Q : VK} (htp : tp = true → ∃ is, tg = .tp is) (htg : ∀ i ∈ tg.slots, i ∈ vs) (h : tE C k (.comp vs tg it ic ie) σ H Q) : tLc (tI C k true tp it) (tG k tg) (tT C k ic) (tE C k ie) vs σ H Q := by
  obtain ⟨ρ, F, QQ, rel, ⟨hpl, wp⟩, fin⟩ := h
  refine ⟨ρ, F, _, rel, wp, fun ds ρ1 F1 H1 J rel1 tr1 itok q => fun D hD => ?_⟩
  have hpl1 : ∀ i ∈ vs, (ρ1.get i).plain = true := fun i hi => by
    cases e : (ρ1.get i).plain with
    | true => rfl
    | false =>
      obtain ⟨a, e1, _⟩ := SlotR.here (x := none) (rel1.slot i) e
      have := (tr1.own i a ⟨e, e1⟩).1
      rw [plain_at hpl hi] at this
      cases this
  have hn : H D = none := none_back tr1.there hD
  have relw := (rel1.wipe (vs := vs)).newH (o := .lst []) hD
  have btr : BTr k ρ σ F H (ρ1.wipe vs) (L2.wipe σ vs) F1 (upd H1 D (.lst [])) := (tr1.b.slots fun i a z => (own_wipe z).1).write hn
  have nd : NewD k (ρ1.wipe vs) (L2.wipe σ vs) F1 (upd H1 D (.lst [])) D [] := ⟨⟨[], upd_same, .nil⟩, rel1.fnone hD, rel1.nopN hD, fun i z => by
    have := rel1.ownH (own_wipe z).1
    exact this hD⟩
  refine ⟨fun i m H' => m = ds.length - i ∧ i ≤ ds.length ∧ ∃ ρt F' acc, Rel k ρt (L2.wipe σ vs) F' H' ∧ BTr k ρ σ F H ρt (L2.wipe σ vs) F' H' ∧ Same F1 F' ∧ SameX k H1 H' ∧ NewD k ρt (L2.wipe σ vs) F' H' D acc ∧
      compL vs tg (wpE C ic) (wpE C ie) (ds.drop i) ρt acc (fun acc ρ2 => QQ (.own acc) (ρ1.back ρ2 vs)),
    ⟨ds.length, by simp, by omega, ρ1.wipe vs, F1, [], relw, btr, fun _ _ h => h, .of (Same.upd_new hD), nd, q⟩, ?_⟩
  rintro i m H' ⟨rfl, hi, ρt, F', acc, rel', tr', sub', heap', nd', q'⟩
  obtain ⟨i1, i2⟩ := itok F' H' ⟨sub', fun _ => heap', rel'.sub⟩ i
  by_cases hlt : i < ds.length
  · obtain ⟨go, yl⟩ := i2 ds[i] (List.getElem?_eq_getElem hlt)
    rw [List.drop_eq_getElem_cons hlt] at q'
    refine .inr ⟨go, fun H2 => ∃ ρt F' acc, Rel k ρt (L2.wipe σ vs) F' H2 ∧ BTr k ρ σ F H ρt (L2.wipe σ vs) F' H2 ∧ Same F1 F' ∧ SameX k H1 H2 ∧ NewD k ρt (L2.wipe σ vs) F' H2 D acc ∧
      compL vs tg (wpE C ic) (wpE C ie) (ds.drop (i + 1)) ρt acc (fun acc ρ2 => QQ (.own acc) (ρ1.back ρ2 vs)), fun H2 h => ⟨_, (by omega : ds.length - (i + 1) < ds.length - i), rfl, hlt, h⟩, fun x H'' y => ?_⟩
    obtain ⟨sH, iok⟩ := yl x H'' y
    have k0 : ETr k ρt (L2.wipe σ vs) F' H' ρt F' H'' := .keepH sH
    have rel2 := rel'.keepH sH
    refine ⟨ρt, F', ds[i], _, rel2, ?_, q', fun ρ3 σ3 rel3 tt q3 => ?_⟩
    · rcases iok with r | ⟨h1, T, ws, es, h2, h3, h4, h5⟩
      · exact .inl r
      · obtain ⟨is, e⟩ := htp h1
        exact .inr ⟨is, T, ws, es, e, h2, h3, h4, h5⟩
    · have w3 : L2.wipe σ3 vs = L2.wipe σ vs := (tt.wp vs htg).trans wipe_idem
      refine ⟨w3, ρ3, F', _, rel3, q3, fun b ρ4 F4 H4 rel4 tr4 ⟨b', eb, q4⟩ => ?_⟩
      cases eb
      have nd4 := ((nd'.next k0).slots tt.own).next tr4
      have tr4' := ((tr'.next k0).slots tt.own).next tr4
      have sub4 : Same F1 F4 := fun b o e => tr4.sub b o (sub' b o e)
      have heap4 : SameX k H1 H4 := (heap'.trans k0.heap).trans tr4.heap
      -- the turn's end
      have ends : ∀ {ρ6 F6 H6 acc6}, Rel k ρ6 σ3 F6 H6 → BTr k ρ σ F H ρ6 σ3 F6 H6 → NewD k ρ6 σ3 F6 H6 D acc6 → Rel k (ρ6.wipe vs) (L2.wipe σ vs) F6 H6 ∧ BTr k ρ σ F H (ρ6.wipe vs) (L2.wipe σ vs) F6 H6 ∧ NewD k (ρ6.wipe vs) (L2.wipe σ vs) F6 H6 D acc6 := fun {ρ6 F6 H6 acc6} r t n => by
        rw [← w3]
        exact ⟨r.wipe, t.slots fun i a z => (own_wipe z).1, n.slots fun i a z => (own_wipe z).1⟩
      cases b with
      | false =>
        rw [brn_ite, if_neg Bool.false_ne_true] at q4; rw [if_neg Bool.false_ne_true]
        obtain ⟨e1, e2, e3⟩ := ends rel4 tr4' nd4
        exact ⟨_, _, _, e1, e2, sub4, heap4, e3, q4⟩
      | true =>
        rw [brn_ite, if_pos rfl] at q4; rw [if_pos rfl]
        refine ⟨ρ4, F4, _, rel4, q4, fun r ρ5 v F5 H5 p q5 => ?_⟩
        obtain ⟨d, F6, ⟨q6, q7⟩, _, rd, rel6, tr6⟩ := p.keep rel4 q5
        have nd6 := nd4.next tr6
        obtain ⟨ws, v1, v2⟩ := nd6.at_
        refine ⟨ws, v1, by rw [v2.length]; exact q6, ?_⟩
        have nd7 := nd6.push v1 rd
        obtain ⟨e1, e2, e3⟩ := ends (rel6.writeD nd6.no nd6.fn nd6.np) ((tr4'.next tr6).write hn) nd7
        refine ⟨_, _, _, e1, e2, fun b o e => tr6.sub b o (sub4 b o e), ?_, e3, q7⟩
        exact (heap4.trans tr6.heap).trans' hD
  · have e : i = ds.length := by omega
    subst e
    rw [List.drop_length] at q'
    refine .inl ⟨i1 (Nat.le_refl _), ?_⟩
    obtain ⟨r1, r2⟩ := rel1.back hpl1 rel' sub'
    have nd2 := nd'.slots r2
    obtain ⟨ws, v1, v2⟩ := nd2.at_
    exact fin (.own acc) _ _ _ _ ⟨r1, (tr'.slots r2).e, D, rfl, hn, ws, v1, nd2.fn, nd2.np, v2⟩ q'
end
end PL
/-! PL14: sorted. -/
namespace PL
open PySem PySem.Spec PyProof.Rows L2 PySem.W SeqAt

section
variable {prog : Program} {w : World} {A : Around} {s : Shared}
/-- a tuple before a tuple, asked of the tuples' own < -/
theorem oneLt_tups {xs ys : List PyData} {a b : Value} {as bs : List Addr} {Q : Bool → Shared → Prop} {E : Value → Shared → Prop} (ra : Reads s.heap a (.tuple xs) as) (rb : Reads s.heap b (.tuple ys) bs) (hal : alikeAll xs ys = true)
    (hu : A.units + min (PyData.tuple xs).depth (PyData.tuple ys).depth < cLine) (hq : Q (dataLt (.tuple xs) (.tuple ys)) s) : wpAny (model prog w) A (oneLt' true a b) Q E s := by
  cases ra with
  | @tuple l o vs n _ as₁ h1 h2 h3 h4 =>
    cases rb with
    | @tuple l' o' vs' n' _ bs₁ k1 k2 k3 k4 =>
      have n1 : vs.size = xs.length := by simpa using SeqAt.ReadsAll.length _ _ _ h4
      have n2 : vs'.size = ys.length := by simpa using SeqAt.ReadsAll.length _ _ _ k4
      rw [dataLt_tuple] at hq
      rw [oneLt'_eq]
      simp only [if_true]
      refine wpAny_bind (wpAny_cRoomFor (SeqAt.room_here hu) ?_)
      obtain ⟨cls, dd, data, sl⟩ := o
      obtain ⟨cls2, dd2, data2, sl2⟩ := o'
      simp only at h2 h3 k2 k3
      subst h2 h3 k2 k3
      refine wpAny_bind (wpAny_callSpecialIfBound?_slot (T := "tuple") ⟨_, h1, rfl⟩ F.slot_tuple_lt (call_meets F.slot_tuple_lt ⟨_, h1, rfl⟩ F.entry_tuple_lt (F.args_tuple_lt_2 _ _)
        (SeqAt.tuple_ltAt l l' vs vs' n n' dd dd2 sl sl2 (pairEq xs ys) (fun j => dataLt (xs.getD j .none) (ys.getD j .none))) ⟨h1, k1, fun j j1 j2 => ?_, fun j j1 j2 hj => ?_, ?_⟩))
      · have := eqAt_alikeAll xs ys A.in1 s vs.toList vs'.toList _ _ h4 k4 hal (SeqAt.room_in hu) j (by simpa using j1) (by simpa using j2)
        simpa using this
      · have := rcLt_alikeAll xs ys A.in1 s vs.toList vs'.toList _ _ h4 k4 hal (SeqAt.room_in hu) j (by simpa using j1) (by simpa using j2) hj
        simpa using this
      · rw [← firstLt_toks xs ys hal, ← n1, ← n2] at hq
        exact wpAny_truthy_bool hq
theorem firsts_map : ∀ {vs : List Value} {ds : List PyData}, EachIs (fun v d => ∃ as, Reads s.heap v d as) vs ds → (∀ d ∈ ds, ∃ xs, d = .tuple xs) →
    ∃ fs : List (Option Value), (∀ (E : Value → Shared → Prop) (Q : List (Option Value) → Shared → Prop), Q fs s → wpAny (model prog w) A (vs.mapM firstOfTuple') Q E s) ∧ ((∃ d ∈ ds, d = .tuple []) → none ∈ fs)
  | _, _, .nil, _ => ⟨[], fun E Q h => by rw [List.mapM_nil]; exact wpAny_pure h, fun ⟨d, hd, _⟩ => by simp at hd⟩
  | _, _, .cons (a := v) (b := d) (as := vs) (bs := ds) ⟨as, r⟩ t, ht => by
    obtain ⟨fs, h1, h2⟩ := firsts_map t fun d hd => ht d (List.mem_cons_of_mem _ hd)
    obtain ⟨xs, rfl⟩ := ht d (List.mem_cons_self ..)
    cases r with
    | @tuple l o its n _ as₁ g1 g2 g3 g4 =>
      refine ⟨its[0]? :: fs, fun E Q h => ?_, fun ⟨d', hd', e⟩ => ?_⟩
      · rw [List.mapM_cons]
        refine wpAny_bind ?_
        rw [kas_first_eq]
        refine wpAny_bind (Looks.here (show Looks (model prog w) s.heap (typeOf (.ref l)) o.cls from (Looks.ld g1).andThen .now) ?_)
        rw [g2, if_neg (by first | decide | simp)]
        refine wpAny_bind (listItems_at g1 g3 (wpAny_pure ?_))
        exact wpAny_bind (h1 E (fun bs s' => wpAny (model prog w) A (pure (its[0]? :: bs)) Q E s') (wpAny_pure h))
      · rcases List.mem_cons.mp hd' with q | q
        · rw [q] at e
          cases e
          have : its.size = 0 := by simpa using SeqAt.ReadsAll.length _ _ _ g4
          have z : its[0]? = none := by simp [this]
          rw [z]
          exact List.mem_cons_self ..
        · exact List.mem_cons_of_mem _ (h2 ⟨d', q, e⟩)
/-- alike tuples, empty ones among them -/
theorem sorts_tups {vs : List Value} {ds : List PyData} (e : EachIs (fun v d => ∃ as, Reads s.heap v d as) vs ds) (hal : AllAlike ds) (ht : ∀ d ∈ ds, ∃ xs, d = .tuple xs) (hm : ∃ d ∈ ds, d = .tuple []) (hu : ∀ d, d ∈ ds → A.units + d.depth < cLine) : SortsAt prog w A s (dataKind s.heap ds) vs := by
  have room : ∀ {d d' : PyData}, d ∈ ds → A.units + min d.depth d'.depth < cLine := fun {d d'} hd => Nat.lt_of_le_of_lt (Nat.add_le_add_left (Nat.min_le_left _ _) _) (hu d hd)
  refine ⟨fun v hv => ?_, ?_⟩
  · obtain ⟨d, hd, as, r⟩ := e.left v hv
    exact ⟨_, dataKind_some hal hd r⟩
  · have lt1 : H.LtAt prog w A s (dataKind s.heap ds) general' := fun E x y a b Q ha hb hq => by
      obtain ⟨d, as, hd, ra, rfl⟩ := dataKind_inv ha
      obtain ⟨d', as', hd', rb, rfl⟩ := dataKind_inv hb
      show wpAny (model prog w) A (oneLt' false x y) Q E s
      have hn : d ≠ .none := by obtain ⟨xs, e⟩ := ht d hd; rw [e]; simp
      exact oneLt_alike (fun z => by cases z) ra rb (hal d hd d' hd') hn (room hd) hq
    have lt2 : H.LtAt prog w A s (dataKind s.heap ds) oneType' := fun E x y a b Q ha hb hq => by
      obtain ⟨d, as, hd, ra, rfl⟩ := dataKind_inv ha
      obtain ⟨d', as', hd', rb, rfl⟩ := dataKind_inv hb
      rw [keyLt'_oneType]
      have h1 := hal d hd d' hd'
      have h2 := room (d' := d') hd
      obtain ⟨xs, rfl⟩ := ht d hd
      obtain ⟨ys, rfl⟩ := ht d' hd'
      exact oneLt_tups ra rb (by simpa [alike] using h1) h2 hq
    -- which of the two it is depends on the first item alone
    obtain ⟨fs, f1, f2⟩ := firsts_map (prog := prog) (w := w) (A := A) e ht
    have hn := f2 hm
    have hall : ¬ (fs.toArray.all fun x => x.isSome) = true := fun q => by
      simp only [List.all_toArray, List.all_eq_true] at q
      have := q none hn
      cases this
    cases hf : ((fs.toArray[0]?).bind id).isSome with
    | true =>
      refine ⟨general', lt1, fun _ E Q hq => ?_⟩
      rw [keyKind'_eq, List.mapM_toArray, map_eq_pure_bind]
      refine wpAny_bind (wpAny_bind (f1 E _ (wpAny_pure ?_)))
      rw [if_neg hall, if_pos hf]
      exact wpAny_pure hq
    | false =>
      refine ⟨oneType', lt2, fun h2 E Q hq => ?_⟩
      rw [keyKind'_eq, List.mapM_toArray, map_eq_pure_bind]
      refine wpAny_bind (wpAny_bind (f1 E _ (wpAny_pure ?_)))
      rw [if_neg hall, if_neg (by rw [hf]; exact Bool.false_ne_true)]
      rw [oneTypeOnly'_eq, List.mapM_toArray, map_eq_pure_bind]
      refine wpAny_bind (wpAny_bind (wpAny_bind (kas_mapM (r := Value.type "tuple") _ (fun v hv Q' hq => ?_) (wpAny_pure ?_))))
      · obtain ⟨d, hd, as, r⟩ := e.left v hv
        obtain ⟨xs, rfl⟩ := ht d hd
        exact (looks_reads r).here hq
      · have hall2 : ((List.map (fun _ => Value.type "tuple") vs).toArray.all fun x => x == Value.type "tuple") = true := by
          simp only [List.all_toArray, List.all_map, List.all_eq_true]
          intro _ _
          exact beq_self_eq_true _
        have h0 : (List.map (fun _ => Value.type "tuple") vs).toArray[0]? = some (Value.type "tuple") := by
          cases vs with
          | nil => simp at h2
          | cons v vs => simp
        rw [h0]
        simp only [hall2, if_true]
        exact wpAny_pure (wpAny_pure hq)
/-- alike data can be sorted -/
theorem sorts_all {vs : List Value} {ds : List PyData} (e : EachIs (fun v d => ∃ as, Reads s.heap v d as) vs ds) (hal : AllAlike ds) (hno : ∀ d ∈ ds, d ≠ .none) (hu : ∀ d, d ∈ ds → A.units + d.depth < cLine) : SortsAt prog w A s (dataKind s.heap ds) vs := by
  by_cases ht : ∀ d ∈ ds, ∃ xs, d = .tuple xs
  · by_cases hm : ∃ d ∈ ds, d = .tuple []
    · exact sorts_tups e hal ht hm hu
    · refine SortsAt.data e hal (.inl fun d hd => ?_) hu
      obtain ⟨xs, rfl⟩ := ht d hd
      cases xs with
      | nil => exact absurd ⟨_, hd, rfl⟩ hm
      | cons x r => exact ⟨x, r, rfl⟩
  · refine SortsAt.data e hal (.inr fun d hd => ⟨hno d hd, fun xs ex => ht fun d' hd' => ?_⟩) hu
    have q := hal d hd d' hd'
    rw [ex] at q
    cases d' <;> simp [alike] at q
    exact ⟨_, rfl⟩
/-- .. by what is known of an earlier heap -/
theorem sorts_conv {h0 : Heap} {vs : List Value} {ds : List PyData} (kp : ∀ b o, h0.get? b = some o → s.heap.get? b = some o) (hal : AllAlike ds) (e0 : EachIs (fun v d => ∃ as, Reads h0 v d as) vs ds) (S : SortsAt prog w A s (dataKind s.heap ds) vs) : SortsAt prog w A s (dataKind h0 ds) vs := by
  obtain ⟨kd, lt, kk⟩ := S.kind
  have conv : ∀ {x : Value} {a}, (dataKind h0 ds).keyOf x = some a → (dataKind s.heap ds).keyOf x = some a := fun {x a} ha => by
    obtain ⟨d, as, hd, ra, rfl⟩ := dataKind_inv ha
    exact dataKind_some hal hd (PyProof.Rows.Reads.keeps kp ra)
  refine ⟨fun v hv => ?_, kd, fun E x y a b Q ha hb hq => lt E x y a b (conv ha) (conv hb) hq, kk⟩
  obtain ⟨d, hd, as, r⟩ := e0.left v hv
  exact ⟨_, dataKind_some hal hd r⟩
/-- sorted(v), v a thing whose items can be collected -/
theorem sorted_src {E : Value → Shared → Prop} {v : Value} {vs : List Value} {κ : PyProof.Rows.KeyKind} {Q : Value → Shared → Prop} (hL : vs.length ≤ sizeLine)
    (hcol : ∀ (E : Value → Shared → Prop) (Q' : List Value → Shared → Prop), (∀ h' tk, (∀ b o, s.heap.get? b = some o → h'.get? b = some o) → Q' vs { s with heap := h', toks := tk }) → wpAny (model prog w) A.in1 (collect v) Q' E s)
    (hS : ∀ h' tk, (∀ b o, s.heap.get? b = some o → h'.get? b = some o) → SortsAt prog w A.in1.in1 { s with heap := h', toks := tk } κ vs)
    (h : ∀ (h1 h' : Heap) tk n, (∀ b o, s.heap.get? b = some o → h1.get? b = some o) → (∀ b o, h1.get? b = some o → h'.get? b = some o) → h'.get? h1.objs.size = some (seqObj "list" (sortVals κ false vs vs).toArray n) → Q (.ref h1.objs.size) { s with heap := h', toks := tk }) :
    wpAny (model prog w) A (call (.builtin "sorted") [v]) Q E s := by
  refine Calls.call_function_entry kind_sorted plain_sorted entry_sorted (args_sorted1 _) ?_
  unfold Builtin.«sorted»
  refine wpAny_bind (m := checkCount "sorted" 1 1 _) (wpAny_pure ?_)
  refine wpAny_bind (hcol _ _ fun h1 tk k1 => ?_)
  refine wpAny_bind (wpAny_newList ?_ hL)
  have hoL : (h1.push (seqObj "list" vs.toArray 0)).get? h1.objs.size = some (seqObj "list" vs.toArray 0) := Heap.get?_push_size _ rfl
  have hne : ∀ {b o}, h1.get? b = some o → b ≠ h1.objs.size := fun e => Nat.ne_of_lt (Heap.lt_size e)
  have keep : ∀ b o, h1.get? b = some o → (h1.push (seqObj "list" vs.toArray 0)).get? b = some o := fun b o e => Heap.get?_push_of_some _ e
  refine wpAny_bind (wpAny_holding (wpAny_call_entry slot_list_sort ⟨_, hoL, rfl⟩ entry_list_sort ?body (args_list_sort _)))
  case body =>
    refine list_sort_vals (s := { s with heap := h1.push (seqObj "list" vs.toArray 0), toks := tk }) hoL (hS _ _ fun b o e => sortingHeap_old (hne (k1 _ _ e)) (keep b o (k1 _ _ e))) hL ⟨_, rfl, wpAny_pure ⟨_, rfl, ?_⟩⟩
    obtain ⟨n, hn⟩ := sortedHeap_at (vs := vs) (out := (sortVals κ false vs vs).toArray) hoL
    exact h h1 _ _ n k1 (fun b o e => (sortedHeap_old (hne e) (Heap.lt_size (keep b o e))).trans (keep b o e)) hn
end
section
variable {X : Cx} {k : RC}
/-- the items of a thing, as values -/
theorem each_dp {pins : List (Addr × Obj)} {s : Shared} {σ : L2.St} {H : Hp} (hK : k.K = X.K) (I : Inv X pins σ H s) {F : Hp} (sub : Same F H) : ∀ {vs : List V} {ds : List D} {us : List Value}, Rs k F vs ds → Vals vs us → (∀ d ∈ ds, shp d = true) →
    EachIs (fun u d => ∃ as, Reads s.heap u (D.py d) as) us ds ∧ EachIs (fun u d => ∃ v, RelV v u ∧ R k F v d) us ds
  | _, _, _, .nil, .nil, _ => ⟨.nil, .nil⟩
  | _, _, _, .cons r rr, .cons v vv, h => by
    obtain ⟨h1, h2⟩ := each_dp hK I sub rr vv fun d hd => h d (List.mem_cons_of_mem _ hd)
    have dp := (r.mono sub).dp (SeqAt.canLay_of_shaped (h _ (List.mem_cons_self ..)))
    rw [hK] at dp
    exact ⟨.cons (Dp.reads I _ _ _ dp v) h1, .cons ⟨_, v, r⟩ h2⟩
theorem each_back {F : Hp} : ∀ {us : List Value} {ds : List D}, EachIs (fun u d => ∃ v, RelV v u ∧ R k F v d) us ds → ∃ vs, Vals vs us ∧ Rs k F vs ds
  | _, _, .nil => ⟨[], .nil, .nil⟩
  | _, _, .cons ⟨v, h1, h2⟩ t => by
    obtain ⟨vs, h3, h4⟩ := each_back t
    exact ⟨v :: vs, .cons h1 h3, .cons h2 h4⟩
theorem pys_map : ∀ ds : List D, D.pys ds = ds.map D.py
  | [] => rfl
  | d :: ds => by rw [D.pys, pys_map ds]; rfl
/-- sorted, once the items can be collected -/
theorem sort_go (hX : XOk X k) {pins : List (Addr × Obj)} {s : Shared} {σ : L2.St} {F H : Hp} {Q : VK} {u : Value} {us : List Value} {vs : List V} {ds : List D} (I : Inv X pins σ H s) (sub : Same F H) (rs : Rs k F vs ds) (rv : Vals vs us) (hz : vs.length ≤ sizeLine)
    (so : sortable ds)
    (hcol : ∀ (E : Value → Shared → Prop) (Q' : List Value → Shared → Prop), (∀ h' tk, (∀ b o, s.heap.get? b = some o → h'.get? b = some o) → Q' us { s with heap := h', toks := tk }) → wpAny (model X.prog X.w) X.A.in1 (collect u) Q' E s)
    (fin : ∀ p ws, H p = none → Rs k F ws (sortD ds) → Q (.ref p) (upd H p (.lst ws))) : wpAny (model X.prog X.w) X.A (call (.builtin "sorted") [u]) (EP X pins σ Q) X.xe s := by
  obtain ⟨so1, so2⟩ := so
  have un := hX.room.un
  have key : ∀ h' tk, (∀ b o, s.heap.get? b = some o → h'.get? b = some o) → EachIs (fun u d => ∃ as, Reads h' u (D.py d) as) us ds := fun h' tk kp =>
    (each_dp hX.K (I.kept (t' := tk) kp) sub rs rv fun d hd => (so1 d hd).1).1
  have e2 := (each_dp hX.K I sub rs rv fun d hd => (so1 d hd).1).2
  have hal : AllAlike (ds.map D.py) := fun d hd d' hd' => by
    obtain ⟨x, hx, rfl⟩ := List.mem_map.mp hd
    obtain ⟨y, hy, rfl⟩ := List.mem_map.mp hd'
    exact so2 x hx y hy
  -- the kind of keys is told at the heap of now
  refine sorted_src (κ := dataKind s.heap (ds.map D.py)) (by rw [← rv.length]; exact hz) hcol (fun h' tk kp => ?_) fun h1 h' tk n k1 k2 hn => ?_
  · refine sorts_conv (h0 := s.heap) kp hal (each_map (R := fun v d => ∃ as, Reads s.heap v d as) D.py (key s.heap s.toks fun _ _ e => e)) (sorts_all (s := { s with heap := h', toks := tk }) (each_map (R := fun v d => ∃ as, Reads h' v d as) D.py (key h' tk kp)) hal (fun d hd => ?_) fun d hd => ?_)
    · obtain ⟨x, hx, rfl⟩ := List.mem_map.mp hd
      exact (so1 x hx).2
    · obtain ⟨x, hx, rfl⟩ := List.mem_map.mp hd
      have := SeqAt.depth_of_shaped (so1 x hx).1
      show X.A.units + 1 + 1 + _ < _
      omega
  · have out := sortVals_data (h' := s.heap) (R := fun u d => ∃ v, RelV v u ∧ R k F v d) (enc := D.py) false e2 (key s.heap s.toks fun _ _ e => e) hal
    obtain ⟨ws, w1, w2⟩ := each_back out
    have I1 : Inv X pins σ H { s with heap := h1, toks := tk } := I.kept k1
    have hl : ws.length ≤ sizeLine := by
      rw [w2.length]
      show (ds.mergeSort leB).length ≤ _
      rw [List.length_mergeSort, ← rs.length]; exact hz
    refine ⟨.ref h1.objs.size, upd H h1.objs.size (.lst ws), I1.laid k2 (Nat.le_refl _) ⟨hl, _, n, w1, hn⟩, rfl, fin _ _ (I1.hok.fresh (Nat.le_refl _)) w2⟩
theorem cb_sorted (hX : XOk X k) : CallR X (.builtin "sorted") (rBlt k (bltP .sorted)) := by
  intro pins s σ H xs us Q I r ⟨ρ, σ', F, ds, QQ, rel, br, wp, fin⟩
  have hK := hX.K
  match ds, br, wp with
  | [.lst xs], br, wp =>
    obtain ⟨x, rfl, b⟩ := brs1 br
    obtain ⟨a, vs, rfl, t, q⟩ := b.lst rel.sub
    obtain ⟨u, rfl, rx⟩ := vals1 r
    cases rx
    obtain ⟨its, rv, pl, hz⟩ := I.list (.of t)
    have hlen := rv.length
    obtain ⟨o, ho, hc, n, hd⟩ := pl.isList
    exact sort_go hX I rel.sub q rv hz wp.1 (fun E Q' h => wpAny_collect_seq a (.inl rfl) ho hc hd (fun h' kp => by simpa using h h' s.toks kp) (by simp only [List.size_toArray] <;> omega)) fun p ws hn w2 => fin _ _ _ _ (.newL rel .refl hn w2) wp.2
  | [.tup xs], br, wp =>
    obtain ⟨x, rfl, b⟩ := brs1 br
    obtain ⟨a, vs, rfl, t, q⟩ := b.tup
    obtain ⟨u, rfl, rx⟩ := vals1 r
    cases rx
    have sq := (t.mono rel.sub).sq
    rw [hK] at sq
    obtain ⟨its, rv, pl, hz⟩ := I.tuple sq
    have hlen := rv.length
    obtain ⟨o, ho, hc, n, hd⟩ := pl
    exact sort_go hX I rel.sub q rv hz wp.1 (fun E Q' h => wpAny_collect_seq a (.inr rfl) ho hc hd (fun h' kp => by simpa using h h' s.toks kp) (by simp only [List.size_toArray] <;> omega)) fun p ws hn w2 => fin _ _ _ _ (.newL rel .refl hn w2) wp.2
  | [.dct kvs], br, wp =>
    obtain ⟨x, rfl, b⟩ := brs1 br
    obtain ⟨a, es, rfl, g1, g2, g3, g4⟩ := b.dct rel.sub
    obtain ⟨u, rfl, ru⟩ := vals1 r
    cases ru
    obtain ⟨o, ep, h1, h2, h3, h4, h5⟩ := dct_at I g1
    obtain ⟨vs, q1, q2⟩ := rk_keys g2
    have hl : vs.length = es.length := by rw [q1.length, List.length_map, g2.length]
    refine sort_go hX I rel.sub q1 q2 (by omega) wp.1 (fun E Q' h => ?_) fun p ws hn w2 => fin _ _ _ _ (.newL rel .refl hn w2) wp.2
    refine PySem.W.kdu_collect (kdl_raw h4 h2 h3) (show X.A.in1.handled = none from I.ok.hd hX.calm) h1 (by simpa using h5) fun h' tk acc' kp it => ?_
    have ea : acc'.toList = es.map (·.key) := by
      have hl : acc'.toList.length = es.length := by rw [Array.length_toList, it.1]; simp
      apply List.ext_getElem?
      intro j
      rw [List.getElem?_map]
      cases hj : acc'.toList[j]? with
      | none =>
        have := List.getElem?_eq_none_iff.mp hj
        rw [List.getElem?_eq_none (by omega)]
        rfl
      | some v =>
        obtain ⟨en, hen, hv⟩ := it.2 j v (by rw [← Array.getElem?_toList]; exact hj)
        have hen : es[j]? = some en := by simpa using hen
        rw [hen, hv]; rfl
    rw [ea]
    exact h h' tk kp
end
end PL
/-! PL15: isinstance, index, {}. -/
namespace PL
open PySem PySem.Spec PyProof.Rows L2
section
variable {X : Cx} {k : RC} {C : PC} {pos : Pos}
theorem qe_isi (hX : XOk X k) {t : Ty} {a : Expr} {ia : IE} {p p2 : Pos} {xt : Str} (hg : Gl X "isinstance") (hm : X.mg "isinstance" = none) (hgt : Gl X xt) (hmt : X.mg xt = none) (hvt : bootBuiltins xt = some (.type (tyName t))) (hnt : xt ≠ "__name__") (hdt : (xt == ("__debug__" : Str)) = false)
    (ha : PE X a (tE C k ia)) (he : starEach [a, .Name xt p2] X.env = (false, eval a X.env) :: starEach [.Name xt p2] X.env) :
    PE X (.Call (.Name "isinstance" p) [a, .Name xt p2] [] pos) (tE C k (.isi ia t)) :=
  weak (pe_callB (cb_isi hX t) hg hm boot_isinstance (pa_cons ha (pa_cons (pe_bltn (v := .ty (tyName t)) hgt hmt hvt rfl hnt hdt) pa_nil) he) (by decide) (by decide) he rfl) fun σ H Q ⟨ρ, F, QQ, rel, wp, fin⟩ =>
    ⟨ρ, F, _, rel, wp, fun r ρ1 v F1 H1 p ⟨h1, q⟩ => ⟨ρ1, σ, F1, r.toD, v, p.rel, p.lent, rfl, h1, fin _ _ _ _ _ (p.then (.flat p.rel .refl (.bl _))) q⟩⟩
/-! ### l.index(x) -/
theorem idx_find {xs : List D} {y : D} {j : Nat} (h : idxOfD xs y = some j) : ∃ z, xs[j]? = some z ∧ deq z y = true ∧ ∀ m z', m < j → xs[m]? = some z' → deq z' y = false := by
  unfold idxOfD at h
  obtain ⟨h1, h2, h3⟩ := List.findIdx?_eq_some_iff_getElem.mp h
  refine ⟨xs[j], List.getElem?_eq_getElem h1, h2, fun m z' hm hz => ?_⟩
  have q := h3 m hm
  have hl : m < xs.length := by omega
  rw [List.getElem?_eq_getElem hl] at hz
  cases hz
  simpa using q
/-- the index method, of lists and of tuples -/
theorem call_index (hX : XOk X k) {pins : List (Addr × Obj)} {s : Shared} {σ : L2.St} {F H : Hp} {x y : V} {u w : Value} {d e : D} {xs : List D} {j : Nat} {Q : VK} {T id : String} (I : Inv X pins σ H s) (sub : Same F H) (rx : RelV x u) (ry : RelV y w) (bx : BR k F H x d) (by' : BR k F H y e)
    (hT : (d = .lst xs ∧ id = "list.index") ∨ (d = .tup xs ∧ id = "tuple.index")) (h1 : shp e = true) (h2 : shp d = true) (hj : idxOfD xs e = some j) (q : Q (.int (j : Nat)) H) :
    wpAny (model X.prog X.w) X.A (call (.builtin id) [u, w]) (EP X pins σ Q) X.xe s := by
  have hK := hX.K
  have hu : X.A.units + 65 < cLine := by have := hX.room.un; omega
  obtain ⟨z, z1, z2, z3⟩ := idx_find hj
  have dy := by'.dp sub h1
  rw [hK] at dy
  have at_ : ∀ (m : Nat), (D.pys xs)[m]? = (xs[m]?).map D.py := pys_get xs
  rcases hT with ⟨rfl, rfl⟩ | ⟨rfl, rfl⟩
  · have dx := bx.dp sub h2
    rw [hK] at dx
    obtain ⟨a, vs, rfl, t, r⟩ := bx.lst sub
    refine mt_indexD hu pins s σ H (.ref a) [y] u [w] Q I rx (.cons ry .nil) ⟨a, y, e.py, D.pys xs, j, z.py, rfl, rfl, dx, dy, h2, h1, by rw [at_, z1]; rfl, z2, fun m z' hm hz => ?_, q⟩
    rw [at_] at hz
    obtain ⟨z'', e1, rfl⟩ := Option.map_eq_some_iff.mp hz
    exact z3 m z'' hm e1
  · obtain ⟨a, vs, rfl, t, r⟩ := bx.tup
    cases rx
    have c2 := SeqAt.canLay_of_shaped h2
    have sq := (t.mono sub).sq
    rw [hK] at sq
    obtain ⟨its, rv, ⟨⟨cls, dd, data, sls⟩, ho, hc, n, hd⟩, hz⟩ := I.tuple sq
    simp only at hc hd
    subst hc hd
    have dps := (r.mono sub).dp (by simpa only [D.py, PyData.canLay0] using c2)
    rw [hK] at dps
    obtain ⟨as, ra⟩ := Dp.readsAll I _ _ its dps rv
    obtain ⟨bs, rb⟩ := Dp.reads I _ _ _ dy ry
    have hxs : PyData.canLayAll0 (D.pys xs) = true := by simpa only [D.py, PyData.canLay0] using c2
    have hn : its.length = (D.pys xs).length := SeqAt.ReadsAll.length _ its as ra
    have hmap : its.map (SeqAt.readOf s.heap) = D.pys xs := SeqAt.readsAll_map _ its as hxs ra
    obtain ⟨hjl, _⟩ := List.getElem?_eq_some_iff.mp z1
    have hj' : j < its.toArray.size := by rw [List.size_toArray, hn, pys_len]; exact hjl
    have rd : ∀ (m : Nat) (hm : m < its.toArray.size) (z' : D), xs[m]? = some z' → SeqAt.readOf s.heap its.toArray[m] = z'.py := fun m hm z' hz' => by
      have hml : m < its.length := by simpa using hm
      have e0 : (D.pys xs)[m]? = some z'.py := by rw [at_, hz']; rfl
      rw [← hmap, List.getElem?_map, List.getElem?_eq_getElem hml] at e0
      have e1 : SeqAt.readOf s.heap its[m] = z'.py := Option.some.inj (show some (SeqAt.readOf s.heap its[m]) = some z'.py from e0)
      simpa using e1
    have dep := SeqAt.depth_of_shaped h1
    refine call_meets PySem.F.slot_tuple_index ⟨_, ho, rfl⟩ PySem.F.entry_tuple_index (PySem.F.args_tuple_index_2 _ _) (TI.tuple_indexAt a its.toArray n dd sls w (fun u => PyData.eqv (SeqAt.readOf s.heap u) e.py) j hj' ?_ ?_)
      ⟨ho, SeqAt.items_eqAt (vs := its.toArray) (show ReadsAll s.heap its.toArray.toList (D.pys xs) as from ra) rb hxs (SeqAt.canLay_of_shaped h1) ?_, ⟨.int (j : Nat), H, I.tok _, ⟨_, rfl⟩, q⟩⟩
    · show PyData.eqv (SeqAt.readOf s.heap its.toArray[j]) e.py = true
      rw [rd j hj' z z1]; exact z2
    · intro m hm hmj
      show PyData.eqv (SeqAt.readOf s.heap its.toArray[m]) e.py = false
      have hml : m < xs.length := by omega
      rw [rd m hm xs[m] (List.getElem?_eq_getElem hml)]
      exact z3 m _ hmj (List.getElem?_eq_getElem hml)
    · show X.A.units + 1 + min (PyData.depthAll (D.pys xs)) e.py.depth < cLine
      have := Nat.min_le_right (PyData.depthAll (D.pys xs)) e.py.depth
      omega
/-- o.index(y) -/
theorem qe_index (hX : XOk X k) {o e : Expr} {es : List Expr} {io ies : IE} {apos cpos : Pos} (ho : PE X o (tE C k io)) (ha : PA X (e :: es) (tA C k true ies))
    (hbase : attributeBase o "index" X.env (eval o X.env) = eval o X.env)
    (hfew : ((backTo cpos (starEach (e :: es) X.env)).all (fun x => !x.1) && (backToKw cpos (keywordEach [] X.env)).all (fun x => x.1.isSome)
      && decide ((e :: es).length + ([] : List Keyword).length + (if ([] : List Keyword).isEmpty then 0 else 1) < 30)) = true)
    (hline : (apos.endLine == cpos.line) = true) (hs : starEach (e :: es) X.env = (false, eval e X.env) :: starEach es X.env) (hplain : (backTo cpos (starEach es X.env)).any (·.1) = false) :
    PE X (.Call (.Attribute o "index" apos) (e :: es) [] cpos) (tE C k (.mth .index io ies)) := by
  refine ⟨fun pins s σ H Q I ⟨ρ, F, QQ, rel, wp, fin⟩ => ?_⟩
  refine wpAny_Call_method_late hbase hfew hline rfl (thn (ho.run pins s σ H (fun v H1 => ∃ ρ1 F1 r, EPost k ρ σ F H r v ρ1 F1 H1 ∧ recvOk .index r.toD = true ∧ wpA C true ies ρ1 fun ds ρ2 => mthP .index r.toD ds fun r => QQ r ρ2) I ⟨ρ, F, _, rel, wp, fun r ρ1 v F1 H1 p q => ⟨ρ1, F1, r, p, q⟩⟩) fun v s1 ⟨x, H1, I1, r1, ρ1, F1, r, p, rc, q1⟩ => ?_)
  have hK := hX.K
  have step : ∀ (T id : String) (xs : List D), ((r.toD = .lst xs ∧ id = "list.index") ∨ (r.toD = .tup xs ∧ id = "tuple.index")) → wpAny (model X.prog X.w) X.A (callWith cpos (.builtin id) [v] (backTo cpos (starEach (e :: es) X.env)) []) (EP X pins σ Q) X.xe s1 := fun T id xs hT => by
    have hA := ha.run cpos pins s1 σ H1 (fun vs H2 => ∃ ρ2 F2 ds, Rel k ρ2 σ F2 H2 ∧ ETr k ρ1 σ F1 H1 ρ2 F2 H2 ∧ BRs k F2 H2 vs ds ∧ mthP .index r.toD ds fun r => QQ r ρ2) I1 ⟨ρ1, F1, _, p.rel, q1, fun ds ρ2 vs F2 H2 r2 t2 a2 q => ⟨ρ2, F2, ds, r2, t2, a2, q⟩⟩
    rw [hs] at hA ⊢
    refine Calls.callWith_builtin (by show (false || (backTo cpos (starEach es X.env)).any (·.1)) = false; rw [hplain] <;> rfl) (Calls.evalArgs_plain ?_)
    refine thn hA fun us s2 ⟨vs, H2, I2, r2, ρ2, F2, ds, rel2, tr2, a2, q2⟩ => ?_
    have bx : BR k F2 H2 x r.toD := p.lent.tr tr2 rel2
    match ds, a2, q2 with
    | [y], a2, ⟨⟨s1, s2⟩, q2⟩ =>
      obtain ⟨yv, rfl, by'⟩ := brs1 a2
      obtain ⟨w, rfl, ry⟩ := vals1 r2
      have fl : ∀ j : Nat, QQ (.val (.int j)) ρ2 → Q (.int (j : Nat)) H2 := fun j q => fin _ _ _ _ _ (p.then ((⟨rel2, tr2, .non⟩ : EPost k ρ1 σ F1 H1 (.val .non) .non ρ2 F2 H2).then (.flat rel2 .refl (.int _)))) q
      rcases hT with ⟨e1, e2⟩ | ⟨e1, e2⟩
      · rw [e1] at q2
        obtain ⟨j, hj, q3⟩ := q2
        exact call_index hX (T := T) I2 rel2.sub r1 ry bx by' (.inl ⟨e1, e2⟩) s1 s2 hj (fl j q3)
      · rw [e1] at q2
        obtain ⟨j, hj, q3⟩ := q2
        exact call_index hX (T := T) I2 rel2.sub r1 ry bx by' (.inr ⟨e1, e2⟩) s1 s2 hj (fl j q3)
  have l := p.lent
  cases ed : r.toD with
  | lst xs =>
    rw [ed] at l
    obtain ⟨a, vs, rfl, t, rr⟩ := l.lst p.rel.sub
    cases r1
    obtain ⟨its, _, pl, _⟩ := I1.list (.of t)
    refine ⟨"list", "list.index", PySem.F.plainAttrs_list, PySem.F.slot_list_index, PySem.F.type_list_index, pl.isList.typeIs, fun a' e' => ?_, step "list" _ xs (.inl ⟨ed, rfl⟩)⟩
    cases e'
    obtain ⟨o, n, e, c, hd, _⟩ := pl
    exact ⟨o, e, hd⟩
  | tup xs =>
    rw [ed] at l
    obtain ⟨a, vs, rfl, t, rr⟩ := l.tup
    cases r1
    have tt := t.mono p.rel.sub
    have key : ∃ ob, s1.heap.get? a = some ob ∧ ob.cls = .type "tuple" ∧ ob.dict = none := by
      rcases tt with ⟨ob, h1, h2⟩ | ⟨ob, its, n, h1, h2, h3, _⟩
      · obtain ⟨g1, _, its, _, ob', g2, g3, _⟩ := I1.hok _ _ h1
        have := g1.symm.trans g2
        cases this
        exact ⟨ob, g1, g3, h2⟩
      · rw [hK] at h1
        exact ⟨ob, I1.kIn a ob h1, h2, h3⟩
    obtain ⟨ob, k1, k2, k3⟩ := key
    refine ⟨"tuple", "tuple.index", PySem.F.plainAttrs_tuple, PySem.F.slot_tuple_index, PySem.F.type_tuple_index, ⟨ob, k1, k2⟩, fun a' e' => ?_, step "tuple" _ xs (.inr ⟨ed, rfl⟩)⟩
    cases e'
    exact ⟨ob, k1, k3⟩
  | _ => rw [ed] at rc; cases rc
/-! ### {} -/
theorem dct_empty (a : Addr) (o : Obj) (F : Hp) (h : o.ExactDict) (hd : o.data = .dict #[] 0) (ha : (a == sysModules) = false) (e : F a = some (exO a o)) : DctAt F a [] := ⟨o, 0, e, h, by simpa using hd, ha, by decide⟩
theorem qe_dnew : PE X (.Dict [] [] pos) (tE C k .dnew) := ⟨fun pins s σ H Q I ⟨ρ, F, QQ, rel, wp, fin⟩ => wpAny_Dict_empty (by
    have hn := I.hok.fresh (Nat.le_refl s.heap.objs.size)
    have ha : (s.heap.objs.size == sysModules) = false := beq_eq_false_iff_ne.mpr (Ne.symm (Nat.ne_of_lt I.big))
    have hg : (s.heap.push { cls := .type "dict", data := .dict #[] }).get? s.heap.objs.size = some { cls := .type "dict", data := .dict #[] } := Heap.get?_push_size _ rfl
    refine ⟨.ref s.heap.objs.size, upd H s.heap.objs.size (exO s.heap.objs.size { cls := .type "dict", data := .dict #[] }), I.laid (t' := s.toks) (fun _ _ q => Heap.get?_push_of_some _ q) (Nat.le_refl _) ⟨hg, ⟨_, hg⟩, fun g1 g2 q1 q2 => q2 _ q1⟩, rfl, ?_⟩
    refine fin (.owd []) ρ _ F _ ⟨rel.newH hn, .keepH (Same.upd_new hn), s.heap.objs.size, rfl, hn, [], dct_empty _ _ _ ⟨rfl, rfl, rfl⟩ rfl ha upd_same, rel.fnone hn, rel.nopN hn, .nil, by simp, fun p hp => by simp at hp⟩ wp)⟩
end
end PL
/-! PL16: dict comprehensions. -/
namespace PL
open PySem PySem.Spec PyProof.Rows L2
section
variable {X : Cx} {k : RC} {pins : List (Addr × Obj)} {σ : L2.St} {F H : Hp} {s : Shared} {a : Addr} {es : List DictEntry} {kvs : List (D × D)} {y : V} {u : Value} {kd : D}
theorem dk_room0 (hX : XOk X k) : (nestedKind X.prog X.w).room X.A := by
  have := hX.room.un
  show X.A.units + 8 < cLine
  omega
/-- a dict comprehension's store -/
theorem d_dset (hX : XOk X k) (I : Inv X pins σ H s) (sub : Same F H) (da : DctAt H a es) (rk : RKs k F es kvs) (nd : (kvs.map fun p => nk p.1).Nodup) (r : R k F y kd) (ry : RelV y u) (ok : keyOk kvs kd = true) (hz : kvs.length < sizeLine)
    {vd : D} {vv : V} {w : Value} (rw' : RelV vv w) (rv : R k F vv vd)
    {Q : Unit → Shared → Prop} {E : Value → Shared → Prop} (h : ∀ s' es' o', Inv X pins σ (upd H a (exO a o')) s' → DctAt (upd H a (exO a o')) a es' → RKs k F es' (putD kvs kd vd) → ((putD kvs kd vd).map fun p => nk p.1).Nodup → (∀ p ∈ putD kvs kd vd, ∀ q ∈ putD kvs kd vd, scal p.1 = scal q.1) → Q () s') :
    wpAny (model X.prog X.w) X.A (dictSet a u w) Q E s := by
  obtain ⟨o0, ep0, hob, hex, hdt, hs, hl⟩ := dct_at I da
  obtain ⟨n, h1, h2, h3⟩ := keyOk_iff ok
  have mu : Mut (H a) := by
    obtain ⟨o, ep, e1, _⟩ := id da
    rw [e1]; trivial
  have fin : ∀ {h' : Heap} {t : Nat} {es' : List DictEntry} {o' : Obj} {ep' : Nat}, h'.get? a = some o' → o'.ExactDict → o'.data = .dict es'.toArray ep' → es'.length ≤ sizeLine → Heap.SameBut a s.heap h' → RKs k F es' (putD kvs kd vd) → ((putD kvs kd vd).map fun p => nk p.1).Nodup →
      (∀ p ∈ putD kvs kd vd, ∀ q ∈ putD kvs kd vd, scal p.1 = scal q.1) → Q () { s with heap := h', toks := t } := fun {h' t es' o' ep'} e1 e2 e3 e4 sb e5 e6 e7 => by
    have J : Inv X pins σ (upd H a (exO a o')) { s with heap := h', toks := t } := by
      refine I.write mu (.inl rfl) (fun b ob hb e => (sb.2 b hb).trans e) ⟨o', e1⟩ ?_
      refine ⟨e1, ⟨o', e1⟩, fun g1 g2 q1 q2 => q2 _ q1⟩
    exact h _ es' o' J ⟨o', ep', upd_same, e2, e3, hs, e4⟩ e5 e6 e7
  have hlen : ∀ {κ : Type} [DecidableEq κ] {n m : Nat}, n ≤ m + 1 → m < sizeLine → n ≤ sizeLine := fun a b => by omega
  cases e : scal kd with
  | true =>
    obtain ⟨c, hc⟩ := skey_of e
    have un : ∀ p ∈ kvs, scal p.1 = true := fun p hp => (h3 p hp).trans e
    obtain ⟨ps, q1, q2⟩ := dv_s hX I da rk nd un
    have hps : ps.length = kvs.length := q2.len
    refine wpAny_dictSet_pairs (hsz := by rw [hps]; omega) (key_is hc r ry _ _) q1 fun h' hd sb => ?_
    obtain ⟨o', esA, ep', g1, g2, g3, g4, g5, g6⟩ := hd
    have sx := q2.put hc rw' rv
    have hw := hX.w
    rw [← hw] at g4 g5
    obtain ⟨x1, x2⟩ := sx_rk (es := []) (P := X.prog) sx g5 (by simpa using g4)
    have l1 : esA.toList.length = (stored ps c w).length := g5.length
    have l2 := stored_length_le ps c w
    exact fin (es' := esA.toList) g1 g2 (by simpa using g3) (by omega) sb x1 ((sx_nodup sx).mp g6) fun p hp q hq => (x2 p hp).trans (x2 q hq).symm
  | false =>
    have un : ∀ p ∈ kvs, scal p.1 = false := fun p hp => (h3 p hp).trans e
    obtain ⟨ps, q1, q2⟩ := dv_h hX I sub da rk nd un
    obtain ⟨q, rfl⟩ := key_ref e h1 r
    cases ry
    have kin : k.K.In s.heap := by rw [hX.K]; exact I.kIn
    have hps : ps.length = kvs.length := q2.len
    refine wpAny_dictSet_heap (hsz := by rw [hps]; omega) (dk_room0 hX) ⟨nIs kin I.hok (r.mono sub) h1 rfl, h2⟩ q1 fun h' hd sb => ?_
    obtain ⟨o', esA, ep', g1, g2, g3, g4, g5, g6⟩ := hd
    have hx := q2.put h1 h2 r rw' rv
    have x1 := hx_rk (P := X.prog) hx
    have hw := hX.w
    rw [hw, ← g4] at x1
    have l1 : esA.toList.length = (storedH ps n q w).length := by rw [g4, List.length_map]
    have l2 : (storedH ps n q w).length ≤ ps.length + 1 := by
      unfold storedH
      split
      · rw [List.length_map]; omega
      · rw [List.length_append]; simp
    have x2 := hx_scal hx
    exact fin (es' := esA.toList) g1 g2 (by simpa using g3) (by omega) sb x1 ((hx_nodup hx).mp g6) fun p hp q hq => (x2 p hp).trans (x2 q hq).symm
end
section
variable {X : Cx} {k : RC} {C : PC}
/-- the empty dict object -/
abbrev emptyD : Obj := { cls := .type "dict", data := .dict #[] }
/-- a pair goes into the new dict at D -/
def rDs (k : RC) (D : Addr) (y z : V) (H : Hp) (Q : Hp → Prop) : Prop := ∃ F es kvs kd vd, Same F H ∧ DctAt H D es ∧ RKs k F es kvs ∧ (kvs.map fun p => nk p.1).Nodup ∧ R k F y kd ∧ keyOk kvs kd = true ∧ kvs.length < sizeLine ∧ R k F z vd ∧
  ∀ es' o', DctAt (upd H D (exO D o')) D es' → RKs k F es' (putD kvs kd vd) → ((putD kvs kd vd).map fun p => nk p.1).Nodup → (∀ p ∈ putD kvs kd vd, ∀ q ∈ putD kvs kd vd, scal p.1 = scal q.1) → Q (upd H D (exO D o'))
def tDx (k : RC) (wi : TI) (g : TG) (tt : TT) (tk tv : TE) (vs : List Nat) : TE := fun σ H Q => wi σ H fun J H1 => ∀ D, H1 D = none → (D == sysModules) = false → ∃ W : Nat → Nat → Hp → Prop, (∃ m, W 0 m (upd H1 D (exO D emptyD))) ∧ ∀ i m H, W i m H →
  (J.stop i H ∧ Q (.ref D) H) ∨ (J.go i H ∧ ∃ Nx : Hp → Prop, (∀ H', Nx H' → ∃ m', m' < m ∧ W (i + 1) m' H') ∧ ∀ x H', J.yld i H x H' → g x (L2.wipe σ vs) H' fun σ2 H2 => L2.wipe σ2 vs = L2.wipe σ vs ∧ tt σ2 H2 fun b H3 =>
    if b = true then tk σ2 H3 fun y H4 => tv σ2 H4 fun z H5 => rDs k D y z H5 Nx else Nx H3)
theorem ex_empty {P : Program} {w : World} {H : Hp} (h : Heap) : ObjOk P w H (h.push emptyD) h.objs.size (exO h.objs.size emptyD) :=
  have hg : (h.push emptyD).get? h.objs.size = some emptyD := Heap.get?_push_size _ rfl
  ⟨hg, ⟨_, hg⟩, fun g1 g2 q1 q2 => q2 _ q1⟩
theorem dx_core (hX : XOk X k) {pins : List (Addr × Obj)} {s : Shared} {σ : L2.St} {H : Hp} {Q : VK} {kx vx tg iter : Expr} {ifs : List Expr} {scope : Scope} {own : List (Str × Nat)} {pos pos' : Pos} {wi : TI} {g : TG} {tt : TT} {tk tv : TE} {use : Option (Value → Sem Unit)} {Qf : Value → Shared → Prop}
    (hN : X.N.Nodup) (I : Inv X pins σ H s) (hi : PI X tg iter wi) (ok : BlkOk X.N X.env.scope scope own)
    (hg : ∀ (s : Shared) (H : Hp) (C : Addr) (cl : List (Str × Addr)) (fp : List Addr), PG (X.blk s H scope (compEnvC scope cl C X.env) fp) tg g)
    (ht : ∀ (s : Shared) (H : Hp) (C : Addr) (cl : List (Str × Addr)) (fp : List Addr), PTs (X.blk s H scope (compEnvC scope cl C X.env) fp) ifs tt)
    (hk : ∀ (s : Shared) (H : Hp) (C : Addr) (cl : List (Str × Addr)) (fp : List Addr), PE (X.blk s H scope (compEnvC scope cl C X.env) fp) kx tk)
    (he : ∀ (s : Shared) (H : Hp) (C : Addr) (cl : List (Str × Addr)) (fp : List Addr), PE (X.blk s H scope (compEnvC scope cl C X.env) fp) vx tv) (hs : ∀ x, foldedSetIterable iter X.env x = pure x)
    (h : tDx k wi g tt tk tv (own.map (·.2)) σ H Q)
    (hRR : ∀ D C s' m H', Inv X pins σ H' s' → Q (.ref D) H' → s'.heap.Ns C m → FpOk X pins H' C → compPost (model X.prog X.w) X.A X.xe use Qf (.ref D) C (.ok .next) s') :
    wpAny (model X.prog X.w) X.A (comprehension (.DictComp kx vx [⟨tg, iter, ifs, 0⟩] scope pos) scope X.env pos' newDict false (eval iter X.env) use) Qf X.xe s := by
  have hc := hX.calm
  have hfree : ∀ y ∈ scope.names, y.2 = .free → ∃ c, X.env.cells.lookup y.1 = some c := fun y hy e => (ok.free y hy e).elim (fun z => I.ok.has _ (.inl z)) fun z => I.ok.has _ (.inr z)
  refine wpAny_comprehension_free (use := use) rfl hs (closure_ok hfree) ok.kind (fun y hy e => by rw [ok.uniq y hy, e])
    (thn (hi.run pins s σ H _ I h) fun xv s1 hx => thn hx fun itv s2 ⟨it, fp, tn, J, H2, e, I2, T, st2, f2, q⟩ => ?_)
  subst e
  refine wpAny_newObj_type (newEnv_comp ?_)
  -- the new dict stands at D
  obtain ⟨D, hD⟩ : ∃ D, s2.heap.objs.size = D := ⟨_, rfl⟩
  have hDn : H2 D = none := I2.hok.fresh (Nat.le_of_eq hD)
  have hDs : (D == sysModules) = false := beq_eq_false_iff_ne.mpr (by rw [← hD]; exact Ne.symm (Nat.ne_of_lt I2.big))
  obtain ⟨W, ⟨m0, w0⟩, turn⟩ := q D hDn hDs
  obtain ⟨s3, hs3⟩ : ∃ s3 : Shared, ({ s2 with heap := s2.heap.push emptyD } : Shared) = s3 := ⟨_, rfl⟩
  have h3 : s3.heap = s2.heap.push emptyD := by rw [← hs3]
  have I3 : Inv X pins σ (upd H2 D (exO D emptyD)) s3 := by
    rw [← hs3]
    refine I2.laid (t' := s2.toks) (fun b o e => Heap.get?_push_of_some _ e) (Nat.le_of_eq hD) ?_
    subst hD
    exact ex_empty s2.heap
  have below : ∀ b ∈ fp, b < s2.heap.objs.size := fun b hb => let ⟨_, e, _⟩ := T.obj _ _ st2 b hb; Heap.lt_size e
  obtain ⟨H3, hH3⟩ : ∃ H3, upd H2 D (exO D emptyD) = H3 := ⟨_, rfl⟩
  rw [hH3] at I3 w0
  have f3 : ∀ b ∈ fp, FpOk X pins H3 b ∧ b < s3.heap.objs.size := fun b hb => by
    have hlt := below b hb
    have ne : b ≠ D := by rw [← hD]; exact Nat.ne_of_lt hlt
    refine ⟨⟨?_, (f2 b hb).2⟩, ?_⟩
    · rw [← hH3, upd_ne ne]; exact (f2 b hb).1
    · rw [h3, Heap.size_push]; exact Nat.lt_succ_of_lt hlt
  have st3 : tn 0 s3.heap := T.keep _ _ _ st2 fun b _ o e => by rw [h3]; exact Heap.get?_push_of_some _ e
  have I4 := block_start I3 ok hN f3
  -- the block's parts
  obtain ⟨ce, hce⟩ : ∃ ce, compEnvC scope (cellsFrom (s3.heap.objs.size + 1) scope.names (cloFrom X.env.cells scope.names [])) s3.heap.objs.size X.env = ce := ⟨_, rfl⟩
  have pg := hg s3 H3 s3.heap.objs.size (cellsFrom (s3.heap.objs.size + 1) scope.names (cloFrom X.env.cells scope.names [])) fp
  have pt := ht s3 H3 s3.heap.objs.size (cellsFrom (s3.heap.objs.size + 1) scope.names (cloFrom X.env.cells scope.names [])) fp
  have pk := hk s3 H3 s3.heap.objs.size (cellsFrom (s3.heap.objs.size + 1) scope.names (cloFrom X.env.cells scope.names [])) fp
  have pv := he s3 H3 s3.heap.objs.size (cellsFrom (s3.heap.objs.size + 1) scope.names (cloFrom X.env.cells scope.names [])) fp
  show codeAny _ _ (.compStart (.DictComp kx vx [⟨tg, iter, ifs, 0⟩] scope pos) 0 (.ref it) (.ref s2.heap.objs.size) (compEnvC scope (cellsFrom (s2.heap.push emptyD).objs.size.succ scope.names (cloFrom X.env.cells scope.names [])) (s2.heap.push emptyD).objs.size X.env)) (compPost (model X.prog X.w) X.A X.xe use Qf (.ref s2.heap.objs.size) (s2.heap.push emptyD).objs.size) { s2 with heap := pushCells ((s2.heap.push emptyD).push { cls := .type "dict", data := .dict #[] }) scope.names }
  have es4 : ({ s2 with heap := pushCells ((s2.heap.push emptyD).push { cls := .type "dict", data := .dict #[] }) scope.names } : Shared) = { s3 with heap := pushCells (s3.heap.push { cls := .type "dict", data := .dict #[] }) scope.names } := by rw [← hs3]
  rw [es4, hD, ← h3]
  show codeAny _ _ (.compStart (.DictComp kx vx [⟨tg, iter, ifs, 0⟩] scope pos) 0 (.ref it) (.ref D) (compEnvC scope (cellsFrom (s3.heap.objs.size + 1) scope.names (cloFrom X.env.cells scope.names [])) s3.heap.objs.size X.env)) (compPost (model X.prog X.w) X.A X.xe use Qf (.ref D) s3.heap.objs.size) { s3 with heap := pushCells (s3.heap.push { cls := .type "dict", data := .dict #[] }) scope.names }
  rw [hce] at I4 pg pt pk pv ⊢
  have cL : ce.locals = s3.heap.objs.size := by rw [← hce]; rfl
  obtain ⟨s4, hs4⟩ : ∃ s4 : Shared, ({ s3 with heap := pushCells (s3.heap.push { cls := .type "dict", data := .dict #[] }) scope.names } : Shared) = s4 := ⟨_, rfl⟩
  rw [hs4] at I4 ⊢
  have st4 : tn 0 s4.heap := T.keep _ _ _ st3 fun b _ o e => by rw [← hs4]; exact pushCells_keeps _ _ _ _ (Heap.get?_push_of_some _ e)
  have stat : ∀ {σ' : L2.St} {H' : Hp} {s' : Shared}, Inv (X.blk s3 H3 scope ce fp) [] σ' H' s' → (∀ b ∈ fp, H' b = none) → ∀ b ∈ fp, FpOk (X.blk s3 H3 scope ce fp) [] H' b := fun I' hn b hb =>
    ⟨hn b hb, (I'.ok.exf b hb).1, I'.ok.exfs b hb, .inl hb, fun x c e => (I'.ok.exf b hb).2 x c e, fun p hp => absurd (show p ∈ ([] : List (Addr × Obj)) ++ [] from hp) (by simp)⟩
  have loop : codeAny (model X.prog X.w) X.A (.compLoop (.DictComp kx vx [⟨tg, iter, ifs, 0⟩] scope pos) 0 (.ref it) (.ref D) ce) (compPost (model X.prog X.w) X.A X.xe use Qf (.ref D) s3.heap.objs.size) s4 := by
    refine compLoop_anyD (fun n s' => ∃ i H', Inv (X.blk s3 H3 scope ce fp) [] (L2.wipe σ (own.map (·.2))) H' s' ∧ tn i s'.heap ∧ (∀ b ∈ fp, H' b = none) ∧ W i n H') ?_ m0 ⟨0, H3, I4, st4, fun b hb => (f3 b hb).1.1, w0⟩
    rintro n s5 ⟨i, H5, I5, st5, n5, w5⟩
    rcases turn i n H5 w5 with ⟨stop, qq⟩ | ⟨go, Nx, hNx, step⟩
    · refine thnF (T.done (X.blk s3 H3 scope ce fp) rfl rfl rfl hc i [] s5 _ H5 (fun _ _ => False) I5 (stat I5 n5) st5 stop) fun r s6 ⟨hr, I6⟩ => ?_
      subst hr
      have I7 : Inv X pins σ H5 s6 := I3.call' (ch := fp) I6.os I6.base I6.hok I6.bare fun b hb => ⟨(f3 b hb).1.2.2.2.1, (f3 b hb).1.2.1, (f3 b hb).1.2.2.2.2.1, (f3 b hb).1.2.2.2.2.2⟩
      have nC : H5 s3.heap.objs.size = none := by rw [← cL]; exact I6.free
      obtain ⟨m, hn, _⟩ := I6.loc
      have hn : s6.heap.Ns ce.locals m := hn
      rw [cL] at hn
      exact hRR D s3.heap.objs.size s6 m H5 I7 qq hn (I3.fpOk (Nat.le_refl _) nC)
    · refine thnF (T.item (X.blk s3 H3 scope ce fp) rfl rfl rfl hc i [] s5 _ H5 (fun _ _ => False) I5 (stat I5 n5) st5 go) fun r s6 ⟨u, hr, h6⟩ => ?_
      subst hr
      refine thnF h6 fun _ s7 ⟨x, H7, I7, r7, y7, st7, n7⟩ => ?_
      refine thnF (pg.run _ s7 _ H7 x u _ (I7.pinned (stat I7 n7) (T.obj _ _ st7)) r7 (step x H7 y7)) fun _ s8 ⟨σ8, H8, I8, hw8, q8⟩ => ?_
      refine thnF (pt.run _ s8 σ8 H8 _ I8 q8) fun b s9 ⟨H9, I9, q9⟩ => ?_
      have fin : ∀ {s' : Shared} {H' : Hp}, Inv (X.blk s3 H3 scope ce fp) ([] ++ pinsAt fp s7.heap) σ8 H' s' → Nx H' → ∃ m, m < n ∧ ∃ i H', Inv (X.blk s3 H3 scope ce fp) [] (L2.wipe σ (own.map (·.2))) H' s' ∧ tn i s'.heap ∧ (∀ b ∈ fp, H' b = none) ∧ W i m H' := fun {s' H'} I' nx => by
        obtain ⟨m', hm, w'⟩ := hNx H' nx
        have pin' : ∀ b ∈ fp, ∀ o, s7.heap.get? b = some o → s'.heap.get? b = some o ∧ H' b = none := fun b hb o e =>
          let z := I'.pin (b, o) (List.mem_append_right _ (List.mem_append_right _ (mem_pinsAt hb e)))
          ⟨z.1, z.2.1⟩
        have hl : (L2.wipe σ (own.map (·.2))).length = σ8.length := by rw [← hw8, wipe_length]
        refine ⟨m', hm, i + 1, H', (I'.unpinned (pins := [])).weak hl (fun j v e => ?_), T.keep _ _ _ st7 fun b hb o e => (pin' b hb o e).1, fun b hb => ?_, w'⟩
        · rw [← hw8] at e
          exact (wipe_some e).1
        · obtain ⟨o, e, _⟩ := T.obj _ _ st7 b hb
          exact (pin' b hb o e).2
      cases b with
      | false =>
        simp only [Bool.false_eq_true, if_false] at q9 ⊢
        exact fin I9 q9
      | true =>
        simp only [if_true] at q9 ⊢
        refine thnF (pk.run _ s9 σ8 H9 _ I9 q9) fun z s10 ⟨yk, H10, I10, r10, q10⟩ => ?_
        refine thnF (pv.run _ s10 σ8 H10 _ I10 q10) fun z2 s11 ⟨yv, H11, I11, r11, q11⟩ => ?_
        obtain ⟨F, es, kvs, kd, vd, g1, g2, g3, g4, g5, g6, g7, g8, g9⟩ := q11
        have hXb : XOk (X.blk s3 H3 scope ce fp) k := ⟨hX.K, hX.w, hX.calm, hX.room⟩
        exact d_dset hXb I11 g1 g2 g3 g4 g5 r10 g6 g7 r11 g8 fun s12 es' o' I12 d1 d2 d3 d4 => fin I12 (g9 es' o' d1 d2 d3 d4)
  exact codeAny_compStart_dict loop (T.self X.A 0 _ _ _ st4 loop)
/-- as a value -/
theorem pe_dx (hX : XOk X k) {kx vx tg iter : Expr} {ifs : List Expr} {scope : Scope} {own : List (Str × Nat)} {pos : Pos} {wi : TI} {g : TG} {tt : TT} {tk tv : TE} (hN : X.N.Nodup) (hi : PI X tg iter wi) (ok : BlkOk X.N X.env.scope scope own)
    (hg : ∀ (s : Shared) (H : Hp) (C : Addr) (cl : List (Str × Addr)) (fp : List Addr), PG (X.blk s H scope (compEnvC scope cl C X.env) fp) tg g)
    (ht : ∀ (s : Shared) (H : Hp) (C : Addr) (cl : List (Str × Addr)) (fp : List Addr), PTs (X.blk s H scope (compEnvC scope cl C X.env) fp) ifs tt)
    (hk : ∀ (s : Shared) (H : Hp) (C : Addr) (cl : List (Str × Addr)) (fp : List Addr), PE (X.blk s H scope (compEnvC scope cl C X.env) fp) kx tk)
    (he : ∀ (s : Shared) (H : Hp) (C : Addr) (cl : List (Str × Addr)) (fp : List Addr), PE (X.blk s H scope (compEnvC scope cl C X.env) fp) vx tv) (hs : ∀ x, foldedSetIterable iter X.env x = pure x) :
    PE X (.DictComp kx vx [⟨tg, iter, ifs, 0⟩] scope pos) (tDx k wi g tt tk tv (own.map (·.2))) := by
  refine ⟨fun pins s σ H Q I h => ?_⟩
  rw [arm_eval_DictComp]
  refine dx_core hX hN I hi ok hg ht hk he hs h fun D C s' m H' I' q hn f => ⟨m, hn, fun h'' sb => ?_⟩
  obtain ⟨f0, f1, f2, f3, f4, f5⟩ := f
  exact ⟨.ref D, H', I'.turned (t' := s'.toks) (fun b o hb e => (sb.2 b hb).trans e) f0 f1 f3 f4 f5, rfl, q⟩
/-- the new dict that a comprehension fills -/
structure NewX (k : RC) (ρ : PEnv) (σ : L2.St) (F H : Hp) (D : Addr) (acc : List (PL.D × PL.D)) : Prop where
  at_ : ∃ es, DctAt H D es ∧ RKs k F es acc ∧ (acc.map fun p => nk p.1).Nodup ∧ ∀ p ∈ acc, ∀ q ∈ acc, scal p.1 = scal q.1
  fn : F D = none
  np : ¬ inP' k D
  no : ∀ i, ¬ OwnAt ρ σ i D
theorem dct_there {H : Hp} {D : Addr} {es : List DictEntry} (h : DctAt H D es) : ∃ o, H D = some (exO D o) := let ⟨o, _, e, _⟩ := h; ⟨o, e⟩
theorem NewX.next {ρ ρ' : PEnv} {σ : L2.St} {F F' H H' : Hp} {D : Addr} {acc : List (PL.D × PL.D)} (n : NewX k ρ σ F H D acc) (e : ETr k ρ σ F H ρ' F' H') : NewX k ρ' σ F' H' D acc := by
  obtain ⟨es, ⟨o, ep, h1, hr⟩, h2, h3⟩ := n.at_
  exact ⟨⟨es, ⟨o, ep, e.heap _ _ h1 fun z => n.np z.inP, hr⟩, h2.mono e.sub, h3⟩, (e.vis D (by rw [h1]; simp) n.no).trans n.fn, n.np, fun i z => n.no i (e.own i D z)⟩
theorem NewX.slots {ρ ρ' : PEnv} {σ σ' : L2.St} {F H : Hp} {D : Addr} {acc : List (PL.D × PL.D)} (n : NewX k ρ σ F H D acc) (h : ∀ i a, OwnAt ρ' σ' i a → OwnAt ρ σ i a) : NewX k ρ' σ' F H D acc :=
  ⟨n.at_, n.fn, n.np, fun i z => n.no i (h i D z)⟩
/-- the reading of a dict comprehension gives the hand layer's -/
theorem dx_sem {vs : List Nat} {tg : Tg} {tp : Bool} {it ic ik iv : IE} {σ : L2.St} {H : Hp} {Q : VK} (htp : tp = true → ∃ is, tg = .tp is) (htg : ∀ i ∈ tg.slots, i ∈ vs) (h : tE C k (.dcomp vs tg it ic ik iv) σ H Q) : tDx k (tI C k true tp it) (tG k tg) (tT C k ic) (tE C k ik) (tE C k iv) vs σ H Q := by
  obtain ⟨ρ, F, QQ, rel, ⟨hpl, wp⟩, fin⟩ := h
  refine ⟨ρ, F, _, rel, wp, fun ds ρ1 F1 H1 J rel1 tr1 itok q => fun D hD hDs => ?_⟩
  have hpl1 : ∀ i ∈ vs, (ρ1.get i).plain = true := fun i hi => by
    cases e : (ρ1.get i).plain with
    | true => rfl
    | false =>
      obtain ⟨a, e1, _⟩ := SlotR.here (x := none) (rel1.slot i) e
      have := (tr1.own i a ⟨e, e1⟩).1
      rw [plain_at hpl hi] at this
      cases this
  have hn : H D = none := none_back tr1.there hD
  have relw := (rel1.wipe (vs := vs)).newH (o := exO D emptyD) hD
  have btr : BTr k ρ σ F H (ρ1.wipe vs) (L2.wipe σ vs) F1 (upd H1 D (exO D emptyD)) := (tr1.b.slots fun i a z => (own_wipe z).1).write hn
  have nd : NewX k (ρ1.wipe vs) (L2.wipe σ vs) F1 (upd H1 D (exO D emptyD)) D [] := ⟨⟨[], dct_empty D emptyD _ ⟨rfl, rfl, rfl⟩ rfl hDs upd_same, .nil, by simp, fun p hp => by simp at hp⟩, rel1.fnone hD, rel1.nopN hD, fun i z => rel1.ownH (own_wipe z).1 hD⟩
  refine ⟨fun i m H' => m = ds.length - i ∧ i ≤ ds.length ∧ ∃ ρt F' acc, Rel k ρt (L2.wipe σ vs) F' H' ∧ BTr k ρ σ F H ρt (L2.wipe σ vs) F' H' ∧ Same F1 F' ∧ SameX k H1 H' ∧ NewX k ρt (L2.wipe σ vs) F' H' D acc ∧
      dcompL vs tg (wpE C ic) (wpE C ik) (wpE C iv) (ds.drop i) ρt acc (fun acc ρ2 => QQ (.owd acc) (ρ1.back ρ2 vs)),
    ⟨ds.length, by simp, by omega, ρ1.wipe vs, F1, [], relw, btr, fun _ _ h => h, .of (Same.upd_new hD), nd, q⟩, ?_⟩
  rintro i m H' ⟨rfl, hi, ρt, F', acc, rel', tr', sub', heap', nd', q'⟩
  obtain ⟨i1, i2⟩ := itok F' H' ⟨sub', fun _ => heap', rel'.sub⟩ i
  by_cases hlt : i < ds.length
  · obtain ⟨go, yl⟩ := i2 ds[i] (List.getElem?_eq_getElem hlt)
    rw [List.drop_eq_getElem_cons hlt] at q'
    refine .inr ⟨go, fun H2 => ∃ ρt F' acc, Rel k ρt (L2.wipe σ vs) F' H2 ∧ BTr k ρ σ F H ρt (L2.wipe σ vs) F' H2 ∧ Same F1 F' ∧ SameX k H1 H2 ∧ NewX k ρt (L2.wipe σ vs) F' H2 D acc ∧
      dcompL vs tg (wpE C ic) (wpE C ik) (wpE C iv) (ds.drop (i + 1)) ρt acc (fun acc ρ2 => QQ (.owd acc) (ρ1.back ρ2 vs)), fun H2 h => ⟨_, (by omega : ds.length - (i + 1) < ds.length - i), rfl, hlt, h⟩, fun x H'' y => ?_⟩
    obtain ⟨sH, iok⟩ := yl x H'' y
    have k0 : ETr k ρt (L2.wipe σ vs) F' H' ρt F' H'' := .keepH sH
    have rel2 := rel'.keepH sH
    refine ⟨ρt, F', ds[i], _, rel2, ?_, q', fun ρ3 σ3 rel3 tt q3 => ?_⟩
    · rcases iok with r | ⟨h1, T, ws, es, h2, h3, h4, h5⟩
      · exact .inl r
      · obtain ⟨is, e⟩ := htp h1
        exact .inr ⟨is, T, ws, es, e, h2, h3, h4, h5⟩
    · have w3 : L2.wipe σ3 vs = L2.wipe σ vs := (tt.wp vs htg).trans wipe_idem
      refine ⟨w3, ρ3, F', _, rel3, q3, fun b ρ4 F4 H4 rel4 tr4 ⟨b', eb, q4⟩ => ?_⟩
      cases eb
      have nd4 := ((nd'.next k0).slots tt.own).next tr4
      have tr4' := ((tr'.next k0).slots tt.own).next tr4
      have sub4 : Same F1 F4 := fun b o e => tr4.sub b o (sub' b o e)
      have heap4 : SameX k H1 H4 := (heap'.trans k0.heap).trans tr4.heap
      have ends : ∀ {ρ6 F6 H6 acc6}, Rel k ρ6 σ3 F6 H6 → BTr k ρ σ F H ρ6 σ3 F6 H6 → NewX k ρ6 σ3 F6 H6 D acc6 → Rel k (ρ6.wipe vs) (L2.wipe σ vs) F6 H6 ∧ BTr k ρ σ F H (ρ6.wipe vs) (L2.wipe σ vs) F6 H6 ∧ NewX k (ρ6.wipe vs) (L2.wipe σ vs) F6 H6 D acc6 := fun {ρ6 F6 H6 acc6} r t n => by
        rw [← w3]
        exact ⟨r.wipe, t.slots fun i a z => (own_wipe z).1, n.slots fun i a z => (own_wipe z).1⟩
      cases b with
      | false =>
        rw [brn_ite, if_neg Bool.false_ne_true] at q4; rw [if_neg Bool.false_ne_true]
        obtain ⟨e1, e2, e3⟩ := ends rel4 tr4' nd4
        exact ⟨_, _, _, e1, e2, sub4, heap4, e3, q4⟩
      | true =>
        rw [brn_ite, if_pos rfl] at q4; rw [if_pos rfl]
        refine ⟨ρ4, F4, _, rel4, q4, fun r ρ5 v F5 H5 p q5 => ?_⟩
        obtain ⟨kd, F6, q6, _, rk, rel6, tr6⟩ := p.keep rel4 q5
        refine ⟨ρ5, F6, _, rel6, q6, fun r2 ρ7 v2 F7 H7 p7 q7 => ?_⟩
        obtain ⟨vd, F8, ⟨g1, g2, g3⟩, _, rv, rel8, tr8⟩ := p7.keep rel6 q7
        have nd8 := (nd4.next tr6).next tr8
        obtain ⟨es, d1, d2, d3, d4⟩ := nd8.at_
        refine ⟨F8, es, acc, kd, vd, rel8.sub, d1, d2, d3, rk.mono tr8.sub, g1, g2, rv, fun es' o' f1 f2 f3 f4 => ?_⟩
        have nd9 : NewX k ρ7 σ3 F8 (upd H7 D (exO D o')) D (putD acc kd vd) := ⟨⟨es', f1, f2, f3, f4⟩, nd8.fn, nd8.np, nd8.no⟩
        obtain ⟨e1, e2, e3⟩ := ends (rel8.writeD nd8.no nd8.fn nd8.np) (((tr4'.next tr6).next tr8).write hn) nd9
        refine ⟨_, _, _, e1, e2, fun b o e => tr8.sub b o (tr6.sub b o (sub4 b o e)), ?_, e3, g3⟩
        exact ((heap4.trans tr6.heap).trans tr8.heap).trans' hD
  · have e : i = ds.length := by omega
    subst e
    rw [List.drop_length] at q'
    refine .inl ⟨i1 (Nat.le_refl _), ?_⟩
    obtain ⟨r1, r2⟩ := rel1.back hpl1 rel' sub'
    have nd2 := nd'.slots r2
    obtain ⟨es, d1, d2, d3, d4⟩ := nd2.at_
    exact fin (.owd acc) _ _ _ _ ⟨r1, (tr'.slots r2).e, D, rfl, hn, es, d1, nd2.fn, nd2.np, d2, d3, d4⟩ q'
end
end PL
/-! PL17: the checker: a text is what the IR says. -/
namespace PL
open PySem PySem.Spec PyProof.Rows L2

/-! ### facts about a text's parts -/
def nst : Expr → Bool
  | .Starred _ _ => false
  | _ => true
theorem star1 {e : Expr} {es : List Expr} {env : Env} (h : nst e = true) : starEach (e :: es) env = (false, eval e env) :: starEach es env := by
  cases e <;> first | rfl | cases h
theorem starA {es : List Expr} {env : Env} {pos : Pos} (h : es.all nst = true) : (backTo pos (starEach es env)).any (·.1) = false := by
  induction es with
  | nil => rfl
  | cons e es ih =>
    simp only [List.all_cons, Bool.and_eq_true] at h
    rw [star1 h.1]
    show (false || (backTo pos (starEach es env)).any (·.1)) = false
    rw [ih h.2]
    rfl
theorem fewA {es : List Expr} {env : Env} {pos : Pos} (h : es.all nst = true) (hl : es.length < 30) : ((backTo pos (starEach es env)).all (fun x => !x.1) && (backToKw pos (keywordEach [] env)).all (fun x => x.1.isSome)
    && decide (es.length + ([] : List Keyword).length + (if ([] : List Keyword).isEmpty then 0 else 1) < 30)) = true := by
  have e1 : (backTo pos (starEach es env)).all (fun x => !x.1) = true := by
    have := starA (env := env) (pos := pos) h
    generalize backTo pos (starEach es env) = l at this
    induction l with
    | nil => rfl
    | cons x l ih =>
      simp only [List.any_cons, Bool.or_eq_false_iff] at this
      simp only [List.all_cons, this.1, ih this.2]
      rfl
  rw [e1]
  have e2 : (es.length + ([] : List Keyword).length + (if ([] : List Keyword).isEmpty then 0 else 1) < 30) := by simpa using hl
  rw [decide_eq_true e2]
  rfl
def bas : Expr → Bool
  | .Call (.Name _ _) [] [] _ => false
  | _ => true
theorem base_ok {o : Expr} {a : Str} {env : Env} {w : Sem Value} (h : bas o = true) : attributeBase o a env w = w := by
  cases o with
  | Call f as kw p =>
    cases f with
    | Name x q =>
      cases as with
      | nil =>
        cases kw with
        | nil => cases h
        | cons _ _ => rfl
      | cons _ _ => rfl
    | _ => rfl
  | _ => rfl
def isComp : Expr → Bool
  | .ListComp _ _ _ _ => true
  | .SetComp _ _ _ _ => true
  | .DictComp _ _ _ _ _ => true
  | _ => false
theorem sw_no {e : Expr} {t : Option Expr} {l : Nat} {env : Env} (h : isComp e = false) : swapsWith e t l env = pure false := by
  cases e <;> first | rfl | cases h
theorem sw_other {e t : Expr} {l : Nat} {env : Env} (h : ∀ x p, t ≠ .Name x p) : swapsWith e (some t) l env = pure false := by
  cases e <;> first | rfl | (cases t <;> first | rfl | exact absurd rfl (h _ _))
def pln : Expr → Bool
  | .UnaryOp _ _ _ => false
  | .BoolOp _ _ _ => false
  | .IfExp _ _ _ _ => false
  | .Compare _ _ _ _ => false
  | _ => true
theorem isT_pln {e : Expr} {env : Env} (h : pln e = true) : ∀ whole, isTrue e env whole = (do let v ← whole; standAt e.pos; holding [v] (truthy v)) := fun w => by
  cases e <;> first | rfl | cases h
def pix : Expr → Bool
  | .Slice _ _ _ _ => false
  | _ => true
theorem pix_ok {b : Expr} (h : pix b = true) : PlainIx b := fun o i => by
  cases b <;> first | rfl | cases h
theorem asgS_ok {o i : Expr} {pos : Pos} {env : Env} (h : pix i = true) : ∀ v, assign (.Subscript o i pos) env v = (do
    let ov ← holding [v] (eval o env)
    let iv ← holding [v, ov] (eval i env)
    standAt pos
    holding [v, ov, iv] (setItem ov iv v)
    release [v, ov, iv] []) := fun v => by
  cases i <;> first | rfl | cases h
def isSet : Expr → Bool
  | .Set _ _ _ => true
  | _ => false
theorem set_ok {e : Expr} {env : Env} (h : isSet e = false) : ∀ x, foldedSetIterable e env x = pure x := fun x => by
  cases e <;> first | rfl | cases h
def isTup : Expr → Bool
  | .Tuple _ _ _ => true
  | _ => false
theorem swp_ok {es : List Expr} {k : Nat} {p : Pos} {e : Expr} {env : Env} (h : isTup e = false) : swappedStores [.Tuple es k p] e env = pure none := by
  cases e <;> first | rfl | cases h

/-! ### the checker -/
structure CK where
  N : List Str
  sc : Scope
  blk : Option Scope
  fs : List (Nat × Str)
  cs : List (Str × D)
mutual
/-- the same data, told by looking -/
def sameD : D → D → Bool
  | .int i, .int j => decide (i = j)
  | .str x, .str y => decide (x = y)
  | .bl x, .bl y => decide (x = y)
  | .non, .non => true
  | .tup xs, .tup ys => sameDs xs ys
  | _, _ => false
def sameDs : List D → List D → Bool
  | [], [] => true
  | x :: xs, y :: ys => sameD x y && sameDs xs ys
  | _, _ => false
end
mutual
theorem sameD_eq : ∀ {a b : D}, sameD a b = true → a = b
  | .int i, b, h => by cases b <;> first | (rw [of_decide_eq_true (h : decide (i = _) = true)]) | exact absurd h Bool.false_ne_true
  | .str x, b, h => by cases b <;> first | (rw [of_decide_eq_true (h : decide (x = _) = true)]) | exact absurd h Bool.false_ne_true
  | .bl x, b, h => by cases b <;> first | (rw [of_decide_eq_true (h : decide (x = _) = true)]) | exact absurd h Bool.false_ne_true
  | .non, b, h => by cases b <;> first | rfl | exact absurd h Bool.false_ne_true
  | .tup xs, b, h => by
    cases b with
    | tup ys => rw [sameDs_eq (a := xs) (b := ys) h]
    | _ => exact absurd h Bool.false_ne_true
  | .lst _, b, h => by cases b <;> exact absurd h Bool.false_ne_true
  | .dct _, b, h => by cases b <;> exact absurd h Bool.false_ne_true
  | .rng _ _, b, h => by cases b <;> exact absurd h Bool.false_ne_true
  | .pool, b, h => by cases b <;> exact absurd h Bool.false_ne_true
theorem sameDs_eq : ∀ {a b : List D}, sameDs a b = true → a = b
  | [], [], _ => rfl
  | x :: xs, y :: ys, h => by
    have h : (sameD x y && sameDs xs ys) = true := h
    simp only [Bool.and_eq_true] at h
    rw [sameD_eq h.1, sameDs_eq h.2]
  | [], _ :: _, h => absurd h Bool.false_ne_true
  | _ :: _, [], h => absurd h Bool.false_ne_true
end
def CK.lk (K : CK) (x : Str) : Option NameKind := K.sc.names.lookup x
def CK.vis (K : CK) (x : Str) : Bool := decide (K.lk x = some .local) || decide (K.lk x = some .cell) || decide (K.lk x = some .free)
def CK.loc (K : CK) (x : Str) : Bool := decide (K.lk x = some .local) || decide (K.lk x = some .cell)
def CK.fnb (K : CK) (x : Str) : Bool := match K.blk with
  | none => true
  | some s => s.names.lookup x == some .cell
def CK.sto (K : CK) (i : Nat) (x : Str) : Bool := decide (K.N[i]? = some x) && K.loc x && (K.fnb x || decide (K.lk x = some .local))
def CK.var (K : CK) (i : Nat) (x : Str) : Bool := decide (K.N[i]? = some x) && K.vis x && !(x == ("__debug__" : Str)) && !(x == ("__classdict__" : Str))
def CK.gl (K : CK) (x : Str) : Bool := decide (K.lk x = some .globalImplicit)
def CK.into (K : CK) (s : Scope) : CK := { K with sc := relS s K.sc, blk := some s }
def okCg (K : CK) (d : D) : Expr → Bool
  | .Name x _ => K.gl x && !(x == ("__debug__" : Str)) && K.cs.any fun p => decide (p.1 = x) && sameD p.2 d
  | _ => false
def okC : D → Expr → Bool
  | .int i, .Constant (.int j) _ _ => decide (i = j)
  | .str x, .Constant (.str y) _ _ => decide (x = y)
  | .bl x, .Constant (.bool y) _ _ => decide (x = y)
  | .non, .Constant .none _ _ => true
  | _, _ => false
def okG (K : CK) : Tg → Expr → Bool
  | .nm i, .Name x _ => K.sto i x
  | .tp is, .Tuple es _ _ => okN is es
  | _, _ => false
where okN : List Nat → List Expr → Bool
  | [], [] => true
  | i :: is, .Name x _ :: es => K.sto i x && okN is es
  | _, _ => false
def ownOf (N : List Str) (vs : List Nat) : List (Str × Nat) := vs.filterMap fun i => (N[i]?).map fun x => (x, i)
def okB0 (K : CK) (s : Scope) (vs : List Nat) : Bool :=
  decide (s.kind = .function) && s.names.all (fun y => decide (s.names.lookup y.1 = some y.2)) && decide ((ownOf K.N vs).map (·.2) = vs) &&
  s.names.all (fun y => !decide (y.2 = .free) || (decide (K.lk y.1 = some .cell) || decide (K.lk y.1 = some .free))) &&
  s.names.all (fun y => !(decide (y.2 = .local) || decide (y.2 = .cell)) || (decide (y.1 ∈ (ownOf K.N vs).map (·.1)) || !decide (y.1 ∈ K.N)))
def bltOf : BI → Option (Str × Bool × String)
  | .len => some ("len", false, "len")
  | .int => some ("int", true, "int")
  | .str => some ("str", true, "str")
  | .tuple => some ("tuple", true, "tuple")
  | .list => some ("list", true, "list")
  | .sorted => some ("sorted", false, "sorted")
  | .min => some ("min", false, "min")
  | .max => some ("max", false, "max")
  | .sum => some ("sum", false, "sum")
  | .any => some ("any", false, "any")
  | .all => some ("all", false, "all")
  | .abs => some ("abs", false, "abs")
  | .range => some ("range", true, "range")
  | _ => none
def tyStr : Ty → Str
  | .bool => "bool"
  | .int => "int"
  | .str => "str"
  | .tuple => "tuple"
  | .list => "list"
  | .dict => "dict"
def tpOf : IE → Bool
  | .itEnum _ => true
  | .itZip _ _ => true
  | .itZip3 _ _ _ => true
  | .itItems _ => true
  | _ => false
def tgTp : Tg → Bool
  | .tp _ => true
  | _ => false
mutual
def okE : IE → CK → Expr → Bool
  | .cst d, K, e => okC d e || okCg K d e
  | .var i, K, e => match e with
    | .Name x _ => K.var i x
    | _ => false
  | .bor i, K, e => match e with
    | .Name x _ => K.var i x
    | _ => false
  | .bin o a b, K, e => match e with
    | .BinOp ea op eb _ => decide (op = opOf o) && okE a K ea && okE b K eb
    | _ => false
  | .neg a, K, e => match e with
    | .UnaryOp .USub ea _ => okE a K ea
    | _ => false
  | .cmp c a b, K, e => match e with
    | .Compare ea [op] [eb] _ => decide (op = cmOf c) && okE a K ea && okE b K eb && !behindInMarks op eb
    | _ => false
  | .cmp2 c c' a b d, K, e => match e with
    | .Compare ea [o1, o2] [eb, ed] _ => decide (o1 = cmOf c) && decide (o2 = cmOf c') && okE a K ea && okE b K eb && okE d K ed && !behindInMarks o2 ed
    | _ => false
  | .and a b, K, e => match e with
    | .BoolOp .And (ea :: eb :: rest) pos => okE a K ea && (match rest with | [] => okE b K eb | _ => okE b K (.BoolOp .And (eb :: rest) pos))
    | _ => false
  | .or a b, K, e => match e with
    | .BoolOp .Or (ea :: eb :: rest) pos => okE a K ea && (match rest with | [] => okE b K eb | _ => okE b K (.BoolOp .Or (eb :: rest) pos))
    | _ => false
  | .not a, K, e => match e with
    | .UnaryOp .Not ea _ => okE a K ea
    | _ => false
  | .ite c a b, K, e => match e with
    | .IfExp ec ea eb _ => okT c K ec && okE a K ea && okE b K eb
    | _ => false
  | .tup as, K, e => match e with
    | .Tuple es _ _ => okA as K es
    | _ => false
  | .lst as, K, e => match e with
    | .List es _ => okA as K es
    | _ => false
  | .dnew, _, e => match e with
    | .Dict [] [] _ => true
    | _ => false
  | .idx a b, K, e => match e with
    | .Subscript ea eb _ => okE a K ea && okE b K eb && pix eb
    | _ => false
  | .slc a lo hi, K, e => match e with
    | .Subscript ea (.Slice l h none _) _ => okE a K ea && (match l with | none => isMiss lo | some el => !isMiss lo && okE lo K el) && (match h with | none => isMiss hi | some eh => !isMiss hi && okE hi K eh)
    | _ => false
  | .call f as, K, e => match e with
    | .Call (.Name x _) (e1 :: es) [] _ => decide ((f, x) ∈ K.fs) && K.gl x && !(x == ("__debug__" : Str)) && okA as K (e1 :: es)
    | _ => false
  | .blt f as, K, e => match e with
    | .Call (.Name x _) (e1 :: es) [] _ => (match bltOf f with | some (y, _, _) => decide (x = y) | none => false) && K.gl x && okA as K (e1 :: es)
    | _ => false
  | .isi a t, K, e => match e with
    | .Call (.Name x _) [ea, .Name y _] [] _ => decide (x = "isinstance") && decide (y = tyStr t) && K.gl x && K.gl y && nst ea && okE a K ea
    | _ => false
  | .mth .index a as, K, e => match e with
    | .Call (.Attribute ea n apos) (e1 :: es) [] cpos => decide (n = "index") && bas ea && okE a K ea && okA as K (e1 :: es) && decide ((e1 :: es).length < 30) && (apos.endLine == cpos.line)
    | _ => false
  | .comp vs tg it c el, K, e => match e with
    | .ListComp ee [⟨et, ei, ifs, 0⟩] s _ => okB0 K s vs && okI it K ei && okG (K.into s) tg et && tg.slots.all (vs.contains ·) && (!tpOf it || tgTp tg) && !isSet ei && (match ifs with | [] => (match c with | .cst (.bl true) => true | _ => false) | [ec] => okT c (K.into s) ec | _ => false) && okE el (K.into s) ee
    | _ => false
  | .dcomp vs tg it c ik iv, K, e => match e with
    | .DictComp ek ev [⟨et, ei, ifs, 0⟩] s _ => okB0 K s vs && okI it K ei && okG (K.into s) tg et && tg.slots.all (vs.contains ·) && (!tpOf it || tgTp tg) && !isSet ei && (match ifs with | [] => (match c with | .cst (.bl true) => true | _ => false) | [ec] => okT c (K.into s) ec | _ => false) && okE ik (K.into s) ek && okE iv (K.into s) ev
    | _ => false
  | _, _, _ => false
def okT : IE → CK → Expr → Bool
  | .cmp c a b, K, e => match e with
    | .Compare ea [op] [eb] _ => decide (op = cmOf c) && okE a K ea && okE b K eb && !behindInMarks op eb
    | _ => false
  | .cmp2 c c' a b d, K, e => match e with
    | .Compare ea [o1, o2] [eb, ed] _ => decide (o1 = cmOf c) && decide (o2 = cmOf c') && okE a K ea && okE b K eb && okE d K ed && !behindInMarks o2 ed
    | _ => false
  | .and a b, K, e => match e with
    | .BoolOp .And (ea :: eb :: rest) pos => okT a K ea && (match rest with | [] => okT b K eb | _ => okT b K (.BoolOp .And (eb :: rest) pos))
    | _ => false
  | .or a b, K, e => match e with
    | .BoolOp .Or (ea :: eb :: rest) pos => okT a K ea && (match rest with | [] => okT b K eb | _ => okT b K (.BoolOp .Or (eb :: rest) pos))
    | _ => false
  | .not a, K, e => match e with
    | .UnaryOp .Not ea _ => okT a K ea
    | _ => false
  | .tst a, K, e => okE a K e && pln e
  | _, _, _ => false
def okA : IE → CK → List Expr → Bool
  | .anil, _, es => match es with
    | [] => true
    | _ => false
  | .acons a as, K, es => match es with
    | e :: es => nst e && okE a K e && okA as K es
    | [] => false
  | _, _, _ => false
def okI : IE → CK → Expr → Bool
  | .itSeq a, K, e => okE a K e
  | .itR1 a, K, e => match e with
    | .Call (.Name x _) [ea] [] _ => decide (x = "range") && K.gl x && nst ea && okE a K ea
    | _ => false
  | .itR2 a b, K, e => match e with
    | .Call (.Name x _) [ea, eb] [] _ => decide (x = "range") && K.gl x && nst ea && nst eb && okE a K ea && okE b K eb
    | _ => false
  | _, _, _ => false
end
/-! ### the checker is right -/
structure CkOk (X : Cx) (k : RC) (C : PC) (K : CK) : Prop where
  hX : XOk X k
  N : X.N = K.N
  nd : X.N.Nodup
  sc : X.env.scope = K.sc
  fn : ∀ x, K.fnb x = true → X.fn x = true
  xe : C.xe = fun _ _ => False
  nox : PassesOwn (model X.prog X.w) X.A X.env X.xe
  kind : K.sc.kind = .function
  blt : ∀ x ∈ (["len", "int", "str", "tuple", "list", "sorted", "min", "max", "sum", "any", "all", "abs", "range", "isinstance", "bool", "dict", "zip", "enumerate"] : List Str), X.mg x = none
  cst : ∀ x d, (x, d) ∈ K.cs → ∃ v u, X.mg x = some u ∧ RelV v u ∧ ∀ F, R k F v d
  fns : ∀ f x, (f, x) ∈ K.fs → ∃ i j, C8.Cal X.prog X.w X.K X.mg X.base i x (lift X.K X.w (C.sp f)) [] ∧ Room j X.A ∧ i ≤ j
section
variable {X : Cx} {k : RC} {C : PC} {K : CK}
theorem CkOk.lk (h : CkOk X k C K) (x : Str) : X.env.scope.names.lookup x = K.lk x := by rw [h.sc]; rfl
theorem CkOk.vis (h : CkOk X k C K) {x : Str} (v : K.vis x = true) : Vis X.env.scope x := by
  unfold CK.vis at v
  simp only [Bool.or_eq_true, decide_eq_true_eq] at v
  unfold Vis
  rw [h.lk]
  rcases v with (v | v) | v
  · exact .inl v
  · exact .inr (.inl v)
  · exact .inr (.inr v)
theorem CkOk.var (h : CkOk X k C K) {i : Nat} {x : Str} {pos : Pos} (v : K.var i x = true) : PE X (.Name x pos) (tVar i) := by
  unfold CK.var at v
  simp only [Bool.and_eq_true, decide_eq_true_eq, Bool.not_eq_true'] at v
  exact pe_var (by rw [h.N]; exact v.1.1.1) (h.vis v.1.1.2) v.1.2 v.2
theorem CkOk.sto (h : CkOk X k C K) {i : Nat} {x : Str} (v : K.sto i x = true) : X.N[i]? = some x ∧ L2.Loc X.env.scope x ∧ (X.fn x = true ∨ X.env.scope.names.lookup x = some .local) := by
  unfold CK.sto CK.loc at v
  simp only [Bool.and_eq_true, decide_eq_true_eq, Bool.or_eq_true] at v
  refine ⟨by rw [h.N]; exact v.1.1, ?_, ?_⟩
  · unfold L2.Loc; rw [h.lk]; exact v.1.2
  · rw [h.lk]; exact v.2.imp (h.fn x) id
theorem CkOk.gl (h : CkOk X k C K) {x : Str} (v : K.gl x = true) : Gl X x := by
  unfold CK.gl at v
  show X.env.scope.names.lookup x = _
  rw [h.lk]
  exact of_decide_eq_true v
theorem CkOk.into (h : CkOk X k C K) (s : Scope) (hs : s.kind = .function) (sh : Shared) (H : Hp) (A : Addr) (cl : List (Str × Addr)) (fp : List Addr) : CkOk (X.blk sh H s (compEnvC s cl A X.env) fp) k C (K.into s) where
  hX := ⟨h.hX.K, h.hX.w, h.hX.calm, h.hX.room⟩
  N := h.N
  nd := h.nd
  sc := by
    show relabel s X.env = relS s K.sc
    rw [← h.sc]
    rfl
  fn := fun x v => v
  xe := h.xe
  nox := PassesOwn.never
  kind := by
    show (relS s K.sc).kind = _
    exact hs
  blt := h.blt
  cst := h.cst
  fns := h.fns
theorem okB0_ok (h : CkOk X k C K) {s : Scope} {vs : List Nat} (v : okB0 K s vs = true) : BlkOk X.N X.env.scope s (ownOf K.N vs) ∧ (ownOf K.N vs).map (·.2) = vs ∧ s.kind = .function := by
  unfold okB0 at v
  simp only [Bool.and_eq_true, decide_eq_true_eq, List.all_eq_true, Bool.or_eq_true, Bool.not_eq_true', decide_eq_false_iff_not] at v
  obtain ⟨⟨⟨⟨v1, v2⟩, v3⟩, v4⟩, v5⟩ := v
  refine ⟨⟨v1, v2, fun p hp => ?_, fun y hy e => ?_, fun y hy e => ?_⟩, v3, v1⟩
  · unfold ownOf at hp
    obtain ⟨i, _, hi⟩ := List.mem_filterMap.mp hp
    obtain ⟨x, hx, rfl⟩ := Option.map_eq_some_iff.mp hi
    rw [h.N]; exact hx
  · rw [h.lk]
    exact (v4 y hy).resolve_left fun z => z e
  · have := (v5 y hy).resolve_left fun z => by
      rcases e with e | e <;> simp [e] at z
    rw [h.N]
    exact this
theorem okG_ok (h : CkOk X k C K) {t : Tg} {e : Expr} (v : okG K t e = true) : PG X e (tG k t) := by
  cases t with
  | nm i =>
    cases e with
    | Name x p => obtain ⟨a, b, c⟩ := h.sto v; exact qg_nm h.nd a b c
    | _ => exact absurd v Bool.false_ne_true
  | tp is =>
    cases e with
    | Tuple es kk p =>
      have key : ∀ (is : List Nat) (es : List Expr), okG.okN K is es = true → NmAll X es is := fun is => by
        induction is with
        | nil => intro es v; cases es with
          | nil => exact .nil
          | cons _ _ => exact absurd v Bool.false_ne_true
        | cons i is ih =>
          intro es v
          cases es with
          | nil => exact absurd v Bool.false_ne_true
          | cons e es =>
            cases e with
            | Name x p =>
              have v : (K.sto i x && okG.okN K is es) = true := v
              simp only [Bool.and_eq_true] at v
              obtain ⟨a, b, c⟩ := h.sto v.1
              exact .cons a b c (ih es v.2)
            | _ => exact absurd v Bool.false_ne_true
      exact qg_tp h.hX h.nd (key is es v)
    | _ => exact absurd v Bool.false_ne_true
theorem okC_ok {d : D} {e : Expr} (v : okC d e = true) : PE X e (tE C k (.cst d)) := by
  unfold okC at v
  split at v
  · cases of_decide_eq_true v; exact qe_c pe_int fun F => .int _
  · cases of_decide_eq_true v; exact qe_c pe_str fun F => .str _
  · cases of_decide_eq_true v; exact qe_c pe_bl fun F => .bl _
  · exact qe_c pe_non fun F => .non
  · cases v
theorem okCg_ok (h : CkOk X k C K) {d : D} {e : Expr} (v : okCg K d e = true) : PE X e (tE C k (.cst d)) := by
  cases e with
  | Name x p =>
    have v : (K.gl x && !(x == ("__debug__" : Str)) && K.cs.any fun p => decide (p.1 = x) && sameD p.2 d) = true := v
    simp only [Bool.and_eq_true, Bool.not_eq_true', List.any_eq_true, decide_eq_true_eq] at v
    obtain ⟨⟨v1, v2⟩, ⟨y, d'⟩, v3, rfl, v4⟩ := v
    cases sameD_eq v4
    obtain ⟨w, u, h1, h2, h3⟩ := h.cst _ _ v3
    exact qe_c (pe_glob (h.gl v1) h1 h2 v2) h3
  | _ => exact absurd v Bool.false_ne_true
/-! ### range(..) -/
theorem cb_range (hX : XOk X k) : CallR X (.type "range") (rBlt k (bltP .range)) := by
  intro pins s σ H xs us Q I r ⟨ρ, σ', F, ds, QQ, rel, br, wp, fin⟩
  have go : ∀ (lo hi : Int) (t u v : Tok) (tk : Nat), rngOk lo → rngOk hi → QQ (.val (.rng lo hi)) → EP X pins σ Q (.ref s.heap.objs.size) { s with heap := s.heap.push { cls := .type "range", data := .fields #[.int lo t, .int hi u, .int 1 v] }, toks := tk } := fun lo hi t u v tk h1 h2 q => by
    have hn := I.hok.fresh (Nat.le_refl s.heap.objs.size)
    refine ⟨.ref s.heap.objs.size, upd H s.heap.objs.size (.rng lo hi), I.laid (fun b o e => Heap.get?_push_of_some _ e) (Nat.le_refl _) ⟨t, u, v, Heap.get?_push_size _ rfl⟩, rfl, ?_⟩
    exact fin _ _ _ _ (.newF rel .refl hn (.rng upd_same h1 h2)) q
  match ds, br, wp with
  | [.int j], br, ⟨h, q⟩ =>
    obtain ⟨x, rfl, b⟩ := brs1 br
    cases b.int
    obtain ⟨u, rfl, t, rfl⟩ := vals1 r
    exact call_range_1 (go 0 j _ _ _ _ ⟨by omega, by omega⟩ h q)
  | [.int i, .int j], br, ⟨⟨h1, h2⟩, q⟩ =>
    obtain ⟨x, y, rfl, b, c⟩ := brs2 br
    cases b.int; cases c.int
    obtain ⟨u1, u2, rfl, ⟨t1, rfl⟩, t2, rfl⟩ := vals2 r
    exact call_range_2 (go i j _ _ _ _ h1 h2 q)
/-- a built-in called by name -/
theorem blt_ok (h : CkOk X k C K) {f : BI} {x : Str} {e : Expr} {es : List Expr} {ies : IE} {p pos : Pos} (hx : (match bltOf f with | some (y, _, _) => decide (x = y) | none => false) = true) (hg : K.gl x = true) (hn : (e :: es).all nst = true) (ha : PA X (e :: es) (tA C k true ies)) :
    PE X (.Call (.Name x p) (e :: es) [] pos) (tE C k (.blt f ies)) := by
  have hg := h.gl hg
  have h1 : ∀ {env}, starEach (e :: es) env = (false, eval e env) :: starEach es env := fun {env} => star1 (by simp only [List.all_cons, Bool.and_eq_true] at hn; exact hn.1)
  have h2 : ∀ {env pos}, (backTo pos (starEach es env)).any (·.1) = false := fun {env pos} => starA (by simp only [List.all_cons, Bool.and_eq_true] at hn; exact hn.2)
  have fB : ∀ {id : String}, CallR X (.builtin id) (rBlt k (bltP f)) → X.mg x = none → bootBuiltins x = some (.builtin id) → x ≠ "__name__" → (x == ("__debug__" : Str)) = false → PE X (.Call (.Name x p) (e :: es) [] pos) (tE C k (.blt f ies)) := fun c m b d1 d2 =>
    qe_blt (t := fun _ => tE C k .anil) (fun ta pa => pe_callB c hg m b pa d1 d2 h1 h2) ha
  have fT : ∀ {id : String}, CallR X (.type id) (rBlt k (bltP f)) → X.mg x = none → bootBuiltins x = some (.type id) → x ≠ "__name__" → (x == ("__debug__" : Str)) = false → PE X (.Call (.Name x p) (e :: es) [] pos) (tE C k (.blt f ies)) := fun c m b d1 d2 =>
    qe_blt (t := fun _ => tE C k .anil) (fun ta pa => pe_callTy c hg m b pa d1 d2 h1 h2) ha
  cases f <;> simp only [bltOf, decide_eq_true_eq, Bool.false_eq_true] at hx <;> subst hx
  · exact fB (cb_len h.hX) (h.blt _ (by decide +kernel)) boot_len (by decide +kernel) (by decide +kernel)
  · exact fT (cb_int h.hX) (h.blt _ (by decide +kernel)) (by decide +kernel) (by decide +kernel) (by decide +kernel)
  · exact fT (cb_str h.hX) (h.blt _ (by decide +kernel)) (by decide +kernel) (by decide +kernel) (by decide +kernel)
  · exact fT (cb_tuple h.hX) (h.blt _ (by decide +kernel)) (by decide +kernel) (by decide +kernel) (by decide +kernel)
  · exact fT (cb_list h.hX) (h.blt _ (by decide +kernel)) (by decide +kernel) (by decide +kernel) (by decide +kernel)
  · exact fB (cb_sorted h.hX) (h.blt _ (by decide +kernel)) (by decide +kernel) (by decide +kernel) (by decide +kernel)
  · exact fB (cb_min h.hX) (h.blt _ (by decide +kernel)) (by decide +kernel) (by decide +kernel) (by decide +kernel)
  · exact fB (cb_max h.hX) (h.blt _ (by decide +kernel)) (by decide +kernel) (by decide +kernel) (by decide +kernel)
  · exact fB (cb_sum h.hX) (h.blt _ (by decide +kernel)) (by decide +kernel) (by decide +kernel) (by decide +kernel)
  · exact fB (cb_any h.hX) (h.blt _ (by decide +kernel)) (by decide +kernel) (by decide +kernel) (by decide +kernel)
  · exact fB (cb_all h.hX) (h.blt _ (by decide +kernel)) (by decide +kernel) (by decide +kernel) (by decide +kernel)
  · exact fB (cb_abs h.hX) (h.blt _ (by decide +kernel)) (by decide +kernel) (by decide +kernel) (by decide +kernel)
  · exact fT (cb_range h.hX) (h.blt _ (by decide +kernel)) (by decide +kernel) (by decide +kernel) (by decide +kernel)
end
end PL
/-! PL18: the checker is right: expressions. -/
namespace PL
open PySem PySem.Spec PyProof.Rows L2
theorem pts_any {X : Cx} {k : RC} {C : PC} {c : IE} (h : (match c with | .cst (.bl true) => true | _ => false) = true) : PTs X [] (tT C k c) := by
  have : c = .cst (.bl true) := by
    split at h
    · rfl
    · cases h
  subst this
  exact ⟨fun pins s σ H Q I ⟨ρ, F, QQ, rel, wp, fin⟩ => pts_nil.run pins s σ H Q I (fin true ρ F H rel .refl wp)⟩
theorem nstA : ∀ {as : IE} {K : CK} {es : List Expr}, okA as K es = true → es.all nst = true
  | .anil, K, [], _ => rfl
  | .acons a as, K, e :: es, h => by
    have h : (nst e && okE a K e && okA as K es) = true := h
    simp only [Bool.and_eq_true] at h
    rw [List.all_cons, h.1.1, nstA h.2]
    rfl
  | .anil, K, _ :: _, h => absurd h Bool.false_ne_true
  | .acons _ _, K, [], h => absurd h Bool.false_ne_true
  | .cst _, _, _, h | .var _, _, _, h | .bor _, _, _, h | .bin _ _ _, _, _, h | .neg _, _, _, h | .cmp _ _ _, _, _, h | .cmp2 _ _ _ _ _, _, _, h | .tst _, _, _, h | .and _ _, _, _, h | .or _ _, _, _, h | .not _, _, _, h | .ite _ _ _, _, _, h
  | .tup _, _, _, h | .lst _, _, _, h | .dnew, _, _, h | .idx _ _, _, _, h | .slc _ _ _, _, _, h | .rev _, _, _, h | .call _ _, _, _, h | .callb _ _, _, _, h | .blt _ _, _, _, h | .isi _ _, _, _, h | .mth _ _ _, _, _, h | .itSeq _, _, _, h | .itR1 _, _, _, h
  | .itR2 _ _, _, _, h | .itEnum _, _, _, h | .itZip _ _, _, _, h | .itZip3 _ _ _, _, _, h | .itItems _, _, _, h | .comp _ _ _ _ _, _, _, h | .comp2 _ _ _ _ _ _ _ _ _, _, _, h | .dcomp _ _ _ _ _ _, _, _, h => absurd h Bool.false_ne_true
variable {k : RC} {C : PC}
mutual
theorem snd_E : ∀ (ie : IE) {X : Cx} {K : CK} {e : Expr}, CkOk X k C K → okE ie K e = true → PE X e (tE C k ie)
  | .cst d, X, K, e, h, v => by
    have v : (okC d e || okCg K d e) = true := v
    simp only [Bool.or_eq_true] at v
    exact v.elim okC_ok (okCg_ok h)
  | .var i, X, K, e, h, v => by
    cases e with
    | Name x p => exact qe_var (h.var v)
    | _ => exact absurd v Bool.false_ne_true
  | .bor i, X, K, e, h, v => by
    cases e with
    | Name x p => exact qe_bor (h.var v)
    | _ => exact absurd v Bool.false_ne_true
  | .bin o a b, X, K, e, h, v => by
    cases e with
    | BinOp ea op eb p =>
      have v : (decide (op = opOf o) && okE a K ea && okE b K eb) = true := v
      simp only [Bool.and_eq_true, decide_eq_true_eq] at v
      obtain ⟨⟨rfl, v1⟩, v2⟩ := v
      exact qe_bin h.hX (snd_E a h v1) (snd_E b h v2)
    | _ => exact absurd v Bool.false_ne_true
  | .neg a, X, K, e, h, v => by
    cases e with
    | UnaryOp op ea p =>
      cases op with
      | USub => exact qe_neg (snd_E a h v)
      | _ => exact absurd v Bool.false_ne_true
    | _ => exact absurd v Bool.false_ne_true
  | .cmp c a b, X, K, e, h, v => by
    unfold okE at v
    split at v
    · simp only [Bool.and_eq_true, decide_eq_true_eq, Bool.not_eq_true'] at v
      obtain ⟨⟨⟨rfl, v1⟩, v2⟩, v3⟩ := v
      exact qe_cmp h.hX (snd_E a h v1) (snd_E b h v2) v3
    · exact absurd v Bool.false_ne_true
  | .cmp2 c c' a b d, X, K, e, h, v => by
    unfold okE at v
    split at v
    · simp only [Bool.and_eq_true, decide_eq_true_eq, Bool.not_eq_true'] at v
      obtain ⟨⟨⟨⟨⟨rfl, rfl⟩, v1⟩, v2⟩, v3⟩, v4⟩ := v
      exact qe_cmp2 h.hX (snd_E a h v1) (snd_E b h v2) (snd_E d h v3) v4
    · exact absurd v Bool.false_ne_true
  | .and a b, X, K, e, h, v => by
    unfold okE at v
    split at v
    · rename_i ea eb rest pos
      simp only [Bool.and_eq_true] at v
      cases rest with
      | nil => exact qe_and (snd_E a h v.1) (pe_one (snd_E b h v.2))
      | cons e3 rest => exact qe_and (snd_E a h v.1) (snd_E b h v.2)
    · exact absurd v Bool.false_ne_true
  | .or a b, X, K, e, h, v => by
    unfold okE at v
    split at v
    · rename_i ea eb rest pos
      simp only [Bool.and_eq_true] at v
      cases rest with
      | nil => exact qe_or (snd_E a h v.1) (pe_one (snd_E b h v.2))
      | cons e3 rest => exact qe_or (snd_E a h v.1) (snd_E b h v.2)
    · exact absurd v Bool.false_ne_true
  | .not a, X, K, e, h, v => by
    cases e with
    | UnaryOp op ea p =>
      cases op with
      | Not => exact qe_not (snd_E a h v)
      | _ => exact absurd v Bool.false_ne_true
    | _ => exact absurd v Bool.false_ne_true
  | .ite c a b, X, K, e, h, v => by
    cases e with
    | IfExp ec ea eb p =>
      have v : (okT c K ec && okE a K ea && okE b K eb) = true := v
      simp only [Bool.and_eq_true] at v
      exact qe_ite (snd_T c h v.1.1).1 (snd_E a h v.1.2) (snd_E b h v.2)
    | _ => exact absurd v Bool.false_ne_true
  | .tup as, X, K, e, h, v => by
    cases e with
    | Tuple es kk p => exact qe_tup (snd_A as h v)
    | _ => exact absurd v Bool.false_ne_true
  | .lst as, X, K, e, h, v => by
    cases e with
    | List es p => exact qe_lst (snd_A as h v)
    | _ => exact absurd v Bool.false_ne_true
  | .dnew, X, K, e, h, v => by
    unfold okE at v
    split at v
    · exact qe_dnew
    · exact absurd v Bool.false_ne_true
  | .idx a b, X, K, e, h, v => by
    cases e with
    | Subscript ea eb p =>
      have v : (okE a K ea && okE b K eb && pix eb) = true := v
      simp only [Bool.and_eq_true] at v
      exact qe_idx h.hX (snd_E a h v.1.1) (snd_E b h v.1.2) (pix_ok v.2)
    | _ => exact absurd v Bool.false_ne_true
  | .slc a lo hi, X, K, e, h, v => by
    unfold okE at v
    split at v
    · rename_i ea l hh p2 p
      simp only [Bool.and_eq_true] at v
      obtain ⟨⟨v1, v2⟩, v3⟩ := v
      have pl : PO X l (tO C k lo) := by
        cases l with
        | none =>
          have : lo = .cst .non := by
            have v2 : isMiss lo = true := v2
            unfold isMiss at v2
            split at v2
            · rfl
            · cases v2
          subst this
          exact po_no
        | some el =>
          have v2 : (!isMiss lo && okE lo K el) = true := v2
          simp only [Bool.and_eq_true, Bool.not_eq_true'] at v2
          exact po_yes (snd_E lo h v2.2) v2.1
      have ph : PO X hh (tO C k hi) := by
        cases hh with
        | none =>
          have : hi = .cst .non := by
            have v3 : isMiss hi = true := v3
            unfold isMiss at v3
            split at v3
            · rfl
            · cases v3
          subst this
          exact po_no
        | some el =>
          have v3 : (!isMiss hi && okE hi K el) = true := v3
          simp only [Bool.and_eq_true, Bool.not_eq_true'] at v3
          exact po_yes (snd_E hi h v3.2) v3.1
      exact qe_slc h.hX (snd_E a h v1) pl ph
    · exact absurd v Bool.false_ne_true
  | .call f as, X, K, e, h, v => by
    unfold okE at v
    split at v
    · rename_i x p e1 es pos
      simp only [Bool.and_eq_true, decide_eq_true_eq, Bool.not_eq_true'] at v
      obtain ⟨⟨⟨v1, v2⟩, v3⟩, v4⟩ := v
      obtain ⟨i, j, c, hr, hij⟩ := h.fns f x v1
      have hn := nstA v4
      simp only [List.all_cons, Bool.and_eq_true] at hn
      exact qe_call h.hX c hr hij (h.gl v2) h.xe (snd_A as h v4) v3 (star1 hn.1) (starA hn.2)
    · exact absurd v Bool.false_ne_true
  | .blt f as, X, K, e, h, v => by
    unfold okE at v
    split at v
    · rename_i x p e1 es pos
      simp only [Bool.and_eq_true] at v
      exact blt_ok h v.1.1 v.1.2 (nstA v.2) (snd_A as h v.2)
    · exact absurd v Bool.false_ne_true
  | .isi a t, X, K, e, h, v => by
    unfold okE at v
    split at v
    · rename_i x p ea y p2 pos
      simp only [Bool.and_eq_true, decide_eq_true_eq] at v
      obtain ⟨⟨⟨⟨⟨rfl, rfl⟩, v3⟩, v4⟩, v5⟩, v6⟩ := v
      refine qe_isi h.hX (h.gl v3) (h.blt _ (by decide +kernel)) (h.gl v4) ?_ ?_ ?_ ?_ (snd_E a h v6) (star1 v5)
      · cases t <;> exact h.blt _ (by decide +kernel)
      · cases t <;> decide +kernel
      · cases t <;> decide +kernel
      · cases t <;> decide +kernel
    · exact absurd v Bool.false_ne_true
  | .mth m a as, X, K, e, h, v => by
    cases m with
    | index =>
      unfold okE at v
      split at v
      · rename_i ea n apos e1 es cpos
        simp only [Bool.and_eq_true, decide_eq_true_eq] at v
        obtain ⟨⟨⟨⟨⟨rfl, v2⟩, v3⟩, v4⟩, v5⟩, v6⟩ := v
        have hn := nstA v4
        have hn' := hn
        simp only [List.all_cons, Bool.and_eq_true] at hn'
        exact qe_index h.hX (snd_E a h v3) (snd_A as h v4) (base_ok v2) (fewA hn v5) v6 (star1 hn'.1) (starA hn'.2)
      · exact absurd v Bool.false_ne_true
    | _ => exact absurd v Bool.false_ne_true
  | .comp vs tg it c el, X, K, e, h, v => by
    unfold okE at v
    split at v
    · rename_i ee et ei ifs s pos
      simp only [Bool.and_eq_true, Bool.not_eq_true', List.all_eq_true] at v
      obtain ⟨⟨⟨⟨⟨⟨⟨v1, v2⟩, v3⟩, v4⟩, v5⟩, v6⟩, v7⟩, v8⟩ := v
      obtain ⟨b1, b2, b3⟩ := okB0_ok h v1
      have hin := fun sh H A cl fp => h.into s b3 sh H A cl fp
      have pts : ∀ (sh : Shared) (H : Hp) (A : Addr) (cl : List (Str × Addr)) (fp : List Addr), PTs (X.blk sh H s (compEnvC s cl A X.env) fp) ifs (tT C k c) := fun sh H A cl fp => by
        cases ifs with
        | nil => exact pts_any v7
        | cons ec r =>
          cases r with
          | nil => exact pts_one (snd_T c (hin sh H A cl fp) v7).1
          | cons _ _ => exact absurd v7 Bool.false_ne_true
      have := pe_lc (pos := pos) h.hX.calm h.nd (snd_I it (b := true) (tp := tpOf it) (tg := et) h rfl v2) b1 (fun sh H A cl fp => okG_ok (hin sh H A cl fp) v3)
        pts
        (fun sh H A cl fp => snd_E el (hin sh H A cl fp) v8) (set_ok v6)
      rw [b2] at this
      exact weak this fun σ H Q q => lc_sem (fun z => by
        rw [z] at v5
        cases tg with
        | nm i => exact absurd v5 Bool.false_ne_true
        | tp is => exact ⟨is, rfl⟩) (fun i hi => by simpa using v4 i hi) q
    · exact absurd v Bool.false_ne_true
  | .dcomp vs tg it c ik iv, X, K, e, h, v => by
    unfold okE at v
    split at v
    · rename_i ek ev et ei ifs s pos
      simp only [Bool.and_eq_true, Bool.not_eq_true', List.all_eq_true] at v
      obtain ⟨⟨⟨⟨⟨⟨⟨⟨v1, v2⟩, v3⟩, v4⟩, v5⟩, v6⟩, v7⟩, v8⟩, v9⟩ := v
      obtain ⟨b1, b2, b3⟩ := okB0_ok h v1
      have hin := fun sh H A cl fp => h.into s b3 sh H A cl fp
      have pts : ∀ (sh : Shared) (H : Hp) (A : Addr) (cl : List (Str × Addr)) (fp : List Addr), PTs (X.blk sh H s (compEnvC s cl A X.env) fp) ifs (tT C k c) := fun sh H A cl fp => by
        cases ifs with
        | nil => exact pts_any v7
        | cons ec r =>
          cases r with
          | nil => exact pts_one (snd_T c (hin sh H A cl fp) v7).1
          | cons _ _ => exact absurd v7 Bool.false_ne_true
      have := pe_dx (pos := pos) h.hX h.nd (snd_I it (b := true) (tp := tpOf it) (tg := et) h rfl v2) b1 (fun sh H A cl fp => okG_ok (hin sh H A cl fp) v3)
        pts
        (fun sh H A cl fp => snd_E ik (hin sh H A cl fp) v8) (fun sh H A cl fp => snd_E iv (hin sh H A cl fp) v9) (set_ok v6)
      rw [b2] at this
      exact weak this fun σ H Q q => dx_sem (fun z => by
        rw [z] at v5
        cases tg with
        | nm i => exact absurd v5 Bool.false_ne_true
        | tp is => exact ⟨is, rfl⟩) (fun i hi => by simpa using v4 i hi) q
    · exact absurd v Bool.false_ne_true
  | .tst _, _, _, _, _, v | .anil, _, _, _, _, v | .acons _ _, _, _, _, _, v | .rev _, _, _, _, _, v | .callb _ _, _, _, _, _, v | .itSeq _, _, _, _, _, v | .itR1 _, _, _, _, _, v | .itR2 _ _, _, _, _, _, v | .itEnum _, _, _, _, _, v | .itZip _ _, _, _, _, _, v
  | .itZip3 _ _ _, _, _, _, _, v | .itItems _, _, _, _, _, v | .comp2 _ _ _ _ _ _ _ _ _, _, _, _, _, v => absurd v Bool.false_ne_true
theorem snd_T : ∀ (ie : IE) {X : Cx} {K : CK} {e : Expr}, CkOk X k C K → okT ie K e = true → PT X e (tT C k ie) ∧ ∀ op l p, e = .BoolOp op l p → PW X e (tT C k ie)
  | .cmp c a b, X, K, e, h, v => by
    unfold okT at v
    split at v
    · simp only [Bool.and_eq_true, decide_eq_true_eq, Bool.not_eq_true'] at v
      obtain ⟨⟨⟨rfl, v1⟩, v2⟩, v3⟩ := v
      exact ⟨qt_cmp h.hX (snd_E a h v1) (snd_E b h v2) v3, fun _ _ _ z => by cases z⟩
    · exact absurd v Bool.false_ne_true
  | .cmp2 c c' a b d, X, K, e, h, v => by
    unfold okT at v
    split at v
    · simp only [Bool.and_eq_true, decide_eq_true_eq, Bool.not_eq_true'] at v
      obtain ⟨⟨⟨⟨⟨rfl, rfl⟩, v1⟩, v2⟩, v3⟩, v4⟩ := v
      exact ⟨qt_cmp2 h.hX (snd_E a h v1) (snd_E b h v2) (snd_E d h v3) v4, fun _ _ _ z => by cases z⟩
    · exact absurd v Bool.false_ne_true
  | .and a b, X, K, e, h, v => by
    unfold okT at v
    split at v
    · rename_i ea eb rest pos
      simp only [Bool.and_eq_true] at v
      have w : PW X (.BoolOp .And (ea :: eb :: rest) pos) (tT C k (.and a b)) := by
        cases rest with
        | nil => exact qt_and (snd_T a h v.1).1 (pw_and1 (snd_T b h v.2).1)
        | cons e3 rest => exact qt_and (snd_T a h v.1).1 ((snd_T b h v.2).2 _ _ _ rfl)
      exact ⟨w.pt, fun _ _ _ _ => w⟩
    · exact absurd v Bool.false_ne_true
  | .or a b, X, K, e, h, v => by
    unfold okT at v
    split at v
    · rename_i ea eb rest pos
      simp only [Bool.and_eq_true] at v
      have w : PW X (.BoolOp .Or (ea :: eb :: rest) pos) (tT C k (.or a b)) := by
        cases rest with
        | nil => exact qt_or (snd_T a h v.1).1 (pw_or1 (snd_T b h v.2).1)
        | cons e3 rest => exact qt_or (snd_T a h v.1).1 ((snd_T b h v.2).2 _ _ _ rfl)
      exact ⟨w.pt, fun _ _ _ _ => w⟩
    · exact absurd v Bool.false_ne_true
  | .not a, X, K, e, h, v => by
    cases e with
    | UnaryOp op ea p =>
      cases op with
      | Not => exact ⟨qt_not (snd_T a h v).1, fun _ _ _ z => by cases z⟩
      | _ => exact absurd v Bool.false_ne_true
    | _ => exact absurd v Bool.false_ne_true
  | .tst a, X, K, e, h, v => by
    have v : (okE a K e && pln e) = true := v
    simp only [Bool.and_eq_true] at v
    exact ⟨qt_tst h.hX (snd_E a h v.1) (isT_pln v.2), fun _ _ _ z => by subst z; exact absurd v.2 Bool.false_ne_true⟩
  | .cst _, _, _, _, _, v | .var _, _, _, _, _, v | .bor _, _, _, _, _, v | .bin _ _ _, _, _, _, _, v | .neg _, _, _, _, _, v | .ite _ _ _, _, _, _, _, v | .tup _, _, _, _, _, v | .lst _, _, _, _, _, v | .dnew, _, _, _, _, v | .idx _ _, _, _, _, _, v | .slc _ _ _, _, _, _, _, v
  | .call _ _, _, _, _, _, v | .blt _ _, _, _, _, _, v | .isi _ _, _, _, _, _, v | .mth _ _ _, _, _, _, _, v | .comp _ _ _ _ _, _, _, _, _, v | .dcomp _ _ _ _ _ _, _, _, _, _, v
  | .anil, _, _, _, _, v | .acons _ _, _, _, _, _, v | .rev _, _, _, _, _, v | .callb _ _, _, _, _, _, v | .itSeq _, _, _, _, _, v | .itR1 _, _, _, _, _, v | .itR2 _ _, _, _, _, _, v | .itEnum _, _, _, _, _, v | .itZip _ _, _, _, _, _, v
  | .itZip3 _ _ _, _, _, _, _, v | .itItems _, _, _, _, _, v | .comp2 _ _ _ _ _ _ _ _ _, _, _, _, _, v => absurd v Bool.false_ne_true
theorem snd_A : ∀ (ie : IE) {b : Bool} {X : Cx} {K : CK} {es : List Expr}, CkOk X k C K → okA ie K es = true → PA X es (tA C k b ie)
  | .anil, b, X, K, es, h, v => by
    cases es with
    | nil => exact qa_nil
    | cons _ _ => exact absurd v Bool.false_ne_true
  | .acons a as, b, X, K, es, h, v => by
    cases es with
    | nil => exact absurd v Bool.false_ne_true
    | cons e es =>
      have v : (nst e && okE a K e && okA as K es) = true := v
      simp only [Bool.and_eq_true] at v
      exact qa_cons (snd_E a h v.1.2) (snd_A as h v.2) (star1 v.1.1)
  | .tst _, _, _, _, _, _, v | .cmp _ _ _, _, _, _, _, _, v | .cmp2 _ _ _ _ _, _, _, _, _, _, v | .and _ _, _, _, _, _, _, v | .or _ _, _, _, _, _, _, v | .not _, _, _, _, _, _, v
  | .cst _, _, _, _, _, _, v | .var _, _, _, _, _, _, v | .bor _, _, _, _, _, _, v | .bin _ _ _, _, _, _, _, _, v | .neg _, _, _, _, _, _, v | .ite _ _ _, _, _, _, _, _, v | .tup _, _, _, _, _, _, v | .lst _, _, _, _, _, _, v | .dnew, _, _, _, _, _, v | .idx _ _, _, _, _, _, _, v | .slc _ _ _, _, _, _, _, _, v
  | .call _ _, _, _, _, _, _, v | .blt _ _, _, _, _, _, _, v | .isi _ _, _, _, _, _, _, v | .mth _ _ _, _, _, _, _, _, v | .comp _ _ _ _ _, _, _, _, _, _, v | .dcomp _ _ _ _ _ _, _, _, _, _, _, v
  | .rev _, _, _, _, _, _, v | .callb _ _, _, _, _, _, _, v | .itSeq _, _, _, _, _, _, v | .itR1 _, _, _, _, _, _, v | .itR2 _ _, _, _, _, _, _, v | .itEnum _, _, _, _, _, _, v | .itZip _ _, _, _, _, _, _, v
  | .itZip3 _ _ _, _, _, _, _, _, v | .itItems _, _, _, _, _, _, v | .comp2 _ _ _ _ _ _ _ _ _, _, _, _, _, _, v => absurd v Bool.false_ne_true
theorem snd_I : ∀ (ie : IE) {b tp : Bool} {tg : Expr} {X : Cx} {K : CK} {e : Expr}, CkOk X k C K → tp = tpOf ie → okI ie K e = true → PI X tg e (tI C k b tp ie)
  | .itSeq a, b, tp, tg, X, K, e, h, ht, v => by
    subst ht
    exact qi_seq h.hX (snd_E a h v)
  | .itR1 a, b, tp, tg, X, K, e, h, ht, v => by
    subst ht
    unfold okI at v
    split at v
    · rename_i x p ea pos
      simp only [Bool.and_eq_true, decide_eq_true_eq] at v
      obtain ⟨⟨⟨rfl, v2⟩, v3⟩, v4⟩ := v
      exact qi_rng1 (h.gl v2) (h.blt _ (by decide +kernel)) (snd_E a h v4) (star1 v3) (star1 v3)
    · exact absurd v Bool.false_ne_true
  | .itR2 a c, b, tp, tg, X, K, e, h, ht, v => by
    subst ht
    unfold okI at v
    split at v
    · rename_i x p ea eb pos
      simp only [Bool.and_eq_true, decide_eq_true_eq] at v
      obtain ⟨⟨⟨⟨⟨rfl, v2⟩, v3⟩, v4⟩, v5⟩, v6⟩ := v
      exact qi_rng2 (h.gl v2) (h.blt _ (by decide +kernel)) (snd_E a h v5) (snd_E c h v6) (star1 v3) (star1 v4) (by rw [star1 v3, star1 v4]; rfl) (star1 v4)
    · exact absurd v Bool.false_ne_true
  | .tst _, _, _, _, _, _, _, _, _, v | .cmp _ _ _, _, _, _, _, _, _, _, _, v | .cmp2 _ _ _ _ _, _, _, _, _, _, _, _, _, v | .and _ _, _, _, _, _, _, _, _, _, v | .or _ _, _, _, _, _, _, _, _, _, v | .not _, _, _, _, _, _, _, _, _, v
  | .cst _, _, _, _, _, _, _, _, _, v | .var _, _, _, _, _, _, _, _, _, v | .bor _, _, _, _, _, _, _, _, _, v | .bin _ _ _, _, _, _, _, _, _, _, _, v | .neg _, _, _, _, _, _, _, _, _, v | .ite _ _ _, _, _, _, _, _, _, _, _, v | .tup _, _, _, _, _, _, _, _, _, v | .lst _, _, _, _, _, _, _, _, _, v | .dnew, _, _, _, _, _, _, _, _, v | .idx _ _, _, _, _, _, _, _, _, _, v | .slc _ _ _, _, _, _, _, _, _, _, _, v
  | .call _ _, _, _, _, _, _, _, _, _, v | .blt _ _, _, _, _, _, _, _, _, _, v | .isi _ _, _, _, _, _, _, _, _, _, v | .mth _ _ _, _, _, _, _, _, _, _, _, v | .comp _ _ _ _ _, _, _, _, _, _, _, _, _, v | .dcomp _ _ _ _ _ _, _, _, _, _, _, _, _, _, v
  | .anil, _, _, _, _, _, _, _, _, v | .acons _ _, _, _, _, _, _, _, _, _, v | .rev _, _, _, _, _, _, _, _, _, v | .callb _ _, _, _, _, _, _, _, _, _, v | .itEnum _, _, _, _, _, _, _, _, _, v | .itZip _ _, _, _, _, _, _, _, _, _, v
  | .itZip3 _ _ _, _, _, _, _, _, _, _, _, v | .itItems _, _, _, _, _, _, _, _, _, v | .comp2 _ _ _ _ _ _ _ _ _, _, _, _, _, _, _, _, _, v => absurd v Bool.false_ne_true
end
end PL
/-! PL19: the checker of statements; defs. -/
namespace PL
open PySem PySem.Spec PyProof.Rows L2
section
variable {X : Cx} {k : RC} {C : PC} {pos : Pos}
theorem set_core {i : Nat} {ie : IE} {D : Ends} {σ : L2.St} {H : Hp} (h : tS C k (.asg (.nm i) ie) D σ H) : tE C k ie σ H (fun x H1 => gName i x σ H1 D.nx) := by
  obtain ⟨ρ, F, F0, H0, G, E, rel, tr, wp, en⟩ := h
  exact ⟨ρ, F, _, rel, wp, fun r ρ' v F' H' p q => by
    obtain ⟨s, q1, q2, q3⟩ := p.slot rel q
    obtain ⟨x1, x2⟩ := p.store (i := i) rel tr q2 q3
    exact en.nx _ _ _ _ x1 x2 q1⟩
/-- name = {k: v for ..} on one line, the name a local -/
theorem ps_setDx (hX : XOk X k) {i : Nat} {y : Str} {py : Pos} {kx vx tg iter : Expr} {ifs : List Expr} {scope : Scope} {own : List (Str × Nat)} {pos spos : Pos} {wi : TI} {g : TG} {tt : TT} {tk tv : TE} (hN : X.N.Nodup) (hy : X.N[i]? = some y) (hyl : X.env.scope.names.lookup y = some .local)
    (hsw : swapsWith (.DictComp kx vx [⟨tg, iter, ifs, 0⟩] scope pos) (some (.Name y py)) spos.line X.env = pure true) (hi : PI X tg iter wi) (ok : BlkOk X.N X.env.scope scope own)
    (hg : ∀ (s : Shared) (H : Hp) (C : Addr) (cl : List (Str × Addr)) (fp : List Addr), PG (X.blk s H scope (compEnvC scope cl C X.env) fp) tg g)
    (ht : ∀ (s : Shared) (H : Hp) (C : Addr) (cl : List (Str × Addr)) (fp : List Addr), PTs (X.blk s H scope (compEnvC scope cl C X.env) fp) ifs tt)
    (hk : ∀ (s : Shared) (H : Hp) (C : Addr) (cl : List (Str × Addr)) (fp : List Addr), PE (X.blk s H scope (compEnvC scope cl C X.env) fp) kx tk)
    (he : ∀ (s : Shared) (H : Hp) (C : Addr) (cl : List (Str × Addr)) (fp : List Addr), PE (X.blk s H scope (compEnvC scope cl C X.env) fp) vx tv) (hs : ∀ x, foldedSetIterable iter X.env x = pure x) :
    PS X (.Assign [.Name y py] (.DictComp kx vx [⟨tg, iter, ifs, 0⟩] scope pos) spos) (tAsg (tDx k wi g tt tk tv (own.map (·.2))) (gName i)) := by
  refine ⟨fun pins s σ H D I h => ?_⟩
  rw [exec_Assign_Name_used _ _ _ _ hsw]
  refine wpAny_bind (wpAny_standAt (wpAny_bind ?_))
  show wpAny _ X.A (do let _ ← comprehension (.DictComp kx vx [⟨tg, iter, ifs, 0⟩] scope pos) scope X.env (firstIterPos [⟨tg, iter, ifs, 0⟩] pos) newDict false (eval iter X.env) (some (assign (.Name y py) X.env))) _ _ s
  have h : tDx k wi g tt tk tv (own.map (·.2)) σ H (fun x H1 => gName i x σ H1 D.nx) := h
  refine wpAny_bind (thn (dx_core hX (Qf := fun _ s' => SP X pins D .next s') hN I hi ok hg ht hk he hs h fun L C s' m H' I' q hn f => ?_) fun _ s' hq => wpAny_pure (wpAny_pure hq))
  show wpAny _ _ (assign (.Name y py) X.env (.ref L)) _ _ _
  refine wpAny_assign_Name (store_ok2 (v := V.ref L) I' hN hy (.inl hyl) rfl (fun s2 I2 ⟨a, sb, ha⟩ => ?_) (.inr hyl))
  obtain ⟨f0, f1, f2, f3, f4, f5⟩ := f
  have haC : C ≠ a := by
    rcases ha with z | z
    · rw [z]; exact f1
    · exact fun e => f4 y a z e.symm
  refine ⟨m, hn.sameBut sb haC, fun h3 sb3 => ?_⟩
  exact ⟨_, H', I2.turned (t' := s2.toks) (fun b o hb e => (sb3.2 b hb).trans e) f0 f1 f3 f4 f5, q⟩
theorem sw_trueD {kx vx : Expr} {gs : List Comprehension} {scope : Scope} {pos py : Pos} {y : Str} {l : Nat} {env : Env} (hk : env.scope.kind = .function) (hy : env.scope.names.lookup y = some .local) (hl : (py.line == pos.line) = true)
    (ha : (scope.names.any fun (n, k) => n == y && (k == .local || k == .cell)) = false) : swapsWith (.DictComp kx vx gs scope pos) (some (.Name y py)) l env = pure true := by
  have ky : env.kindOf y = some .local := hy
  have hb : env.blockKind = .function := by unfold Env.blockKind; rw [hk]; rfl
  unfold swapsWith
  simp only [hb, ky, ha, Expr.pos, hl]
  rfl
end
/-- where a comprehension's value is stored by its own block -/
def swB (K : CK) (y : Str) (py : Pos) (s : Scope) (cp : Pos) : Bool := decide (K.lk y = some .local) && (py.line == cp.line) && !(s.names.any fun (n, k) => n == y && (k == .local || k == .cell))
mutual
def okS : IS → CK → Stmt → Bool
  | .skip, _, st => match st with
    | .Pass _ => true
    | .Expr (.Constant (.str _) _ _) _ => true
    | _ => false
  | .asg (.nm i) e, K, st => match st with
    | .Assign [.Name x px] (.ListComp a b s cp) _ => K.sto i x && okE e K (.ListComp a b s cp) && swB K x px s cp
    | .Assign [.Name x px] (.DictComp a a' b s cp) _ => K.sto i x && okE e K (.DictComp a a' b s cp) && swB K x px s cp
    | .Assign [.Name x _] ev _ => K.sto i x && okE e K ev && !isComp ev
    | _ => false
  | .asg (.tp is) e, K, st => match st with
    | .Assign [.Tuple es kk tp] ev _ => okG K (.tp is) (.Tuple es kk tp) && okE e K ev && !isTup ev
    | _ => false
  | .asgS i ik e, K, st => match st with
    | .Assign [.Subscript (.Name x _) ek _] ev _ => K.var i x && okE ik K ek && okE e K ev && pix ek
    | _ => false
  | .aug i e, K, st => match st with
    | .AugAssign (.Name x _) .Add ev _ => K.sto i x && okE e K ev
    | _ => false
  | .app i e, K, st => match st with
    | .Expr (.Call (.Attribute (.Name x _) n apos) [ev] [] cpos) _ => decide (n = "append") && K.var i x && okE e K ev && nst ev && (apos.endLine == cpos.line)
    | _ => false
  | .popT j i e, K, st => match st with
    | .Assign [.Name x _] (.BinOp (.Name x2 _) .Add (.Tuple [.Call (.Attribute (.Name y _) n apos) [ev] [] cpos] _ _) _) _ => decide (n = "pop") && K.sto j x && K.var j x2 && K.var i y && okE e K ev && nst ev && (apos.endLine == cpos.line)
    | _ => false
  | .ifs c a b, K, st => match st with
    | .If ec ba bb _ => okT c K ec && okB a K ba && okB b K bb
    | _ => false
  | .fr tg it b, K, st => match st with
    | .For et ei eb [] _ => okG K tg et && okI it K ei && (!tpOf it || tgTp tg) && !isSet ei && okB b K eb
    | _ => false
  | .whl c b, K, st => match st with
    | .While ec eb [] _ => okT c K ec && okB b K eb
    | _ => false
  | .ret e, K, st => match st with
    | .Return (some ev) _ => okE e K ev
    | _ => false
  | .ret0, _, st => match st with
    | .Return none _ => true
    | _ => false
  | .reto i, K, st => match st with
    | .Return (some (.Name x _)) _ => K.var i x
    | _ => false
  | .brk, _, st => match st with
    | .Break _ => true
    | _ => false
  | .cnt, _, st => match st with
    | .Continue _ => true
    | _ => false
  | .ex e, K, st => match st with
    | .Expr ev _ => okE e K ev && !isComp ev
    | _ => false
  | _, _, _ => false
def okB : IS → CK → List Stmt → Bool
  | .skip, _, sts => match sts with
    | [] => true
    | _ => false
  | .seq a b, K, sts => match sts with
    | st :: rest => okS a K st && okB b K rest
    | [] => false
  | _, _, _ => false
end
section
variable {k : RC} {C : PC}
theorem set_lc {X : Cx} {K : CK} {pos : Pos} {i : Nat} {x : Str} {px cp : Pos} {s : Scope} {a : Expr} {b : List Comprehension} {e : IE} (h : CkOk X k C K) (v1 : K.sto i x = true) (v2 : okE e K (.ListComp a b s cp) = true) (v3 : swB K x px s cp = true) : PS X (.Assign [.Name x px] (.ListComp a b s cp) pos) (tS C k (.asg (.nm i) e)) := by
  unfold swB at v3
  simp only [Bool.and_eq_true, decide_eq_true_eq, Bool.not_eq_true'] at v3
  obtain ⟨⟨w1, w2⟩, w3⟩ := v3
  have hyl : X.env.scope.names.lookup x = some .local := by rw [h.lk]; exact w1
  cases e with
  | comp vs tg it c el =>
    unfold okE at v2
    split at v2
    · rename_i hh
      cases hh
      rename_i et ei ifs
      simp only [Bool.and_eq_true, Bool.not_eq_true', List.all_eq_true] at v2
      obtain ⟨⟨⟨⟨⟨⟨⟨u1, u2⟩, u3⟩, u4⟩, u5⟩, u6⟩, u7⟩, u8⟩ := v2
      obtain ⟨b1, b2, b3⟩ := okB0_ok h u1
      have hin := fun sh H A cl fp => h.into s b3 sh H A cl fp
      have pts : ∀ (sh : Shared) (H : Hp) (A : Addr) (cl : List (Str × Addr)) (fp : List Addr), PTs (X.blk sh H s (compEnvC s cl A X.env) fp) ifs (tT C k c) := fun sh H A cl fp => by
        cases ifs with
        | nil => exact pts_any u7
        | cons ec r =>
          cases r with
          | nil => exact pts_one (snd_T c (hin sh H A cl fp) u7).1
          | cons _ _ => exact absurd u7 Bool.false_ne_true
      have := ps_setLc (pos := cp) (spos := pos) (py := px) h.hX.calm h.nd (h.sto v1).1 hyl (sw_true (by rw [h.sc]; exact h.kind) hyl w2 w3) (snd_I it (b := true) (tp := tpOf it) (tg := et) h rfl u2) b1 (fun sh H A cl fp => okG_ok (hin sh H A cl fp) u3) pts
        (fun sh H A cl fp => snd_E el (hin sh H A cl fp) u8) (set_ok u6)
      rw [b2] at this
      exact weakS this fun D σ H q => lc_sem (fun z => by
        rw [z] at u5
        cases tg with
        | nm i => exact absurd u5 Bool.false_ne_true
        | tp is => exact ⟨is, rfl⟩) (fun i hi => by simpa using u4 i hi) (set_core q)
    · cases v2
  | _ => first | exact absurd v2 Bool.false_ne_true | (rename_i m _ _; cases m <;> exact absurd v2 Bool.false_ne_true) | (rename_i d; cases d <;> exact absurd v2 Bool.false_ne_true)
theorem set_dx {X : Cx} {K : CK} {pos : Pos} {i : Nat} {x : Str} {px cp : Pos} {s : Scope} {a a' : Expr} {b : List Comprehension} {e : IE} (h : CkOk X k C K) (v1 : K.sto i x = true) (v2 : okE e K (.DictComp a a' b s cp) = true) (v3 : swB K x px s cp = true) : PS X (.Assign [.Name x px] (.DictComp a a' b s cp) pos) (tS C k (.asg (.nm i) e)) := by
  unfold swB at v3
  simp only [Bool.and_eq_true, decide_eq_true_eq, Bool.not_eq_true'] at v3
  obtain ⟨⟨w1, w2⟩, w3⟩ := v3
  have hyl : X.env.scope.names.lookup x = some .local := by rw [h.lk]; exact w1
  cases e with
  | dcomp vs tg it c ik iv =>
    unfold okE at v2
    split at v2
    · rename_i hh
      cases hh
      rename_i et ei ifs
      simp only [Bool.and_eq_true, Bool.not_eq_true', List.all_eq_true] at v2
      obtain ⟨⟨⟨⟨⟨⟨⟨⟨u1, u2⟩, u3⟩, u4⟩, u5⟩, u6⟩, u7⟩, u8⟩, u9⟩ := v2
      obtain ⟨b1, b2, b3⟩ := okB0_ok h u1
      have hin := fun sh H A cl fp => h.into s b3 sh H A cl fp
      have pts : ∀ (sh : Shared) (H : Hp) (A : Addr) (cl : List (Str × Addr)) (fp : List Addr), PTs (X.blk sh H s (compEnvC s cl A X.env) fp) ifs (tT C k c) := fun sh H A cl fp => by
        cases ifs with
        | nil => exact pts_any u7
        | cons ec r =>
          cases r with
          | nil => exact pts_one (snd_T c (hin sh H A cl fp) u7).1
          | cons _ _ => exact absurd u7 Bool.false_ne_true
      have := ps_setDx (pos := cp) (spos := pos) (py := px) h.hX h.nd (h.sto v1).1 hyl (sw_trueD (by rw [h.sc]; exact h.kind) hyl w2 w3) (snd_I it (b := true) (tp := tpOf it) (tg := et) h rfl u2) b1 (fun sh H A cl fp => okG_ok (hin sh H A cl fp) u3) pts
        (fun sh H A cl fp => snd_E ik (hin sh H A cl fp) u8) (fun sh H A cl fp => snd_E iv (hin sh H A cl fp) u9) (set_ok u6)
      rw [b2] at this
      exact weakS this fun D σ H q => dx_sem (fun z => by
        rw [z] at u5
        cases tg with
        | nm i => exact absurd u5 Bool.false_ne_true
        | tp is => exact ⟨is, rfl⟩) (fun i hi => by simpa using u4 i hi) (set_core q)
    · cases v2
  | _ => first | exact absurd v2 Bool.false_ne_true | (rename_i m _ _; cases m <;> exact absurd v2 Bool.false_ne_true) | (rename_i d; cases d <;> exact absurd v2 Bool.false_ne_true)
theorem sws_other {e t : Expr} {l : Nat} {env : Env} (h : ∀ x p, t ≠ .Name x p) : swapsWithSole [t] e l env = pure false := by
  show swapsWith e (some t) l env = pure false
  exact sw_other h
mutual
theorem snd_S : ∀ (is : IS) {X : Cx} {K : CK} {st : Stmt}, CkOk X k C K → okS is K st = true → PS X st (tS C k is)
  | .skip, X, K, st, h, v => by
    unfold okS at v
    split at v
    · exact qs_pass
    · exact qs_doc
    · cases v
  | .asg (.nm i) e, X, K, st, h, v => by
    unfold okS at v
    split at v
    · simp only [Bool.and_eq_true] at v
      exact set_lc h v.1.1 v.1.2 v.2
    · simp only [Bool.and_eq_true] at v
      exact set_dx h v.1.1 v.1.2 v.2
    · simp only [Bool.and_eq_true, Bool.not_eq_true'] at v
      obtain ⟨a, b, c⟩ := h.sto v.1.1
      exact qs_set h.nd a b (snd_E e h v.1.2) (sw_no v.2) c
    · cases v
  | .asg (.tp is) e, X, K, st, h, v => by
    unfold okS at v
    split at v
    · simp only [Bool.and_eq_true, Bool.not_eq_true'] at v
      exact qs_tup h.hX (snd_E e h v.1.2) (okG_ok h v.1.1) (sws_other fun x p z => Expr.noConfusion z) (swp_ok v.2) rfl
    · cases v
  | .asgS i ik e, X, K, st, h, v => by
    unfold okS at v
    split at v
    · simp only [Bool.and_eq_true] at v
      exact qs_asgS h.hX (h.var v.1.1.1) (snd_E ik h v.1.1.2) (snd_E e h v.1.2) (asgS_ok v.2) (sws_other fun x p z => Expr.noConfusion z) rfl rfl
    · cases v
  | .aug i e, X, K, st, h, v => by
    unfold okS at v
    split at v
    · simp only [Bool.and_eq_true] at v
      obtain ⟨a, b, c⟩ := h.sto v.1
      exact qs_aug h.nd a b (snd_E e h v.2) c
    · cases v
  | .app i e, X, K, st, h, v => by
    unfold okS at v
    split at v
    · simp only [Bool.and_eq_true, decide_eq_true_eq] at v
      obtain ⟨⟨⟨⟨rfl, v2⟩, v3⟩, v4⟩, v5⟩ := v
      exact qs_app (h.var v2) (snd_E e h v3) rfl rfl (fewA (by rw [List.all_cons, v4]; rfl) (show 1 < 30 by decide)) v5 (star1 v4)
    · cases v
  | .popT j i e, X, K, st, h, v => by
    unfold okS at v
    split at v
    · simp only [Bool.and_eq_true, decide_eq_true_eq] at v
      obtain ⟨⟨⟨⟨⟨⟨rfl, v2⟩, v3⟩, v4⟩, v5⟩, v6⟩, v7⟩ := v
      obtain ⟨a, b, c⟩ := h.sto v2
      exact qs_popT h.hX h.nd a b c (h.var v3) (h.var v4) (snd_E e h v5) rfl rfl (fewA (by rw [List.all_cons, v6]; rfl) (show 1 < 30 by decide)) v7 (star1 v6) rfl
    · cases v
  | .ifs c a b, X, K, st, h, v => by
    unfold okS at v
    split at v
    · simp only [Bool.and_eq_true] at v
      exact qs_if (snd_T c h v.1.1).1 (snd_B a h v.1.2) (snd_B b h v.2)
    · cases v
  | .fr tg it b, X, K, st, h, v => by
    unfold okS at v
    split at v
    · simp only [Bool.and_eq_true, Bool.not_eq_true'] at v
      obtain ⟨⟨⟨⟨v1, v2⟩, v3⟩, v4⟩, v5⟩ := v
      exact qs_for h.hX (tp := tpOf it) h.nox (snd_I it h rfl v2) (okG_ok h v1) (fun z => by
        rw [z] at v3
        cases tg with
        | nm i => exact absurd v3 Bool.false_ne_true
        | tp is => exact ⟨is, rfl⟩) (snd_B b h v5) (set_ok v4)
    · cases v
  | .whl c b, X, K, st, h, v => by
    unfold okS at v
    split at v
    · simp only [Bool.and_eq_true] at v
      exact qs_whl h.nox (snd_T c h v.1).1 (snd_B b h v.2)
    · cases v
  | .ret e, X, K, st, h, v => by
    unfold okS at v
    split at v
    · exact qs_ret (snd_E e h v)
    · cases v
  | .ret0, X, K, st, h, v => by
    unfold okS at v
    split at v
    · exact qs_ret0
    · cases v
  | .reto i, X, K, st, h, v => by
    unfold okS at v
    split at v
    · exact qs_reto (h.var v)
    · cases v
  | .brk, X, K, st, h, v => by
    unfold okS at v
    split at v
    · exact qs_brk
    · cases v
  | .cnt, X, K, st, h, v => by
    unfold okS at v
    split at v
    · exact qs_cnt
    · cases v
  | .ex e, X, K, st, h, v => by
    unfold okS at v
    split at v
    · simp only [Bool.and_eq_true, Bool.not_eq_true'] at v
      exact qs_ex (snd_E e h v.1) (sw_no v.2)
    · cases v
  | .seq _ _, _, _, _, _, v | .ext _ _, _, _, _, _, v | .remv _ _, _, _, _, _, v | .pop0 _ _, _, _, _, _, v | .pop1 _ _ _, _, _, _, _, v | .sdef _ _ _, _, _, _, _, v | .frl _ _ _, _, _, _, _, v | .rais _, _, _, _, _, v => absurd v Bool.false_ne_true
theorem snd_B : ∀ (is : IS) {X : Cx} {K : CK} {sts : List Stmt}, CkOk X k C K → okB is K sts = true → PSs X sts (tS C k is)
  | .skip, X, K, sts, h, v => by
    cases sts with
    | nil => exact qss_nil
    | cons _ _ => exact absurd v Bool.false_ne_true
  | .seq a b, X, K, sts, h, v => by
    cases sts with
    | nil => exact absurd v Bool.false_ne_true
    | cons st rest =>
      have v : (okS a K st && okB b K rest) = true := v
      simp only [Bool.and_eq_true] at v
      exact qss_cons (snd_S a h v.1) (snd_B b h v.2)
  | .asg _ _, _, _, _, _, v | .asgS _ _ _, _, _, _, _, v | .aug _ _, _, _, _, _, v | .app _ _, _, _, _, _, v | .popT _ _ _, _, _, _, _, v | .ifs _ _ _, _, _, _, _, v | .fr _ _ _, _, _, _, _, v | .whl _ _, _, _, _, _, v | .ret _, _, _, _, _, v | .ret0, _, _, _, _, v
  | .reto _, _, _, _, _, v | .brk, _, _, _, _, v | .cnt, _, _, _, _, v | .ex _, _, _, _, _, v | .ext _ _, _, _, _, _, v | .remv _ _, _, _, _, _, v | .pop0 _ _, _, _, _, _, v | .pop1 _ _ _, _, _, _, _, v | .sdef _ _ _, _, _, _, _, v | .frl _ _ _, _, _, _, _, v
  | .rais _, _, _, _, _, v => absurd v Bool.false_ne_true
end
end

/-! ### a def keeps its promise -/
section
variable {P : Program} {w : World} {K : PySem.W.Frag} {mg : Str → Option Value} {base : Heap}
/-- the built-ins' names stand for themselves -/
def BltOk (mg : Str → Option Value) : Prop := ∀ x ∈ (["len", "int", "str", "tuple", "list", "sorted", "min", "max", "sum", "any", "all", "abs", "range", "isinstance", "bool", "dict", "zip", "enumerate"] : List Str), mg x = none
/-- the constants of the text -/
def CsOk (K : PySem.W.Frag) (mg : Str → Option Value) (cs : List (Str × D)) : Prop := ∀ x d, (x, d) ∈ cs → ∃ v u, mg x = some u ∧ RelV v u ∧ ∀ (k : RC) (F : Hp), k.K = K → R k F v d
/-- what the defs with these numbers and names promise -/
def FnsOk (P : Program) (w : World) (K : PySem.W.Frag) (mg : Str → Option Value) (base : Heap) (j : Nat) (fs : List (Nat × Str)) (sp : Nat → Spec) : Prop :=
  ∀ f x, (f, x) ∈ fs → ∃ i, i ≤ j ∧ C8.Cal P w K mg base i x (lift K w (sp f)) []
theorem start_get {N : List Str} {vs : List V} {i : Nat} : (L2.start N vs)[i]? = if i < vs.length then (vs[i]?).map some else if i < N.length then some none else none := by
  unfold L2.start
  by_cases h : i < vs.length
  · rw [if_pos h, List.getElem?_append_left (by simpa using h), List.getElem?_map]
  · rw [if_neg h, List.getElem?_append_right (by simpa using h), List.getElem?_replicate]
    simp only [List.length_map]
    by_cases h2 : i < N.length
    · rw [if_pos h2, if_pos (by omega)]
    · rw [if_neg h2, if_neg (by omega)]
/-- the slots at a def's entry -/
theorem rel_start {k : RC} {N : List Str} {vs : List V} {ds : List D} {dr : Nat} {F H : Hp} (hl : ds.length ≤ N.length) (sub : Same F H) (pool : PoolOk k F H dr) (r : Rs k F vs ds) :
    Rel k ⟨ds.map SV.val ++ List.replicate (N.length - ds.length) SV.no, dr⟩ (L2.start N vs) F H ∧ ∀ i a, ¬ OwnAt ⟨ds.map SV.val ++ List.replicate (N.length - ds.length) SV.no, dr⟩ (L2.start N vs) i a := by
  have len := r.length
  have gt : ∀ i, PEnv.get ⟨ds.map SV.val ++ List.replicate (N.length - ds.length) SV.no, dr⟩ i = match ds[i]? with | some d => .val d | none => .no := fun i => by
    unfold PEnv.get
    rw [List.getD_eq_getElem?_getD]
    by_cases h : i < ds.length
    · rw [List.getElem?_append_left (by simpa using h), List.getElem?_map, List.getElem?_eq_getElem h]; rfl
    · rw [List.getElem?_append_right (by simpa using h), List.getElem?_replicate, List.getElem?_eq_none (by omega)]
      split <;> rfl
  have no : ∀ i a, ¬ OwnAt ⟨ds.map SV.val ++ List.replicate (N.length - ds.length) SV.no, dr⟩ (L2.start N vs) i a := fun i a ⟨h, _⟩ => by
    rw [gt] at h
    cases e : ds[i]? <;> rw [e] at h <;> cases h
  refine ⟨⟨?_, sub, fun i => ?_, fun i j a x => absurd x (no i a), pool⟩, no⟩
  · unfold L2.start
    simp only [List.length_append, List.length_map, List.length_replicate]
    omega
  · rw [gt]
    cases e : ds[i]? with
    | none => trivial
    | some d =>
      obtain ⟨v, h1, h2⟩ := r.get e
      refine ⟨v, ?_, h2⟩
      rw [start_get, if_pos (List.getElem?_eq_some_iff.mp h1).1, h1]
      rfl
theorem def_ok {x : Str} {st : Stmt} {f : Addr} {fd : FuncData} {N ps : List Str} {j : Nat} {fs : List (Nat × Str)} {cs : List (Str × D)} {sps : Nat → Spec} {sp : Spec} {body : IS} (F : C8.Def K mg x st f fd) (b : Binds K fd ps []) (S : FnScope N ps (C8.fnScope st)) (hp : ps.length ≤ N.length)
    (hb : BltOk mg) (hcs : CsOk K mg cs) (hf : FnsOk P w K mg base j fs sps) (ck : okB body ⟨N, C8.fnScope st, none, fs, cs⟩ (C8.fnBody st) = true) (len : ∀ ds dr Q xe, sp ds dr Q xe → ds.length = ps.length)
    (hw : ∀ ds dr Q, sp ds dr Q (fun _ _ => False) → wpF ⟨sps, fun _ _ => False⟩ N.length body ds dr Q) : C8.Cal P w K mg base (j + 1) x (lift K w sp) [] := by
  refine C8.cal0 F b .nil S (fun vs H Q E ⟨P', F', ds, dr, QQ, _, _, rs, hs, _⟩ => by rw [rs.length]; exact len _ _ _ _ hs) fun cdv A outer s H vs Q E hr ⟨P', F', ds, dr, QQ, sub, pool, rs, hs, fin⟩ => ?_
  refine ⟨tS ⟨sps, fun _ _ => False⟩ ⟨K, w, P'⟩ body, snd_B body (K := ⟨N, C8.fnScope st, none, fs, cs⟩) ?_ ck, ?_⟩
  · exact ⟨⟨rfl, rfl, rfl, hr.mono (Nat.zero_le _)⟩, rfl, S.nd, rfl, fun _ _ => rfl, rfl, PassesOwn.never, S.kind, hb, fun x d h => let ⟨v, u, h1, h2, h3⟩ := hcs x d h; ⟨v, u, h1, h2, fun F => h3 _ F rfl⟩, fun f x h => let ⟨i, hi, c⟩ := hf f x h; ⟨i, j, c, hr, hi⟩⟩
  · have hl := len _ _ _ _ hs
    obtain ⟨rel, no⟩ := rel_start (N := N) (by omega) sub pool rs
    refine ⟨_, F', F', H, F', _, rel, ⟨fun _ _ h => h, .refl, fun _ h => h, fun _ _ => rfl, fun i a z => absurd z (no i a), fun _ _ h => h⟩, hw ds dr QQ hs, ?_⟩
    refine ⟨fun ρ σ F1 H1 r t q => ?_, fun ρ σ F1 H1 r t q => q.elim, fun ρ σ F1 H1 r t q => q.elim, fun r dr' v F1 H1 cp q => fin r dr' v F1 H1 cp q⟩
    exact fin (.val .non) _ _ _ _ (t.post r.sub r.pool (show R _ F1 .non .non from .non)) q
end
end PL
/-! PL20: the law's pool of draws. -/
namespace PL
open PySem PySem.Spec PyProof.Rows L2
section
variable {P : Program} {w : World} {K : PySem.W.Frag} {mg : Str → Option Value} {base : Heap}
/-- the context at a def's entry, as the checker knows it -/
theorem ck_entry {x : Str} {st : Stmt} {f : Addr} {N ps : List Str} {j : Nat} {fs : List (Nat × Str)} {cs : List (Str × D)} {sps : Nat → Spec} {cdv : Value} {A : Around} {outer : List Env} {s : Shared} {H : Hp} {E : XK} {P' : Option (Addr × Addr × Addr)} (S : FnScope N ps (C8.fnScope st)) (hb : BltOk mg) (hcs : CsOk K mg cs)
    (hf : FnsOk P w K mg base j fs sps) (hr : Room j (A.deeper (envOfC x (C8.fnScope st) s.heap.objs.size f cdv))) :
    CkOk (cxOf C8.CX0 P w K mg base N x (C8.fnScope st) f cdv A outer s H E).nox ⟨K, w, P'⟩ ⟨sps, fun _ _ => False⟩ ⟨N, C8.fnScope st, none, fs, cs⟩ :=
  ⟨⟨rfl, rfl, rfl, hr.mono (Nat.zero_le _)⟩, rfl, S.nd, rfl, fun _ _ => rfl, rfl, PassesOwn.never, S.kind, hb, fun x d h => let ⟨v, u, h1, h2, h3⟩ := hcs x d h; ⟨v, u, h1, h2, fun F => h3 _ F rfl⟩, fun f x h => let ⟨i, hi, c⟩ := hf f x h; ⟨i, j, c, hr, hi⟩⟩
/-! ### _law_cell -/
def spCell (K : PySem.W.Frag) : Sp := fun vs H Q _ => ∃ a ns n, vs = [.ref a, .int (n : Nat)] ∧ SqL K H a (List.map V.int ns) ∧ ∀ i, Q (.int i) H
theorem cell_ok {st : Stmt} {f : Addr} {fd : FuncData} {p1 p2 p3 p4 p5 p6 p7 p8 p9 p10 p11 p12 : Pos} {c1 j : Nat} (F : C8.Def K mg "_law_cell" st f fd) (b : Binds K fd ["script", "k"] []) (S : FnScope ["script", "k"] ["script", "k"] (C8.fnScope st)) (hb : BltOk mg)
    (ck : ((⟨["script", "k"], C8.fnScope st, none, [], []⟩ : CK).var 0 "script" && (⟨["script", "k"], C8.fnScope st, none, [], []⟩ : CK).var 1 "k" && (⟨["script", "k"], C8.fnScope st, none, [], []⟩ : CK).gl "len") = true)
    (hbody : C8.fnBody st = [.If (.Compare (.Name "k" p1) [.Lt] [.Call (.Name "len" p2) [.Name "script" p3] [] p4] p5) [.Return (some (.Subscript (.Name "script" p6) (.Name "k" p7) p8)) p9] [] p10, .Return (some (.Constant (.int 0) c1 p11)) p12]) :
    C8.Cal P w K mg base (j + 1) "_law_cell" (spCell K) [] := by
  refine C8.cal0 F b .nil S (fun vs H Q E ⟨a, ns, n, e, _⟩ => by rw [e]; rfl) fun cdv A outer s H vs Q E hr ⟨a, ns, n, e, hq, fin⟩ => ?_
  simp only [Bool.and_eq_true] at ck
  have h := ck_entry (P := P) (K := K) (w := w) (base := base) (x := "_law_cell") (cs := []) (fs := []) (sps := fun _ _ _ _ _ => False) (P' := none) S hb (fun x d h => by simp at h) (fun f x h => by simp at h) (outer := outer) (H := H) (E := E) hr
  have v0 : ∀ p, PE _ (.Name "script" p) (tVar 0) := fun p => h.var ck.1.1
  have v1 : ∀ p, PE _ (.Name "k" p) (tVar 1) := fun p => h.var ck.1.2
  rw [hbody]
  refine ⟨_, pss_cons (ps_if (pt_cmp (pc_lt (v1 p1) (pe_callB (id := "len") call_len (h.gl ck.2) (hb _ (by decide +kernel)) boot_len (pa_cons (v0 p3) pa_nil)))) (pss_one (ps_ret (pe_ix ix_list (v0 p6) (v1 p7) (pix_ok rfl)))) pss_nil) (pss_one (ps_ret pe_int)), ?_⟩
  subst e
  refine ⟨.int n, rfl, .ref a, rfl, .ref a, ns.length, rfl, .inl ⟨_, hq, by simp⟩, n, ns.length, rfl, rfl, _, rfl, ?_⟩
  show (if decide ((n : Int) < (ns.length : Nat)) = true then _ else _)
  by_cases hlt : (n : Int) < (ns.length : Nat)
  · rw [if_pos (decide_eq_true hlt)]
    have hlt' : n < ns.length := by omega
    refine ⟨.ref a, rfl, .int n, rfl, a, _, n, .int ns[n], rfl, rfl, hq, atI_nat (by simp [hlt']), fin _⟩
  · rw [if_neg (by rw [decide_eq_false hlt]; exact Bool.false_ne_true)]
    exact fin 0
/-! ### _law_draw -/
def sp_draw : Spec := fun ds dr Q _ => ∃ m : Int, ds = [.pool, .int m] ∧ 0 < m ∧ dr < 2 ^ 40 ∧ ∀ v : Int, 0 ≤ v → v < m → Q (.val (.int v)) (dr + 1)
theorem draw_ok {st : Stmt} {f : Addr} {fd : FuncData} {p1 p2 p3 p4 p5 p6 p7 p8 p9 p10 p11 p12 p13 p14 p15 p16 p17 p18 p19 p20 p21 p22 p23 p24 p25 p26 p27 p28 p29 p30 p31 p32 p33 p34 p35 p36 p37 p38 p39 p40 p41 p42 p43 p44 p45 p46 p47 p48 p49 p50 p1' : Pos} {c1 c2 c3 c4 c5 c6 c7 c8 c9 c10 j : Nat}
    (F : C8.Def K mg "_law_draw" st f fd) (b : Binds K fd ["pool", "many"] []) (S : FnScope ["pool", "many", "at", "turn"] ["pool", "many"] (C8.fnScope st)) (hb : BltOk mg)
    (ck : ((⟨["pool", "many", "at", "turn"], C8.fnScope st, none, [], []⟩ : CK).var 0 "pool" && (⟨["pool", "many", "at", "turn"], C8.fnScope st, none, [], []⟩ : CK).var 1 "many" && (⟨["pool", "many", "at", "turn"], C8.fnScope st, none, [], []⟩ : CK).var 2 "at" && (⟨["pool", "many", "at", "turn"], C8.fnScope st, none, [], []⟩ : CK).var 3 "turn"
      && (⟨["pool", "many", "at", "turn"], C8.fnScope st, none, [], []⟩ : CK).sto 2 "at" && (⟨["pool", "many", "at", "turn"], C8.fnScope st, none, [], []⟩ : CK).sto 3 "turn" && (⟨["pool", "many", "at", "turn"], C8.fnScope st, none, [], []⟩ : CK).gl "len" && (⟨["pool", "many", "at", "turn"], C8.fnScope st, none, [], []⟩ : CK).gl "int") = true)
    (hbody : C8.fnBody st = [.Assign [.Name "at" p1] (.Subscript (.Subscript (.Name "pool" p2) (.Constant (.int 1) c1 p3) p4) (.Constant (.int 0) c2 p5) p6) p7,
      .Assign [.Subscript (.Subscript (.Name "pool" p8) (.Constant (.int 1) c3 p9) p10) (.Constant (.int 0) c4 p11) p12] (.BinOp (.Name "at" p13) .Add (.Constant (.int 1) c5 p14) p15) p16,
      .Assign [.Name "turn" p17] (.BinOp (.Name "at" p18) .FloorDiv (.Call (.Name "len" p19) [.Subscript (.Name "pool" p20) (.Constant (.int 0) c6 p21) p22] [] p23) p24) p25,
      .Return (some (.BinOp (.Call (.Name "int" p26) [.BinOp (.BinOp (.Subscript (.Subscript (.Name "pool" p27) (.Constant (.int 0) c7 p28) p29) (.BinOp (.Name "at" p30) .Mod (.Call (.Name "len" p31) [.Subscript (.Name "pool" p32) (.Constant (.int 0) c8 p33) p34] [] p35) p36) p37) .Add
        (.BinOp (.Name "turn" p38) .Mult (.Constant (.int 1013) c9 p39) p40) p41) .Add (.BinOp (.BinOp (.Name "turn" p42) .Mult (.Name "at" p43) p44) .Mult (.Constant (.int 7) c10 p45) p46) p47] [] p48) .Mod (.Name "many" p49) p50)) p1']) :
    C8.Cal P w K mg base (j + 1) "_law_draw" (lift K w sp_draw) [] := by
  refine C8.cal0 F b .nil S (fun vs H Q E ⟨P', F', ds, dr, QQ, _, _, rs, ⟨m, e, _⟩, _⟩ => by rw [rs.length, e]; rfl) fun cdv A outer s H vs Q E hr ⟨P', F', ds, dr, QQ, sub, pool, rs, ⟨m, e, hm, hdr, hq⟩, fin⟩ => ?_
  subst e
  cases rs with
  | cons r1 rs =>
  cases rs with
  | cons r2 rs =>
  cases rs
  cases r2
  cases r1 with
  | @pool p r c hP =>
  obtain ⟨⟨f1, f2, f3⟩, ⟨n1, n2⟩, hp, ⟨rows, ⟨hne, hlen⟩, hrw⟩, n, hn0, hn1, hc⟩ := id (pool p r c hP)
  simp only [Bool.and_eq_true] at ck
  obtain ⟨⟨⟨⟨⟨⟨⟨k1, k2⟩, k3⟩, k4⟩, k5⟩, k6⟩, k7⟩, k8⟩ := ck
  have h := ck_entry (P := P) (K := K) (w := w) (base := base) (x := "_law_draw") (cs := []) (fs := []) (sps := fun _ _ _ _ _ => False) (P' := none) S hb (fun x d h => by simp at h) (fun f x h => by simp at h) (outer := outer) (H := H) (E := E) hr
  have v0 : ∀ p, PE _ (.Name "pool" p) (tVar 0) := fun p => h.var k1
  have v1 : ∀ p, PE _ (.Name "many" p) (tVar 1) := fun p => h.var k2
  have v2 : ∀ p, PE _ (.Name "at" p) (tVar 2) := fun p => h.var k3
  have v3 : ∀ p, PE _ (.Name "turn" p) (tVar 3) := fun p => h.var k4
  obtain ⟨a1, a2, a3⟩ := h.sto k5
  obtain ⟨b1, b2, b3⟩ := h.sto k6
  have ln : ∀ {e : Expr} {te : TE} {q1 q2 : Pos}, PE _ e te → nst e = true → PE _ (.Call (.Name "len" q1) [e] [] q2) (tCB _ (tCons te tNil)) := fun {e te q1 q2} he hs =>
    pe_callB (id := "len") call_len (h.gl k7) (hb _ (by decide +kernel)) boot_len (pa_cons he pa_nil (star1 hs)) (by decide +kernel) (by decide +kernel) (star1 hs) rfl
  rw [hbody]
  refine ⟨_, pss_cons (ps_set h.nd a1 a2 (pe_ix ix_list (pe_ix ix_list (v0 p2) pe_int (pix_ok rfl)) pe_int (pix_ok rfl)) (sw_no rfl) a3)
    (pss_cons (ps_asg (pe_op op_add (v2 p13) pe_int) (pg_sub (pe_ix ix_list (v0 p8) pe_int (pix_ok rfl)) pe_int set_list (asgS_ok rfl)) (sws_other fun x p z => Expr.noConfusion z) rfl rfl)
    (pss_cons (ps_set h.nd b1 b2 (pe_op op_fdivN (v2 p18) (ln (pe_ix ix_list (v0 p20) pe_int (pix_ok rfl)) rfl)) (sw_no rfl) b3)
    (pss_one (ps_ret (pe_op op_modN (pe_callTy (T := "int") call_int1 (h.gl k8) (hb _ (by decide +kernel)) boot_int (pa_cons
      (pe_op op_add (pe_op op_add (pe_ix ix_list (pe_ix ix_list (v0 p27) pe_int (pix_ok rfl)) (pe_op op_modN (v2 p30) (ln (pe_ix ix_list (v0 p32) pe_int (pix_ok rfl)) rfl)) (pix_ok rfl)) (pe_op op_mul (v3 p38) pe_int)) (pe_op op_mul (pe_op op_mul (v3 p42) (v2 p43)) pe_int)) pa_nil (star1 rfl)) (by decide +kernel) (by decide +kernel) (star1 rfl) rfl) (v1 p49)))))), ?_⟩
  have hl0 : 0 < rows.length := List.length_pos_iff.mpr hne
  have hpc : p ≠ c := fun z => n1 z.symm
  have hrc : r ≠ c := fun z => n2 z.symm
  have hp' : upd H c (.lst [.int (n + 1)]) p = some (.lst [.ref r, .ref c]) := (upd_ne hpc).trans hp
  have hr' : upd H c (.lst [.int (n + 1)]) r = some (.lst (rows.map V.int)) := (upd_ne hrc).trans hrw
  have fc : F' c = none := f3
  have key : ∀ v : Int, 0 ≤ v → v < m → Q (.int v) (upd H c (.lst [.int (n + 1)])) := fun v g0 g1 => by
    refine fin (.val (.int v)) (dr + 1) (.int v) F' _ ?_ (hq v g0 g1)
    refine ⟨fun a o e => ?_, fun _ _ e => e, fun a o e nc => ?_, fun a ha => ?_, fun _ _ => rfl, fun p' r' c' e => ?_, R.int _⟩
    · rw [upd_ne (ne_of_none e fc)]; exact sub a o e
    · by_cases z : a = c
      · exact absurd ⟨p, r, z ▸ hP⟩ nc
      · rw [upd_ne z]; exact e
    · by_cases z : a = c
      · subst z; rw [upd_same]; simp
      · rw [upd_ne z]; exact ha
    · have := hP.symm.trans e
      cases this
      exact ⟨⟨f1, f2, f3⟩, ⟨n1, n2⟩, hp', ⟨rows, ⟨hne, hlen⟩, hr'⟩, n + 1, by omega, by omega, upd_same⟩
  -- at = pool[1][0]
  refine ⟨.ref p, rfl, p, _, 1, .ref c, rfl, rfl, .of hp, rfl, c, _, 0, .int n, rfl, rfl, .of hc, rfl, ?_⟩
  -- pool[1][0] = at + 1
  refine ⟨.int n, rfl, n, 1, rfl, rfl, .ref p, rfl, p, _, 1, .ref c, rfl, rfl, .of hp, rfl, c, _, 0, 0, rfl, rfl, hc, rfl, ?_⟩
  show tSeq _ _ _ _ (upd H c (.lst [.int (n + 1)]))
  -- turn = at // len(pool[0])
  refine ⟨.int n, rfl, .ref p, rfl, p, _, 0, .ref r, rfl, rfl, .of hp', rfl, .ref r, (rows.map V.int).length, rfl, .inl ⟨_, .of hr', rfl⟩, n, (rows.map V.int).length, rfl, rfl, ⟨by rw [List.length_map]; omega, by rw [List.length_map]; omega⟩, ?_⟩
  rw [List.length_map]
  have hat : ∃ v, atI (rows.map V.int) (n.fmod (rows.length : Nat)) = some (.int v) := by
    have g0 : 0 ≤ n.fmod (rows.length : Nat) := Int.fmod_nonneg_of_pos n (by omega)
    have g1 : n.fmod (rows.length : Nat) < (rows.length : Nat) := Int.fmod_lt_of_pos n (by omega)
    obtain ⟨i, hi⟩ : ∃ i : Nat, n.fmod (rows.length : Nat) = i := ⟨_, (Int.toNat_of_nonneg g0).symm⟩
    rw [hi] at g1 ⊢
    have hlt : i < rows.length := by omega
    exact ⟨rows[i], atI_nat (by simp [hlt])⟩
  obtain ⟨z, hz⟩ := hat
  have hfd : 0 ≤ n.fdiv (rows.length : Nat) ∧ n.fdiv (rows.length : Nat) ≤ n := by
    rw [Int.fdiv_eq_ediv_of_nonneg _ (by omega)]
    exact ⟨Int.ediv_nonneg hn0 (by omega), Int.ediv_le_self _ hn0⟩
  have big : (2 : Int) ^ 64 = 18446744073709551616 := by decide
  have dr40 : (dr : Int) < 1099511627776 := by
    have : (2 : Nat) ^ 40 = 1099511627776 := by decide
    omega
  -- the answer
  refine ⟨.ref p, rfl, p, _, 0, .ref r, rfl, rfl, .of hp', rfl, .int n, rfl, .ref p, rfl, p, _, 0, .ref r, rfl, rfl, .of hp', rfl, .ref r, (rows.map V.int).length, rfl, .inl ⟨_, .of hr', rfl⟩, n, (rows.map V.int).length, rfl, rfl, by rw [List.length_map]; omega, ?_⟩
  rw [List.length_map]
  refine ⟨r, _, _, .int z, rfl, rfl, .of hr', hz, .int _, rfl, _, 1013, rfl, rfl, .inr ⟨by decide, by decide⟩, z, _, rfl, rfl, .int _, rfl, .int n, rfl, _, n, rfl, rfl, .inr ⟨by omega, by omega⟩, _, 7, rfl, rfl, .inr ⟨by decide, by decide⟩, _, _, rfl, rfl, .inl ⟨_, rfl, ?_⟩⟩
  refine ⟨.int m, rfl, _, m, rfl, rfl, by omega, ?_⟩
  exact key _ (Int.fmod_nonneg_of_pos _ hm) (Int.fmod_lt_of_pos _ hm)
end
end PL
/-! PL21: laws of the plain reading: loops, comprehensions; how a reading is evaluated. -/
namespace PL
open PySem PySem.Spec PyProof.Rows L2
theorem for_inv {tg : Tg} {fb : PEnv → PEnds → Prop} {E : PEnds} (I : Nat → PEnv → Prop) : ∀ (ds : List D) (i0 : Nat) {ρ : PEnv}, I i0 ρ →
    (∀ i d ρ, ds[i]? = some d → I (i0 + i) ρ → ∀ Nx : PEnv → Prop, (∀ ρ', I (i0 + i + 1) ρ' → Nx ρ') → tgP tg d ρ fun ρ1 => fb ρ1 ⟨Nx, E.rt, E.nx, Nx⟩) → (∀ ρ, I (i0 + ds.length) ρ → E.nx ρ) → forL tg fb ds ρ E
  | [], i0, ρ, h, _, fin => fin ρ h
  | d :: ds, i0, ρ, h, step, fin => by
    refine step 0 d ρ rfl h _ fun ρ' h' => ?_
    refine for_inv I ds (i0 + 1) h' (fun i d ρ e hi Nx hN => step (i + 1) d ρ (by simpa using e) (by rw [← Nat.add_assoc, Nat.add_right_comm]; exact hi) Nx fun ρ' z => hN ρ' (by rw [Nat.add_right_comm i0 1 i]; exact z)) fun ρ z => fin ρ (by rw [List.length_cons, ← Nat.add_assoc, Nat.add_right_comm]; exact z)
/-- a comprehension whose turns leave the slots as they are -/
theorem comp_pure {vs : List Nat} {tg : Tg} {fc fe : PEnv → RK → Prop} {ρ : PEnv} {Q : List D → PEnv → Prop} (g : D → Option D) : ∀ (ds acc : List D), acc.length + ds.length ≤ sizeLine →
    (∀ d ∈ ds, ∀ K : Option D → PEnv → Prop, K (g d) ρ → tgP tg d ρ fun ρ1 => fc ρ1 fun c ρ2 => ∃ b, c = .val (.bl b) ∧ brn b (fe ρ2 fun r ρ3 => r.kept fun x => K (some x) (ρ3.wipe vs)) (K none (ρ2.wipe vs))) →
    Q (acc ++ ds.filterMap g) ρ → compL vs tg fc fe ds ρ acc Q
  | [], acc, _, _, q => by simpa [compL] using q
  | d :: ds, acc, hz, h, q => by
    have hz' : acc.length + (ds.length + 1) ≤ sizeLine := hz
    have key := h d (List.mem_cons_self ..) (fun o ρ' => match o with | some x => acc.length < sizeLine ∧ compL vs tg fc fe ds ρ' (acc ++ [x]) Q | none => compL vs tg fc fe ds ρ' acc Q)
    refine key ?_
    cases e : g d with
    | none => exact comp_pure g ds acc (by omega) (fun d hd => h d (List.mem_cons_of_mem _ hd)) (by simpa [e] using q)
    | some x => exact ⟨by omega, comp_pure g ds (acc ++ [x]) (by simp; omega) (fun d hd => h d (List.mem_cons_of_mem _ hd)) (by simpa [e] using q)⟩
/-- .. over things told by f, those that p takes, each to g -/
theorem comp_fm {α : Type} {vs : List Nat} {tg : Tg} {fc fe : PEnv → RK → Prop} {ρ : PEnv} {Q : List D → PEnv → Prop} {f : α → D} (p : α → Bool) (g : α → D) : ∀ (xs : List α) (acc : List D), acc.length + xs.length ≤ sizeLine →
    (∀ a ∈ xs, ∀ K : Option D → PEnv → Prop, (p a = true → K (some (g a)) ρ) → (p a = false → K none ρ) → tgP tg (f a) ρ fun ρ1 => fc ρ1 fun c ρ2 => ∃ b, c = .val (.bl b) ∧ brn b (fe ρ2 fun r ρ3 => r.kept fun x => K (some x) (ρ3.wipe vs)) (K none (ρ2.wipe vs))) →
    Q (acc ++ (xs.filter p).map g) ρ → compL vs tg fc fe (xs.map f) ρ acc Q
  | [], acc, _, _, q => by simpa [compL] using q
  | a :: xs, acc, hz, h, q => by
    have hz' : acc.length + (xs.length + 1) ≤ sizeLine := hz
    have key := h a (List.mem_cons_self ..) (fun o ρ' => match o with | some x => acc.length < sizeLine ∧ compL vs tg fc fe (xs.map f) ρ' (acc ++ [x]) Q | none => compL vs tg fc fe (xs.map f) ρ' acc Q)
    refine key (fun e => ⟨by omega, comp_fm p g xs (acc ++ [g a]) (by simp; omega) (fun d hd => h d (List.mem_cons_of_mem _ hd)) (by simpa [List.filter_cons, e] using q)⟩) (fun e => comp_fm p g xs acc (by omega) (fun d hd => h d (List.mem_cons_of_mem _ hd)) (by simpa [List.filter_cons, e] using q))
/-- .. all of them -/
theorem comp_mp {α : Type} {vs : List Nat} {tg : Tg} {fc fe : PEnv → RK → Prop} {ρ : PEnv} {Q : List D → PEnv → Prop} {f : α → D} (g : α → D) (xs : List α) (hz : xs.length ≤ sizeLine)
    (h : ∀ a ∈ xs, ∀ K : Option D → PEnv → Prop, K (some (g a)) ρ → tgP tg (f a) ρ fun ρ1 => fc ρ1 fun c ρ2 => ∃ b, c = .val (.bl b) ∧ brn b (fe ρ2 fun r ρ3 => r.kept fun x => K (some x) (ρ3.wipe vs)) (K none (ρ2.wipe vs)))
    (q : Q (xs.map g) ρ) : compL vs tg fc fe (xs.map f) ρ [] Q :=
  comp_fm (fun _ => true) g xs [] (by simpa using hz) (fun a ha K k1 _ => h a ha K (k1 rfl)) (by rw [List.filter_eq_self.mpr (fun _ _ => rfl)]; exact q)
/-- a comprehension whose turns may draw: Pf: what may come of an item -/
theorem comp_dr {vs : List Nat} {tg : Tg} {fc fe : PEnv → RK → Prop} {sl : List SV} {Q : List D → PEnv → Prop} (n : Nat) (Pf : D → Option D → Prop) : ∀ (ds acc : List D) (dr : Nat), acc.length + ds.length ≤ sizeLine →
    (∀ d ∈ ds, ∀ dr', dr' + n ≤ dr + n * ds.length → ∀ K : Option D → PEnv → Prop, (∀ o dr'', dr'' ≤ dr' + n → Pf d o → K o ⟨sl, dr''⟩) → tgP tg d ⟨sl, dr'⟩ fun ρ1 => fc ρ1 fun c ρ2 => ∃ b, c = .val (.bl b) ∧ brn b (fe ρ2 fun r ρ3 => r.kept fun x => K (some x) (ρ3.wipe vs)) (K none (ρ2.wipe vs))) →
    (∀ (os : List (Option D)) (dr' : Nat), os.length = ds.length → (∀ (i : Nat) (d : D) (o : Option D), ds[i]? = some d → os[i]? = some o → Pf d o) → dr' ≤ dr + n * ds.length → Q (acc ++ os.filterMap id) ⟨sl, dr'⟩) → compL vs tg fc fe ds ⟨sl, dr⟩ acc Q
  | [], acc, dr, _, _, q => by
    have := q [] dr rfl (fun i d o e => by simp at e) (by simp)
    simpa [compL] using this
  | d :: ds, acc, dr, hz, h, q => by
    have hz' : acc.length + (ds.length + 1) ≤ sizeLine := hz
    have hm : n * (d :: ds).length = n * ds.length + n := by rw [List.length_cons, Nat.mul_add, Nat.mul_one]
    have key := h d (List.mem_cons_self ..) dr (by rw [hm]; omega) (fun o ρ' => match o with | some x => acc.length < sizeLine ∧ compL vs tg fc fe ds ρ' (acc ++ [x]) Q | none => compL vs tg fc fe ds ρ' acc Q)
    refine key fun o dr'' hd hP => ?_
    have rest : ∀ acc', acc'.length ≤ acc.length + 1 → (∀ os : List (Option D), acc' ++ os.filterMap id = acc ++ (o :: os).filterMap id) → compL vs tg fc fe ds ⟨sl, dr''⟩ acc' Q := fun acc' hl ha =>
      comp_dr n Pf ds acc' dr'' (by omega) (fun d' hd' dr' hle => h d' (List.mem_cons_of_mem _ hd') dr' (by rw [hm]; omega)) (fun os dr' h1 h2 h3 => by
        rw [ha os]
        refine q (o :: os) dr' (by simp [h1]) (fun i d' o' e1 e2 => ?_) (by rw [hm]; omega)
        cases i with
        | zero => simp at e1 e2; subst e1; subst e2; exact hP
        | succ i => exact h2 i d' o' (by simpa using e1) (by simpa using e2))
    cases o with
    | none => exact rest acc (by omega) fun os => by simp
    | some x => exact ⟨by omega, rest (acc ++ [x]) (by simp) fun os => by simp⟩
end PL
/-! PL22: the pool is made. -/
namespace PL
open PySem PySem.Spec PyProof.Rows L2
def nm__law_numbers : List Str := ["cell", "many", "rows", "left", "k", "mixed"]
def ir__law_numbers : IS :=
(.seq (.asg (.nm 2) (.lst .anil))
  (.seq (.asg (.nm 3) (.var 0))
  (.seq (.fr (.nm 4) (.itR1 (.bor 1))
 (.seq (.ifs (.and (.cmp .ge (.bor 0) (.bin .pow (.cst (.int 10)) (.cst (.int 18)))) (.cmp .gt (.bor 3) (.cst (.int 0))))
 (.seq (.app 2 (.bin .mod (.blt .int (.acons (.bor 3) .anil)) (.cst (.int 4099))))
  (.seq (.asg (.nm 3) (.bin .fdiv (.bor 3) (.cst (.int 4099))))
  .skip))
 (.seq (.asg (.nm 5) (.bin .mod (.blt .int (.acons (.bin .add (.bin .mul (.bor 0) (.cst (.int 69621))) (.bin .mul (.bin .add (.bor 4) (.cst (.int 1))) (.cst (.int 48271)))) .anil)) (.cst (.int 2147483647))))
  (.seq (.asg (.nm 5) (.bin .mod (.blt .int (.acons (.bin .add (.bin .add (.bin .mul (.bor 5) (.bor 5)) (.bin .mul (.bor 5) (.cst (.int 16807)))) (.bin .mul (.bor 4) (.cst (.int 7919)))) .anil)) (.cst (.int 2147483629))))
  (.seq (.asg (.nm 5) (.bin .mod (.blt .int (.acons (.bin .add (.bin .add (.bin .mul (.bor 5) (.bor 5)) (.bor 0)) (.bin .mul (.cst (.int 17)) (.bor 4))) .anil)) (.cst (.int 2147483587))))
  (.seq (.app 2 (.bin .mod (.bin .fdiv (.bor 5) (.cst (.int 5))) (.cst (.int 4099))))
  .skip)))))
  .skip))
  (.seq (.ret (.var 2))
  .skip))))
def fs__law_numbers : List (Nat × Str) := []
def cs__law_numbers : List (Str × D) := []
def sp_numbers : Spec := fun ds dr Q _ => ∃ (c : Int) (n : Nat), ds = [.int c, .int (n : Nat)] ∧ n ≤ 1000 ∧ ∀ is : List Int, is.length = n → Q (.val (.lst (is.map .int))) dr
theorem rng_get {lo hi : Int} {i : Nat} {d : D} (h : (rngL lo hi)[i]? = some d) : d = .int (lo + i) ∧ i < (hi - lo).toNat := by
  unfold rngL at h
  rw [List.getElem?_map] at h
  obtain ⟨j, h1, rfl⟩ := Option.map_eq_some_iff.mp h
  obtain ⟨h2, h3⟩ := List.getElem?_eq_some_iff.mp h1
  rw [List.getElem_range] at h3
  subst h3
  exact ⟨rfl, by simpa using h2⟩
theorem rng_len {lo hi : Int} : (rngL lo hi).length = (hi - lo).toNat := by unfold rngL; simp
theorem numbers_wp (C : PC) : ∀ ds dr Q, sp_numbers ds dr Q (fun _ _ => False) → wpF C nm__law_numbers.length ir__law_numbers ds dr Q := by
  rintro ds dr Q ⟨c, n, rfl, hn, hq⟩
  show wpF C 6 ir__law_numbers _ dr Q
  conv => whnf
  refine ⟨by decide, ?_⟩
  conv => whnf
  refine ⟨_, rfl, ⟨by omega, by omega⟩, ?_⟩
  refine for_inv (fun i ρ => ∃ (is : List Int) (left : Int) (a b : SV), ρ = ⟨[.val (.int c), .val (.int n), .own (is.map .int), .val (.int left), a, b], dr⟩ ∧ is.length = i) _ 0 ⟨[], c, .no, .no, rfl, rfl⟩ ?_ ?_
  · rintro i d ρ hd ⟨is, left, a, b, rfl, hl⟩ Nx hN
    obtain ⟨rfl, hi⟩ := rng_get hd
    conv => whnf
    refine ⟨⟨by decide, by decide, by decide⟩, ?_⟩
    conv => whnf
    refine ⟨_, rfl, ?_⟩
    conv => whnf
    have sz := sizeLine_eq
    have big : ∀ x : Int, 0 ≤ x → x < 2147483647 → -(2 ^ 64 : Int) < x ∧ x < 2 ^ 64 := fun x h0 h1 => by
      have : (2 : Int) ^ 64 = 18446744073709551616 := by decide
      omega
    have fin : ∀ (x l : Int) (a b : SV) (ρ' : PEnv), ρ' = ⟨[.val (.int c), .val (.int n), .own (is.map .int ++ [.int x]), .val (.int l), a, b], dr⟩ → Nx ρ' := fun x l a b ρ' e =>
      hN _ ⟨is ++ [x], l, a, b, by rw [e]; simp, by simp [hl]⟩
    have other : ∀ (ρ' : PEnv) (E' : PEnds), E'.nx = Nx → ρ' = ⟨[.val (.int c), .val (.int n), .own (is.map .int), .val (.int left), .val (.int (0 + i)), b], dr⟩ → 
      wpS C (.seq (.asg (.nm 5) (.bin .mod (.blt .int (.acons (.bin .add (.bin .mul (.bor 0) (.cst (.int 69621))) (.bin .mul (.bin .add (.bor 4) (.cst (.int 1))) (.cst (.int 48271)))) .anil)) (.cst (.int 2147483647))))
  (.seq (.asg (.nm 5) (.bin .mod (.blt .int (.acons (.bin .add (.bin .add (.bin .mul (.bor 5) (.bor 5)) (.bin .mul (.bor 5) (.cst (.int 16807)))) (.bin .mul (.bor 4) (.cst (.int 7919)))) .anil)) (.cst (.int 2147483629))))
  (.seq (.asg (.nm 5) (.bin .mod (.blt .int (.acons (.bin .add (.bin .add (.bin .mul (.bor 5) (.bor 5)) (.bor 0)) (.bin .mul (.cst (.int 17)) (.bor 4))) .anil)) (.cst (.int 2147483587))))
  (.seq (.app 2 (.bin .mod (.bin .fdiv (.bor 5) (.cst (.int 5))) (.cst (.int 4099))))
  .skip)))) ρ' E' := fun ρ' E' eN e => by
      subst e
      conv => whnf
      refine ⟨.inr ⟨by decide, by decide⟩, ?_⟩
      conv => whnf
      refine ⟨.inr ⟨by decide, by decide⟩, ?_⟩
      conv => whnf
      refine ⟨by decide, ?_⟩
      conv => whnf
      refine ⟨.inl (big _ (Int.fmod_nonneg_of_pos _ (by decide)) (Int.lt_of_lt_of_le (Int.fmod_lt_of_pos _ (by decide)) (by decide))), ?_⟩
      conv => whnf
      refine ⟨.inr ⟨by decide, by decide⟩, ?_⟩
      conv => whnf
      refine ⟨.inr ⟨by decide, by decide⟩, ?_⟩
      conv => whnf
      refine ⟨by decide, ?_⟩
      conv => whnf
      refine ⟨.inl (big _ (Int.fmod_nonneg_of_pos _ (by decide)) (Int.lt_of_lt_of_le (Int.fmod_lt_of_pos _ (by decide)) (by decide))), ?_⟩
      conv => whnf
      refine ⟨.inl ⟨by decide, by decide⟩, ?_⟩
      conv => whnf
      refine ⟨by decide, ?_⟩
      conv => whnf
      refine ⟨rfl, ?_⟩
      conv => whnf
      refine ⟨⟨by decide, by decide⟩, ?_⟩
      conv => whnf
      refine ⟨by decide, ?_⟩
      conv => whnf
      refine ⟨_, rfl, by rw [List.length_map]; omega, ?_⟩
      show E'.nx _
      rw [eN]
      exact fin _ _ _ _ _ rfl
    refine ⟨fun h1 => ?_, fun h1 => ?_⟩
    · conv => whnf
      refine ⟨_, rfl, ?_⟩
      conv => whnf
      refine ⟨fun h2 => ?_, fun h2 => ?_⟩
      · conv => whnf
        refine ⟨rfl, ?_⟩
        conv => whnf
        refine ⟨by decide, ?_⟩
        conv => whnf
        refine ⟨_, rfl, by rw [List.length_map]; omega, ?_⟩
        conv => whnf
        refine ⟨⟨by decide, by decide⟩, ?_⟩
        exact fin _ _ _ _ _ rfl
      · exact other _ _ rfl rfl
    · conv => whnf
      refine ⟨_, rfl, ?_⟩
      conv => whnf
      refine ⟨fun h2 => (by cases h2), fun h2 => ?_⟩
      exact other _ _ rfl rfl
  · rintro ρ ⟨is, left, a, b, rfl, hl⟩
    conv => whnf
    exact hq is (by rw [hl, rng_len]; simp)

theorem ints_map : ∀ is : List Int, ints? (is.map D.int) = some is
  | [] => rfl
  | i :: is => by simp [ints?, ints_map is]
/-! ### _law_pool -/
theorem sq_mono {K : PySem.W.Frag} {H H' : Hp} {a : Addr} {xs : List V} (h : SqL K H a xs) (s : Same H H') : SqL K H' a xs := h.imp (fun z => Rd.mono z s) id
def spPool (K : PySem.W.Frag) : Sp := fun vs H Q _ => ∃ a ns, vs = [.ref a] ∧ SqL K H a (List.map V.int ns) ∧ ∀ p r c (rows : List Int) H', Same H H' → c ≠ p → c ≠ r → (rows ≠ [] ∧ rows.length ≤ 1000000) →
  H' p = some (.lst [.ref r, .ref c]) → H' r = some (.lst (rows.map V.int)) → H' c = some (.lst [.int 0]) → Q (.ref p) H'
section
variable {P : Program} {w : World} {K : PySem.W.Frag} {mg : Str → Option Value} {base : Heap}
theorem pool_ok {st : Stmt} {f : Addr} {fd : FuncData} {p1 p2 p3 p4 p5 p6 p7 p8 p9 p10 p11 p12 p13 p14 p15 p16 p17 p18 p19 p20 p21 p22 p23 p24 p25 p26 p27 p28 p29 p30 p31 p32 p33 p34 p35 p36 : Pos} {c1 c2 c3 c4 c5 j i1 i2 : Nat}
    (F : C8.Def K mg "_law_pool" st f fd) (b : Binds K fd ["script"] []) (S : FnScope ["script", "rows", "k"] ["script"] (C8.fnScope st)) (hb : BltOk mg)
    (hc : C8.Cal P w K mg base i1 "_law_cell" (spCell K) []) (hi1 : i1 ≤ j) (hn : C8.Cal P w K mg base i2 "_law_numbers" (lift K w sp_numbers) []) (hi2 : i2 ≤ j)
    (ck : ((⟨["script", "rows", "k"], C8.fnScope st, none, [], []⟩ : CK).var 0 "script" && (⟨["script", "rows", "k"], C8.fnScope st, none, [], []⟩ : CK).var 1 "rows" && (⟨["script", "rows", "k"], C8.fnScope st, none, [], []⟩ : CK).var 2 "k"
      && (⟨["script", "rows", "k"], C8.fnScope st, none, [], []⟩ : CK).sto 1 "rows" && (⟨["script", "rows", "k"], C8.fnScope st, none, [], []⟩ : CK).sto 2 "k" && (["len", "min", "max", "range", "_law_cell", "_law_numbers"] : List Str).all (fun x => (⟨["script", "rows", "k"], C8.fnScope st, none, [], []⟩ : CK).gl x)) = true)
    (hbody : C8.fnBody st = [.Assign [.Name "rows" p1] (.List [] p2) p3,
      .For (.Name "k" p4) (.Call (.Name "range" p5) [.Call (.Name "min" p6) [.Constant (.int 6) c1 p7, .Call (.Name "max" p8) [.Constant (.int 1) c2 p9, .Call (.Name "len" p10) [.Name "script" p11] [] p12] [] p13] [] p14] [] p15)
        [.Assign [.Name "rows" p16] (.BinOp (.Name "rows" p17) .Add (.Call (.Name "_law_numbers" p18) [.BinOp (.Call (.Name "_law_cell" p19) [.Name "script" p20, .Name "k" p21] [] p22) .Add (.BinOp (.Constant (.int 11) c3 p23) .Mult (.Name "k" p24) p25) p26, .Constant (.int 24) c4 p27] [] p28) p29) p30] [] p31,
      .Return (some (.List [.Name "rows" p32, .List [.Constant (.int 0) c5 p33] p34] p35)) p36]) :
    C8.Cal P w K mg base (j + 1) "_law_pool" (spPool K) [] := by
  refine C8.cal0 F b .nil S (fun vs H Q E ⟨a, ns, e, _⟩ => by rw [e]; rfl) fun cdv A outer s H vs Q E hr ⟨a, ns, e, hq, fin⟩ => ?_
  subst e
  simp only [Bool.and_eq_true, List.all_eq_true] at ck
  obtain ⟨⟨⟨⟨⟨k1, k2⟩, k3⟩, k4⟩, k5⟩, k6⟩ := ck
  have h := ck_entry (P := P) (K := K) (w := w) (base := base) (x := "_law_pool") (cs := []) (fs := []) (sps := fun _ _ _ _ _ => False) (P' := none) S hb (fun x d h => by simp at h) (fun f x h => by simp at h) (outer := outer) (H := H) (E := E) hr
  have v0 : ∀ p, PE _ (.Name "script" p) (tVar 0) := fun p => h.var k1
  have v1 : ∀ p, PE _ (.Name "rows" p) (tVar 1) := fun p => h.var k2
  have v2 : ∀ p, PE _ (.Name "k" p) (tVar 2) := fun p => h.var k3
  obtain ⟨a1, a2, a3⟩ := h.sto k4
  obtain ⟨b1, b2, b3⟩ := h.sto k5
  have g : ∀ x ∈ (["len", "min", "max", "range", "_law_cell", "_law_numbers"] : List Str), Gl _ x := fun x hx => h.gl (k6 x hx)
  rw [hbody]
  refine ⟨_, pss_cons (ps_set h.nd a1 a2 (pe_lst pa_nil) (sw_no rfl) a3)
    (pss_cons (ps_for PassesOwn.never rfl (pi_range1 (g _ (by decide +kernel)) (hb _ (by decide +kernel)) (pa_cons (pe_callB (id := "min") (call_min2 rfl) (g _ (by decide +kernel)) (hb _ (by decide +kernel)) (by decide +kernel) (pa_cons pe_int (pa_cons
        (pe_callB (id := "max") (call_max2 rfl) (g _ (by decide +kernel)) (hb _ (by decide +kernel)) (by decide +kernel) (pa_cons pe_int (pa_cons (pe_callB (id := "len") call_len (g _ (by decide +kernel)) (hb _ (by decide +kernel)) boot_len (pa_cons (v0 p11) pa_nil) (by decide +kernel) (by decide +kernel) (star1 rfl) rfl) pa_nil (star1 rfl)) (star1 rfl))
          (by decide +kernel) (by decide +kernel) (star1 rfl) rfl) pa_nil (star1 rfl)) (star1 rfl)) (by decide +kernel) (by decide +kernel) (star1 rfl) rfl) pa_nil (star1 rfl)) (star1 rfl)) (pg_name h.nd b1 b2 b3)
      (pss_one (ps_set h.nd a1 a2 (pe_op op_cat (v1 p17) (C8.pe_c hn hr hi2 (g _ (by decide +kernel)) (pa_cons (pe_op op_add (C8.pe_c hc hr hi1 (g _ (by decide +kernel)) (pa_cons (v0 p20) (pa_cons (v2 p21) pa_nil (star1 rfl)) (star1 rfl)) (by decide +kernel) (star1 rfl) rfl) (pe_op op_mul pe_int (v2 p24)))
        (pa_cons pe_int pa_nil (star1 rfl)) (star1 rfl)) (by decide +kernel) (star1 rfl) rfl)) (sw_no rfl) a3)) (set_ok rfl))
    (pss_one (ps_ret (pe_lst (pa_cons (v1 p32) (pa_cons (pe_lst (pa_cons pe_int pa_nil (star1 rfl))) pa_nil (star1 rfl)) (star1 rfl)))))), ?_⟩
  -- rows = []
  refine ⟨by show 0 ≤ sizeLine; decide, fun r0 hr0 => ?_⟩
  show tSeq _ _ _ (L2.start ["script", "rows", "k"] [V.ref a] |>.set 1 (some (.ref r0))) (upd H r0 (.lst []))
  have hq0 := sq_mono hq (Same.upd_new (o := .lst []) hr0)
  -- how many rows
  obtain ⟨m, hm⟩ : ∃ m : Int, (if (if ((List.map V.int ns).length : Int) > 1 then ((List.map V.int ns).length : Int) else 1) < 6 then (if ((List.map V.int ns).length : Int) > 1 then ((List.map V.int ns).length : Int) else 1) else 6) = m := ⟨_, rfl⟩
  have hm1 : 1 ≤ m ∧ m ≤ 6 := by
    rw [← hm]
    split <;> split <;> omega
  refine ⟨.ref a, rfl, .ref a, _, rfl, .inl ⟨_, hq0, rfl⟩, 1, _, rfl, 6, _, rfl, m, by rw [hm], by omega, by omega, ?_⟩
  refine for_range (fun i σ H' => ∃ (r : Addr) (rows : List Int) (z : Option V), σ = [some (.ref a), some (.ref r), z] ∧ H' r = some (.lst (rows.map V.int)) ∧ rows.length = 24 * i ∧ Same H H') ⟨r0, [], none, rfl, upd_same, rfl, Same.upd_new hr0⟩ ?_ ?_
  · rintro i σ H' hi ⟨r, rows, z, rfl, h1, h2, h3⟩
    have hqa := sq_mono hq h3
    refine ⟨.ref r, rfl, .ref a, rfl, .int (0 + (i : Nat)), rfl, a, ns, i, by simp, hqa, fun cell => ?_⟩
    refine ⟨.int (0 + (i : Nat)), rfl, 11, _, rfl, rfl, .inl ⟨by decide, by decide⟩, cell, _, rfl, rfl, ?_⟩
    refine ⟨none, fun _ => none, [.int _, .int 24], 0, fun r _ => ∃ is : List Int, r = .val (.lst (is.map .int)) ∧ is.length = 24, fun _ _ e => (by cases e), fun _ _ _ e => (by cases e), .cons (.int _) (.cons (.int _) .nil), ⟨_, 24, rfl, by decide, fun is his => ⟨is, rfl, his⟩⟩, ?_⟩
    rintro r2 dr' v F' H2 cp ⟨is, rfl, his⟩
    have s2 : Same H' H2 := fun b o e => cp.heap b o e fun ⟨_, _, z⟩ => by cases z
    have rv : R ⟨K, w, none⟩ F' v (.lst (is.map .int)) := cp.res
    cases rv with
    | @lst a2 vs _ e1 e2 =>
      have ev := ints_vs e2 (ints_map is)
      subst ev
      refine ⟨r, a2, rows.map V.int, is.map V.int, rfl, rfl, s2 _ _ h1, cp.ins _ _ e1, ?_, fun p hp => ?_⟩
      · have := sizeLine_eq
        rw [List.length_map, List.length_map, h2, his]; omega
      · refine ⟨p, rows ++ is, _, rfl, by rw [upd_same, List.map_append], by rw [List.length_append, h2, his]; omega, fun b o e => ?_⟩
        have e3 := s2 b o (h3 b o e)
        rw [upd_ne (ne_of_none e3 hp)]; exact e3
  · rintro σ H' ⟨r, rows, z, rfl, h1, h2, h3⟩
    refine ⟨.ref r, rfl, by show 1 ≤ sizeLine; decide, fun c hc0 => ⟨by show 2 ≤ sizeLine; decide, fun p hp0 => ?_⟩⟩
    have rc : c ≠ r := fun z => by subst z; rw [h1] at hc0; cases hc0
    have hcp : c ≠ p := fun z => by subst z; rw [upd_same] at hp0; cases hp0
    have hrp : r ≠ p := fun z => by subst z; rw [upd_ne rc.symm, h1] at hp0; cases hp0
    refine fin p r c rows _ (fun b o e => ?_) hcp rc ⟨fun z => ?_, ?_⟩ upd_same ((upd_ne hrp).trans ((upd_ne rc.symm).trans h1)) ((upd_ne hcp).trans upd_same)
    · have e1 := h3 b o e
      have e2 : upd H' c (.lst [.int 0]) b = some o := by rw [upd_ne (ne_of_none e1 hc0)]; exact e1
      rw [upd_ne (ne_of_none e2 hp0)]; exact e2
    · rw [z] at h2; simp at h2; omega
    · rw [h2]; omega
end
end PL
/-! PL23: the law itself. -/
namespace PL
open PySem PySem.Spec PyProof.Rows L2
def spLaw (K : PySem.W.Frag) : Sp := fun vs H Q _ => ∃ a ns, vs = [.ref a] ∧ SqL K H a (List.map V.int ns) ∧ ∀ H', Q (.bl true) H'
/-- the slots behind the pool's statement -/
def lawEnv (n : Nat) : PEnv := ⟨[SV.no, SV.val .pool] ++ List.replicate (n - 2) SV.no, 0⟩
section
variable {P : Program} {w : World} {K : PySem.W.Frag} {mg : Str → Option Value} {base : Heap}
theorem law_ok {st : Stmt} {f : Addr} {fd : FuncData} {N : List Str} {rest : List Stmt} {body : IS} {fs : List (Nat × Str)} {cs : List (Str × D)} {sps : Nat → Spec} {p1 p2 p3 p4 p5 : Pos} {i j : Nat}
    (F : C8.Fun K "law" "law" st f fd) (S : FnScope N ["script"] (C8.fnScope st)) (hN : 2 ≤ N.length) (hb : BltOk mg) (hcs : CsOk K mg cs) (hf : FnsOk P w K mg base j fs sps)
    (hp : C8.Cal P w K mg base i "_law_pool" (spPool K) []) (hij : i ≤ j)
    (hbody : C8.fnBody st = .Assign [.Name "pool" p1] (.Call (.Name "_law_pool" p2) [.Name "script" p3] [] p4) p5 :: rest)
    (ck2 : ((⟨N, C8.fnScope st, none, fs, cs⟩ : CK).var 0 "script" && (⟨N, C8.fnScope st, none, fs, cs⟩ : CK).sto 1 "pool" && (⟨N, C8.fnScope st, none, fs, cs⟩ : CK).gl "_law_pool") = true)
    (ck : okB body ⟨N, C8.fnScope st, none, fs, cs⟩ rest = true)
    (hw : wpS ⟨sps, fun _ _ => False⟩ body (lawEnv N.length) ⟨fun _ => False, fun r _ => r = .val (.bl true), fun _ => False, fun _ => False⟩) :
    FnOk P w K mg base C8.CX0 (j + 1) f fd ["script"] (spLaw K) := by
  refine C8.fn0 F S (fun vs H Q E ⟨a, ns, e, _⟩ => by rw [e]; rfl) fun cdv A outer s H vs Q E hr ⟨a, ns, e, hq, fin⟩ => ?_
  subst e
  simp only [Bool.and_eq_true] at ck2
  have h := fun P' => ck_entry (P := P) (K := K) (w := w) (base := base) (x := "law") (cs := cs) (fs := fs) (sps := sps) (P' := P') S hb hcs hf (outer := outer) (H := H) (E := E) hr
  obtain ⟨a1, a2, a3⟩ := (h none).sto ck2.1.2
  have hrest : PSs _ rest (fun D σ H => ∃ P', tS ⟨sps, fun _ _ => False⟩ ⟨K, w, P'⟩ body D σ H) := ⟨fun pins s σ H D I ⟨P', q⟩ => (snd_B body (h P') ck).run pins s σ H D I q⟩
  rw [hbody]
  refine ⟨_, pss_cons (ps_set (h none).nd a1 a2 (C8.pe_c hp hr hij ((h none).gl ck2.2) (pa_cons ((h none).var ck2.1.1) pa_nil (star1 rfl)) (by decide +kernel) (star1 rfl) rfl) (sw_no rfl) a3) hrest, ?_⟩
  refine ⟨.ref a, ?_, a, ns, rfl, hq, fun p r c rows H' sH hcp hcr hrows e1 e2 e3 => ?_⟩
  · rw [start_get]; rfl
  refine ⟨some (p, r, c), lawEnv N.length, fun _ => none, fun _ => none, H', fun _ => none, _, ?_, ?_, hw, ?_⟩
  · have gt : ∀ i, (lawEnv N.length).get i = if i = 1 then .val .pool else .no := fun i => by
      unfold PEnv.get lawEnv
      rw [List.getD_eq_getElem?_getD]
      match i with
      | 0 => rfl
      | 1 => rfl
      | i + 2 =>
        rw [if_neg (by omega)]
        show ((List.replicate (N.length - 2) SV.no)[i]?).getD .no = _
        rw [List.getElem?_replicate]
        split <;> rfl
    refine ⟨?_, fun _ _ e => (by cases e), fun i => ?_, fun i j b ⟨x, _⟩ => ?_, fun p' r' c' e => ?_⟩
    · unfold lawEnv L2.start
      simp only [List.length_append, List.length_cons, List.length_nil, List.length_replicate, List.length_set, List.length_map]
      omega
    · rw [gt]
      by_cases z : i = 1
      · subst z
        rw [if_pos rfl]
        refine ⟨.ref p, ?_, .pool rfl⟩
        rw [List.getElem?_set_self]
        unfold L2.start
        simp only [List.length_append, List.length_map, List.length_replicate, List.length_cons, List.length_nil]
        omega
      · rw [if_neg z]; trivial
    · rw [gt] at x
      split at x <;> cases x
    · cases e
      exact ⟨⟨rfl, rfl, rfl⟩, ⟨hcp, hcr⟩, e1, ⟨rows, hrows, e2⟩, 0, Int.le_refl _, Int.natCast_nonneg _, e3⟩
  · refine ⟨fun _ _ e => e, .refl, fun _ h => h, fun _ _ => rfl, fun i b ⟨x, _⟩ => ?_, fun _ _ e => e⟩
    exfalso
    have gt : (lawEnv N.length).get i = .no ∨ (lawEnv N.length).get i = .val .pool := by
      unfold PEnv.get lawEnv
      rw [List.getD_eq_getElem?_getD]
      match i with
      | 0 => exact .inl rfl
      | 1 => exact .inr rfl
      | i + 2 =>
        left
        show ((List.replicate (N.length - 2) SV.no)[i]?).getD .no = _
        rw [List.getElem?_replicate]
        split <;> rfl
    rcases gt with g | g <;> rw [g] at x <;> cases x
  · refine ⟨fun _ _ _ _ _ _ q => q.elim, fun _ _ _ _ _ _ q => q.elim, fun _ _ _ _ _ _ q => q.elim, fun r dr v F1 H1 cp q => ?_⟩
    subst q
    have z : R _ F1 v (.bl true) := cp.res
    cases z
    exact fin _
end
end PL
/-! PL24: shared defs of the laws: their contracts. -/
namespace PL
open PySem PySem.Spec PyProof.Rows L2
/-- tuples of whole numbers -/
def dI (xs : List Int) : D := .tup (xs.map .int)
def dN (xs : List Nat) : D := .tup (xs.map fun n => D.int (n : Nat))
def lN (xs : List Nat) : D := .lst (xs.map fun n => D.int (n : Nat))
theorem mem_N {xs : List Nat} {d : D} (h : d ∈ xs.map fun n => D.int (n : Nat)) : ∃ n ∈ xs, d = .int (n : Nat) := by
  obtain ⟨n, h1, rfl⟩ := List.mem_map.mp h
  exact ⟨n, h1, rfl⟩
theorem ints_mapf {α : Type} (f : α → Int) : ∀ xs : List α, ints? (xs.map fun x => D.int (f x)) = some (xs.map f)
  | [] => rfl
  | x :: xs => by simp [ints?, ints_mapf f xs]
/-! ### least_of(ranks, menu) -/
def leastOf (rk : List Int) (mn : List Nat) : List Nat := mn.filter fun w => decide (rk.getD w 0 = minL (mn.map fun w => rk.getD w 0))
def sp_least : Spec := fun ds dr Q _ => ∃ (rk : List Int) (mn : List Nat), ds = [dI rk, dN mn] ∧ mn ≠ [] ∧ (∀ w ∈ mn, w < rk.length) ∧ mn.length ≤ 1000 ∧ Q (.val (dN (leastOf rk mn))) dr
def nm_least_of : List Str := ["ranks", "menu", "least", "thing"]
def ir_least_of : IS :=
(.seq (.asg (.nm 2) (.blt .min (.acons (.comp [3] (.nm 3) (.itSeq (.bor 1)) (.cst (.bl true)) (.idx (.bor 0) (.bor 3))) .anil)))
  (.seq (.ret (.blt .tuple (.acons (.comp [3] (.nm 3) (.itSeq (.bor 1)) (.cmp .eq (.idx (.bor 0) (.bor 3)) (.bor 2)) (.var 3)) .anil)))
  .skip))
def fs_least_of : List (Nat × Str) := []
def cs_least_of : List (Str × D) := []
theorem at_dI {rk : List Int} {w : Nat} (h : w < rk.length) : atI (rk.map D.int) ((w : Nat) : Int) = some (.int (rk.getD w 0)) := by
  rw [atI_nat (v := D.int rk[w]) (by simp [h])]
  simp [List.getD_eq_getElem?_getD, h]
theorem least_wp (C : PC) : ∀ ds dr Q, sp_least ds dr Q (fun _ _ => False) → wpF C nm_least_of.length ir_least_of ds dr Q := by
  rintro ds dr Q ⟨rk, mn, rfl, hne, hlt, hz, hq⟩
  show wpF C 4 ir_least_of _ dr Q
  have sz := sizeLine_eq
  conv => whnf
  refine ⟨rfl, ?_⟩
  conv => whnf
  refine ⟨_, rfl, ?_⟩
  refine comp_mp (fun w => .int (rk.getD w 0)) mn (by omega) (fun w hw K hK => ?_) ?_
  · conv => whnf
    refine ⟨_, rfl, fun _ => ?_, fun h => (by cases h)⟩
    conv => whnf
    exact ⟨_, at_dI (hlt w hw), hK⟩
  · conv => whnf
    refine ⟨_, ints_mapf _ mn, by simpa using hne, ?_⟩
    conv => whnf
    refine ⟨rfl, ?_⟩
    conv => whnf
    refine ⟨_, rfl, ?_⟩
    refine comp_fm (fun w => decide (rk.getD w 0 = minL (mn.map fun w => rk.getD w 0))) (fun w => .int (w : Nat)) mn [] (by simp; omega) (fun w hw K k1 k2 => ?_) ?_
    · conv => whnf
      refine ⟨_, at_dI (hlt w hw), ?_⟩
      conv => whnf
      exact ⟨_, rfl, k1, k2⟩
    · exact hq
end PL
/-! PL25: plain laws of lists: distinct items, places in order. -/
namespace PL
open PySem PySem.Spec PyProof.Rows L2
section
variable {α : Type} [DecidableEq α]
/-- the distinct items, in the order of their first places -/
def ded : List α → List α → List α
  | ks, [] => ks
  | ks, a :: xs => ded (if a ∈ ks then ks else ks ++ [a]) xs
theorem mem_ded {a : α} : ∀ {xs ks : List α}, a ∈ ded ks xs ↔ a ∈ ks ∨ a ∈ xs
  | [], ks => by simp [ded]
  | b :: xs, ks => by
    rw [ded, mem_ded]
    by_cases h : b ∈ ks
    · rw [if_pos h, List.mem_cons]
      constructor
      · rintro (h | h)
        · exact .inl h
        · exact .inr (.inr h)
      · rintro (h | rfl | h)
        · exact .inl h
        · exact .inl (by assumption)
        · exact .inr h
    · rw [if_neg h, List.mem_append, List.mem_singleton, List.mem_cons, or_assoc]
theorem nodup_ded : ∀ {xs ks : List α}, ks.Nodup → (ded ks xs).Nodup
  | [], ks, h => h
  | b :: xs, ks, h => by
    rw [ded]
    refine nodup_ded ?_
    by_cases hb : b ∈ ks
    · rw [if_pos hb]; exact h
    · rw [if_neg hb, List.nodup_append]
      exact ⟨h, by simp, fun x hx y hy => by rw [List.mem_singleton.mp hy]; rintro rfl; exact hb hx⟩
theorem ded_len : ∀ {xs ks : List α}, (ded ks xs).length ≤ ks.length + xs.length
  | [], ks => by simp [ded]
  | b :: xs, ks => by
    rw [ded]
    have := @ded_len xs (if b ∈ ks then ks else ks ++ [b])
    by_cases hb : b ∈ ks
    · rw [if_pos hb] at this ⊢; simp; omega
    · rw [if_neg hb] at this ⊢; simp at this ⊢; omega
/-- a strict total order -/
structure Lin (lt : α → α → Bool) : Prop where
  ir : ∀ a, lt a a = false
  tr : ∀ a b c, lt a b = true → lt b c = true → lt a c = true
  tot : ∀ a b, a ≠ b → lt a b = true ∨ lt b a = true
theorem Lin.asym {lt : α → α → Bool} (L : Lin lt) {a b : α} (h : lt a b = true) : lt b a = false := by
  cases e : lt b a with
  | false => rfl
  | true => have := L.tr _ _ _ h e; rw [L.ir] at this; cases this
/-- the number of items below -/
def below (lt : α → α → Bool) (xs : List α) (p : α) : Nat := (xs.filter fun q => lt q p).length
theorem below_perm {lt : α → α → Bool} {xs ys : List α} (h : xs.Perm ys) (p : α) : below lt xs p = below lt ys p := (h.filter _).length_eq
theorem idx_below {lt : α → α → Bool} (L : Lin lt) : ∀ {xs : List α} {p : α}, xs.Pairwise (fun a b => lt a b = true) → p ∈ xs → xs.findIdx? (fun z => decide (z = p)) = some (below lt xs p)
  | [], p, _, h => by simp at h
  | a :: xs, p, hs, h => by
    obtain ⟨h1, h2⟩ := List.pairwise_cons.mp hs
    rw [List.findIdx?_cons]
    by_cases e : a = p
    · subst e
      rw [decide_eq_true rfl, if_pos rfl]
      unfold below
      rw [List.filter_cons, if_neg (by rw [L.ir]; simp)]
      have : xs.filter (fun q => lt q a) = [] := List.filter_eq_nil_iff.mpr fun q hq => by rw [L.asym (h1 q hq)]; simp
      rw [this]; rfl
    · rw [decide_eq_false e, if_neg (by simp)]
      have hp : p ∈ xs := (List.mem_cons.mp h).resolve_left fun z => e z.symm
      rw [idx_below L h2 hp]
      unfold below
      rw [List.filter_cons, if_pos (h1 p hp)]
      rfl
theorem below_lt {lt : α → α → Bool} (L : Lin lt) {xs : List α} (nd : xs.Nodup) {p q : α} (hp : p ∈ xs) (hq : q ∈ xs) : below lt xs p < below lt xs q ↔ lt p q = true := by
  have key : ∀ {p q : α}, p ∈ xs → lt p q = true → below lt xs p < below lt xs q := fun {p q} hp h => by
    have sub : (xs.filter fun z => lt z p) ⊆ (xs.filter fun z => lt z q).erase p := fun z hz => by
      obtain ⟨z1, z2⟩ := List.mem_filter.mp hz
      have ne : z ≠ p := fun e => by rw [e, L.ir] at z2; cases z2
      exact (List.mem_erase_of_ne ne).mpr (List.mem_filter.mpr ⟨z1, L.tr _ _ _ z2 h⟩)
    have mem : p ∈ xs.filter fun z => lt z q := List.mem_filter.mpr ⟨hp, h⟩
    have l1 := List.Nodup.length_le_of_subset (nd.sublist List.filter_sublist) sub
    have l2 := List.length_erase_of_mem mem
    have l3 : 0 < (xs.filter fun z => lt z q).length := List.length_pos_of_mem mem
    unfold below
    omega
  constructor
  · intro h
    by_cases e : p = q
    · subst e; omega
    · rcases L.tot p q e with z | z
      · exact z
      · have := key hq z; omega
  · exact key hp
end
theorem linI : Lin (fun a b : Int => decide (a < b)) := ⟨fun a => by simp, fun a b c h1 h2 => by simp at *; omega, fun a b h => by simp; omega⟩
def ltPP (p q : Int × Int) : Bool := decide (p.1 < q.1 ∨ (p.1 = q.1 ∧ p.2 < q.2))
theorem linP : Lin ltPP := by
  refine ⟨fun a => ?_, fun a b c h1 h2 => ?_, fun a b h => ?_⟩
  · simp [ltPP]
  · simp only [ltPP, decide_eq_true_eq] at *; omega
  · simp only [ltPP, decide_eq_true_eq]
    have : a.1 ≠ b.1 ∨ a.2 ≠ b.2 := by
      by_cases e : a.1 = b.1
      · right; intro e2; exact h (Prod.ext e e2)
      · exact .inl e
    omega
/-! ### sorted of such things -/
/-- things told by f are put in order by lt -/
theorem sortD_map {α : Type} [DecidableEq α] {f : α → D} {lt : α → α → Bool} (L : Lin lt) (hle : ∀ a b, leB (f a) (f b) = !lt b a) {xs : List α} (nd : xs.Nodup) :
    ∃ ys : List α, sortD (xs.map f) = ys.map f ∧ ys.Perm xs ∧ ys.Pairwise (fun a b => lt a b = true) := by
  refine ⟨xs.mergeSort fun a b => !lt b a, ?_, List.mergeSort_perm .., ?_⟩
  · unfold sortD
    rw [List.map_mergeSort (s := leB)]
    exact fun a _ b _ => (hle a b).symm
  · have h1 := List.pairwise_mergeSort (le := fun a b => !lt b a) (fun a b c h1 h2 => ?_) (fun a b => ?_) xs
    · have h2 : (xs.mergeSort fun a b => !lt b a).Nodup := (List.mergeSort_perm xs _).nodup_iff.mpr nd
      refine (h1.and h2).imp fun {a b} ⟨h, ne⟩ => ?_
      rcases L.tot a b ne with z | z
      · exact z
      · rw [z] at h; cases h
    · cases e1 : lt c a with
      | false => rfl
      | true =>
        simp only [Bool.not_eq_true'] at h1 h2
        by_cases e : a = b
        · subst e; rw [h2] at e1; cases e1
        · have z := (L.tot a b e).resolve_right (by rw [h1]; simp)
          rw [L.tr _ _ _ e1 z] at h2; cases h2
    · cases e : lt b a with
      | false => simp
      | true => simp [L.asym e]
theorem leB_int (a b : Int) : leB (.int a) (.int b) = !decide (b < a) := by
  have := congrFun (congrFun (PySem.W.dataLe_int (β := Int) id) a) b
  show PySem.W.dataLe false D.py (.int a) (.int b) = _
  have e : PySem.W.dataLe false D.py (.int a) (.int b) = PySem.W.dataLe false (fun b : Int => PyData.int (id b)) a b := rfl
  rw [e, this]
  show decide (a ≤ b) = _
  by_cases h : a ≤ b
  · rw [decide_eq_true h, decide_eq_false (by omega)]; rfl
  · rw [decide_eq_false h, decide_eq_true (by omega)]; rfl
def dP (p : Int × Int) : D := .tup [.int p.1, .int p.2]
theorem leB_pair (a b : Int × Int) : leB (dP a) (dP b) = !ltPP b a := by
  have := congrFun (congrFun (PySem.W.dataLe_ii (β := Int × Int) (fun p => p.1) (fun p => p.2)) a) b
  have e : leB (dP a) (dP b) = PySem.W.dataLe false (fun p : Int × Int => PyData.tuple [.int p.1, .int p.2]) a b := rfl
  rw [e, this]
  simp only [ltPP]
  by_cases h : a.1 < b.1 ∨ (a.1 = b.1 ∧ a.2 ≤ b.2)
  · rw [decide_eq_true h, decide_eq_false (by omega)]; rfl
  · rw [decide_eq_false h, decide_eq_true (by omega)]; rfl
/-! ### a dict of keys, each told to be the same thing -/
theorem put_ded {α : Type} [DecidableEq α] {f : α → D} {v : D} (hf : ∀ a b, deq (f a) (f b) = decide (a = b)) (ks : List α) (a : α) : putD (ks.map fun b => (f b, v)) (f a) v = (if a ∈ ks then ks else ks ++ [a]).map fun b => (f b, v) := by
  have e : (ks.map fun b => (f b, v)).any (fun p => deq p.1 (f a)) = decide (a ∈ ks) := by
    rw [List.any_map, Bool.eq_iff_iff, List.any_eq_true, decide_eq_true_eq]
    constructor
    · rintro ⟨b, hb, h⟩
      have h : deq (f b) (f a) = true := h
      rw [hf, decide_eq_true_eq] at h
      exact h ▸ hb
    · intro h
      exact ⟨a, h, by show deq (f a) (f a) = true; rw [hf]; simp⟩
  unfold putD
  rw [e]
  by_cases h : a ∈ ks
  · rw [if_pos (by simpa using h), if_pos h, List.map_map]
    refine List.map_congr_left fun b _ => ?_
    show (if deq (f b) (f a) = true then ((f b, v) : D × D) else (f b, v)) = (f b, v)
    split <;> rfl
  · rw [if_neg (by simpa using h), if_neg h, List.map_append]; rfl
theorem dcomp_ded {α : Type} [DecidableEq α] {vs : List Nat} {tg : Tg} {fc fk fv : PEnv → RK → Prop} {ρ : PEnv} {Q : List (D × D) → PEnv → Prop} {f g : α → D} {v : D} (hf : ∀ a b, deq (f a) (f b) = decide (a = b)) (hk : ∀ (ks : List α) (a : α), keyOk (ks.map fun b => (f b, v)) (f a) = true) :
    ∀ (xs ks : List α), ks.length + xs.length ≤ sizeLine →
    (∀ a ∈ xs, ∀ (K : D → D → PEnv → Prop) (Z : PEnv → Prop), K (f a) v ρ → tgP tg (g a) ρ fun ρ1 => fc ρ1 fun c ρ2 => ∃ b, c = .val (.bl b) ∧ brn b (fk ρ2 fun k ρ3 => k.kept fun kd => fv ρ3 fun r ρ4 => r.kept fun vd => K kd vd (ρ4.wipe vs)) (Z (ρ2.wipe vs))) →
    Q ((ded ks xs).map fun b => (f b, v)) ρ → dcompL vs tg fc fk fv (xs.map g) ρ (ks.map fun b => (f b, v)) Q
  | [], ks, _, _, q => q
  | a :: xs, ks, hz, h, q => by
    have hz' : ks.length + (xs.length + 1) ≤ sizeLine := hz
    refine h a (List.mem_cons_self ..) (fun kd vd ρ' => keyOk (ks.map fun b => (f b, v)) kd = true ∧ (ks.map fun b => (f b, v)).length < sizeLine ∧ dcompL vs tg fc fk fv (xs.map g) ρ' (putD (ks.map fun b => (f b, v)) kd vd) Q) (fun ρ' => dcompL vs tg fc fk fv (xs.map g) ρ' (ks.map fun b => (f b, v)) Q) ⟨hk ks a, by rw [List.length_map]; omega, ?_⟩
    rw [put_ded hf]
    refine dcomp_ded hf hk xs _ ?_ (fun d hd => h d (List.mem_cons_of_mem _ hd)) q
    split
    · omega
    · rw [List.length_append, List.length_singleton]; omega
/-! ### data that == reads -/
theorem lay_all : ∀ {xs : List D}, (∀ x ∈ xs, x.py.canLay0 = true) → PyData.canLayAll0 (D.pys xs) = true
  | [], _ => rfl
  | x :: xs, h => by
    simp only [D.pys, PyData.canLayAll0, Bool.and_eq_true]
    exact ⟨h x (List.mem_cons_self ..), lay_all fun y hy => h y (List.mem_cons_of_mem _ hy)⟩
theorem dep_all {n : Nat} : ∀ {xs : List D}, (∀ x ∈ xs, x.py.depth ≤ n) → PyData.depthAll (D.pys xs) ≤ n
  | [], _ => Nat.zero_le _
  | x :: xs, h => by
    simp only [D.pys, PyData.depthAll]
    exact Nat.max_le.mpr ⟨h x (List.mem_cons_self ..), dep_all fun y hy => h y (List.mem_cons_of_mem _ hy)⟩
theorem shp_lst {xs : List D} (h : ∀ x ∈ xs, x.py.canLay0 = true ∧ x.py.depth ≤ 60) : shp (.lst xs) = true := by
  unfold shp SeqAt.shaped
  rw [Bool.and_eq_true, decide_eq_true_eq]
  refine ⟨?_, ?_⟩
  · simp only [D.py, PyData.canLay0]; exact lay_all fun x hx => (h x hx).1
  · have := dep_all (n := 60) fun x hx => (h x hx).2
    simp only [D.py, PyData.depth]
    omega
theorem shp_tup {xs : List D} (h : ∀ x ∈ xs, x.py.canLay0 = true ∧ x.py.depth ≤ 60) : shp (.tup xs) = true := by
  unfold shp SeqAt.shaped
  rw [Bool.and_eq_true, decide_eq_true_eq]
  refine ⟨?_, ?_⟩
  · simp only [D.py, PyData.canLay0]; exact lay_all fun x hx => (h x hx).1
  · have := dep_all (n := 60) fun x hx => (h x hx).2
    simp only [D.py, PyData.depth]
    omega
theorem lay_int (i : Int) : (D.int i).py.canLay0 = true ∧ (D.int i).py.depth ≤ 60 := ⟨rfl, by simp [D.py, PyData.depth]⟩
theorem deq_int (a b : Int) : deq (.int a) (.int b) = decide (a = b) := by
  simp only [deq, D.py, PyData.eqv]
  rw [Bool.eq_iff_iff, beq_iff_eq, decide_eq_true_eq]
theorem idx_map {α : Type} [DecidableEq α] {f : α → D} (hf : ∀ a b, deq (f a) (f b) = decide (a = b)) (xs : List α) (a : α) : idxOfD (xs.map f) (f a) = xs.findIdx? (fun z => decide (z = a)) := by
  unfold idxOfD
  rw [List.findIdx?_map]
  congr 1
  funext z
  exact hf z a
theorem any_map {α : Type} [DecidableEq α] {f : α → D} (hf : ∀ a b, deq (f a) (f b) = decide (a = b)) (xs : List α) (a : α) : ((xs.map f).any fun z => deq z (f a)) = decide (a ∈ xs) := by
  rw [List.any_map, Bool.eq_iff_iff, List.any_eq_true, decide_eq_true_eq]
  constructor
  · rintro ⟨b, hb, h⟩
    have h : deq (f b) (f a) = true := h
    rw [hf, decide_eq_true_eq] at h
    exact h ▸ hb
  · intro h
    exact ⟨a, h, by show deq (f a) (f a) = true; rw [hf]; simp⟩
theorem deq_nat (a b : Nat) : deq (.int (a : Nat)) (.int (b : Nat)) = decide (a = b) := by
  rw [deq_int]
  congr 1
  exact propext Int.ofNat_inj
theorem shp_nats (xs : List Nat) : shp (.tup (xs.map fun n => D.int (n : Nat))) = true := shp_tup fun x hx => by
  obtain ⟨n, _, rfl⟩ := List.mem_map.mp hx
  exact lay_int _
theorem shp_int (i : Int) : shp (.int i) = true := rfl
end PL
/-! PL26: k82: the program's defs. -/
namespace PL
open PySem PySem.Spec PyProof.Rows L2
def nm_places : List Str := ["pairs", "steps", "pair"]
def ir_places : IS :=
(.seq (.asg (.nm 1) (.blt .sorted (.acons (.dcomp [2] (.nm 2) (.itSeq (.bor 0)) (.cst (.bl true)) (.var 2) (.cst (.bl true))) .anil)))
  (.seq (.ret (.blt .tuple (.acons (.comp [2] (.nm 2) (.itSeq (.bor 0)) (.cst (.bl true)) (.mth .index (.bor 1) (.acons (.bor 2) .anil))) .anil)))
  .skip))
def fs_places : List (Nat × Str) := []
def cs_places : List (Str × D) := []
def nm_key_of : List Str := ["method", "ranks", "menu", "world", "is_out"]
def ir_key_of : IS :=
(.seq (.asg (.nm 4) (.blt .int (.acons (.cmp .notin (.bor 3) (.bor 2)) .anil)))
  (.seq (.ifs (.cmp .eq (.bor 0) (.cst (.str "lexic")))
 (.seq (.ret (.tup (.acons (.var 4) (.acons (.idx (.bor 1) (.bor 3)) .anil))))
  .skip)
 .skip)
  (.seq (.ifs (.cmp .isin (.bor 3) (.call 535 (.acons (.var 1) (.acons (.var 2) .anil))))
 (.seq (.ret (.tup (.acons (.neg (.cst (.int 1))) (.acons (.cst (.int 0)) .anil))))
  .skip)
 .skip)
  (.seq (.ret (.ite (.cmp .eq (.bor 0) (.cst (.str "natural"))) (.tup (.acons (.idx (.bor 1) (.bor 3)) (.acons (.cst (.int 0)) .anil))) (.tup (.acons (.idx (.bor 1) (.bor 3)) (.acons (.var 4) .anil)))))
  .skip))))
def fs_key_of : List (Nat × Str) := [(535, "least_of")]
def cs_key_of : List (Str × D) := [("LEXIC", (.str "lexic")), ("NATURAL", (.str "natural"))]
def nm_moved : List Str := ["method", "ranks", "menu", "world"]
def ir_moved : IS :=
(.seq (.ret (.call 602 (.acons (.comp [3] (.nm 3) (.itR1 (.blt .len (.acons (.bor 1) .anil))) (.cst (.bl true)) (.call 529 (.acons (.var 0) (.acons (.var 1) (.acons (.var 2) (.acons (.var 3) .anil)))))) .anil)))
  .skip)
def fs_moved : List (Nat × Str) := [(602, "places"), (529, "key_of")]
def cs_moved : List (Str × D) := []
def nm_moved_by_all : List Str := ["method", "ranks", "rows", "menu"]
def ir_moved_by_all : IS :=
(.seq (.fr (.nm 3) (.itSeq (.var 2))
 (.seq (.asg (.nm 1) (.call 572 (.acons (.var 0) (.acons (.var 1) (.acons (.var 3) .anil)))))
  .skip))
  (.seq (.ret (.var 1))
  .skip))
def fs_moved_by_all : List (Nat × Str) := [(572, "moved")]
def cs_moved_by_all : List (Str × D) := []
theorem deq_P (a b : Int × Int) : deq (dP a) (dP b) = decide (a = b) := by
  have : deq (dP a) (dP b) = (deq (.int a.1) (.int b.1) && (deq (.int a.2) (.int b.2) && true)) := by
    simp only [deq, dP, D.py, D.pys, PyData.eqv, PyData.eqvAll]
  rw [this, deq_int, deq_int, Bool.and_true, ← Bool.decide_and]
  congr 1
  exact propext (Prod.ext_iff.symm)
theorem key_P {v : D} (ks : List (Int × Int)) (a : Int × Int) : keyOk (ks.map fun b => (dP b, v)) (dP a) = true := by
  unfold keyOk
  rw [Bool.and_eq_true]
  refine ⟨?_, ?_⟩
  · simp [dP, nk, nks, NestedKey.depth, NestedKey.depthAll]
  · rw [List.all_map, List.all_eq_true]
    intro b _
    rfl
theorem shp_P (a : Int × Int) : shp (dP a) = true := by
  simp [shp, SeqAt.shaped, dP, D.py, D.pys, PyData.canLay0, PyData.canLayAll0, PyData.depth, PyData.depthAll]
theorem lay_P (a : Int × Int) : (dP a).py.canLay0 = true ∧ (dP a).py.depth ≤ 60 := by
  simp [dP, D.py, D.pys, PyData.canLay0, PyData.canLayAll0, PyData.depth, PyData.depthAll]
theorem alike_P (a b : Int × Int) : PySem.W.alike (dP a).py (dP b).py = true := by
  simp [dP, D.py, D.pys, PySem.W.alike, PySem.W.alikeAll]
def plc (ps : List (Int × Int)) (p : Int × Int) : Nat := below ltPP (ded [] ps) p
def sp_places : Spec := fun ds dr Q _ => ∃ ps : List (Int × Int), ds = [.lst (ps.map dP)] ∧ ps.length ≤ 1000 ∧ Q (.val (dN (ps.map (plc ps)))) dr
theorem places_wp (C : PC) : ∀ ds dr Q, sp_places ds dr Q (fun _ _ => False) → wpF C nm_places.length ir_places ds dr Q := by
  rintro ds dr Q ⟨ps, rfl, hz, hq⟩
  show wpF C 3 ir_places _ dr Q
  have sz := sizeLine_eq
  conv => whnf
  refine ⟨rfl, ?_⟩
  conv => whnf
  refine ⟨_, rfl, ?_⟩
  refine dcomp_ded (v := .bl true) deq_P key_P ps [] (by simp; omega) (fun a ha K Z hK => ?_) ?_
  · conv => whnf
    exact ⟨_, rfl, fun _ => hK, fun h => (by cases h)⟩
  · conv => whnf
    obtain ⟨ys, e1, e2, e3⟩ := sortD_map (f := dP) linP leB_pair (nodup_ded (ks := []) (xs := ps) List.nodup_nil)
    refine ⟨?_, ?_⟩
    · refine ⟨fun x hx => ?_, fun x hx y hy => ?_⟩
      · simp only [List.mem_map] at hx
        obtain ⟨p, ⟨q, _, rfl⟩, rfl⟩ := hx
        exact ⟨shp_P q, by simp [dP, D.py]⟩
      · simp only [List.mem_map] at hx hy
        obtain ⟨p, ⟨q, _, rfl⟩, rfl⟩ := hx
        obtain ⟨p', ⟨q', _, rfl⟩, rfl⟩ := hy
        exact alike_P q q'
    · have e4 : sortD (List.map (fun x => x.fst) (List.map (fun b => (dP b, D.bl true)) (ded [] ps))) = ys.map dP := by
        rw [List.map_map]; exact e1
      conv => whnf
      rw [e4]
      refine ⟨rfl, ?_⟩
      conv => whnf
      refine ⟨_, rfl, ?_⟩
      refine comp_mp (fun p => .int (plc ps p : Nat)) ps (by omega) (fun p hp K hK => ?_) ?_
      · conv => whnf
        refine ⟨_, rfl, fun _ => ?_, fun h => (by cases h)⟩
        conv => whnf
        refine ⟨rfl, ?_⟩
        conv => whnf
        refine ⟨⟨shp_P p, shp_lst fun x hx => ?_⟩, plc ps p, ?_, hK⟩
        · obtain ⟨q, _, rfl⟩ := List.mem_map.mp hx
          exact lay_P q
        · show idxOfD (ys.map dP) (dP p) = _
          rw [idx_map deq_P, idx_below linP e3 (e2.mem_iff.mpr (mem_ded.mpr (.inr hp))), below_perm e2]
          rfl
      · show Q (.val (.tup (ps.map fun p => D.int (plc ps p : Nat)))) dr
        have : dN (ps.map (plc ps)) = .tup (ps.map fun p => D.int (plc ps p : Nat)) := by unfold dN; rw [List.map_map]; rfl
        rw [← this]; exact hq
/-! ### key_of, moved -/
def inN (w : Nat) (mn : List Nat) : Bool := decide (w ∈ mn)
/-- a world's key; m: 0 natural, 1 lexic, else restrained -/
def keyOf (m : Nat) (rk : List Int) (mn : List Nat) (w : Nat) : Int × Int :=
  if m = 1 then (if w ∈ mn then 0 else 1, rk.getD w 0) else if w ∈ leastOf rk mn then (-1, 0) else if m = 0 then (rk.getD w 0, 0) else (rk.getD w 0, if w ∈ mn then 0 else 1)
def mStr (m : Nat) : Str := if m = 0 then "natural" else if m = 1 then "lexic" else "restrained"
def MenuOk (rk : List Int) (mn : List Nat) : Prop := mn ≠ [] ∧ (∀ w ∈ mn, w < rk.length) ∧ mn.length ≤ 1000 ∧ rk.length ≤ 1000
def sp_key : Spec := fun ds dr Q _ => ∃ (m : Nat) (rk : List Int) (mn : List Nat) (w : Nat), ds = [.str (mStr m), dI rk, dN mn, .int (w : Nat)] ∧ m < 3 ∧ MenuOk rk mn ∧ w < rk.length ∧ Q (.val (dP (keyOf m rk mn w))) dr
theorem key_wp (xe : Nat → Nat → Prop) (sp : Nat → Spec) (h : sp 535 = sp_least) : ∀ ds dr Q, sp_key ds dr Q (fun _ _ => False) → wpF ⟨sp, xe⟩ nm_key_of.length ir_key_of ds dr Q := by
  rintro ds dr Q ⟨m, rk, mn, w, rfl, hm, ⟨h1, h2, h3, h4⟩, hw, hq⟩
  show wpF ⟨sp, xe⟩ 5 ir_key_of _ dr Q
  conv => whnf
  refine ⟨⟨rfl, shp_nats mn⟩, ?_⟩
  have e1 : ((mn.map fun n => D.int (n : Nat)).any fun z => deq z (.int (w : Nat))) = decide (w ∈ mn) := any_map deq_nat mn w
  -- is_out
  have fin : ∀ o : Int, o = (if w ∈ mn then 0 else 1) → wpS ⟨sp, xe⟩ (.seq (.ifs (.cmp .eq (.bor 0) (.cst (.str "lexic")))
 (.seq (.ret (.tup (.acons (.var 4) (.acons (.idx (.bor 1) (.bor 3)) .anil))))
  .skip)
 .skip)
  (.seq (.ifs (.cmp .isin (.bor 3) (.call 535 (.acons (.var 1) (.acons (.var 2) .anil))))
 (.seq (.ret (.tup (.acons (.neg (.cst (.int 1))) (.acons (.cst (.int 0)) .anil))))
  .skip)
 .skip)
  (.seq (.ret (.ite (.cmp .eq (.bor 0) (.cst (.str "natural"))) (.tup (.acons (.idx (.bor 1) (.bor 3)) (.acons (.cst (.int 0)) .anil))) (.tup (.acons (.idx (.bor 1) (.bor 3)) (.acons (.var 4) .anil)))))
  .skip))) ⟨[.val (.str (mStr m)), .val (dI rk), .val (dN mn), .val (.int (w : Nat)), .val (.int o)], dr⟩ ⟨fun ρ => Q (.val .non) ρ.dr, Q, fun _ => False, fun _ => False⟩ := fun o ho => by
    conv => whnf
    refine ⟨_, rfl, ?_⟩
    conv => whnf
    refine ⟨fun hl => ?_, fun hl => ?_⟩
    · conv => whnf
      refine ⟨_, at_dI hw, ?_⟩
      conv => whnf
      refine ⟨(show 2 ≤ sizeLine by decide), ?_⟩
      have hl : mStr m = "lexic" := of_decide_eq_true hl
      have m1 : m = 1 := by
        match m, hm, hl with
        | 0, _, hl => exact absurd hl (by decide +kernel)
        | 1, _, _ => rfl
        | 2, _, hl => exact absurd hl (by decide +kernel)
      subst m1
      have : dP (keyOf 1 rk mn w) = .tup [.int o, .int (rk.getD w 0)] := by rw [ho]; rfl
      rw [this] at hq
      exact hq
    · have m1 : m ≠ 1 := fun e => by subst e; exact absurd hl (by decide +kernel)
      conv => whnf
      rw [h]
      refine ⟨rk, mn, rfl, h1, h2, h3, ?_⟩
      conv => whnf
      refine ⟨⟨rfl, shp_nats _⟩, ?_⟩
      conv => whnf
      refine ⟨_, rfl, ?_⟩
      have e2 : ((((leastOf rk mn).map fun n => D.int (n : Nat))).any fun z => deq z (.int (w : Nat))) = decide (w ∈ leastOf rk mn) := any_map deq_nat _ w
      conv => whnf
      refine ⟨fun hl => ?_, fun hl => ?_⟩
      · have hl : w ∈ leastOf rk mn := of_decide_eq_true (e2 ▸ hl)
        conv => whnf
        refine ⟨_, rfl, ?_⟩
        conv => whnf
        refine ⟨(show 2 ≤ sizeLine by decide), ?_⟩
        have : dP (keyOf m rk mn w) = .tup [.int (-1), .int 0] := by unfold keyOf; rw [if_neg m1, if_pos hl]; rfl
        rw [this] at hq
        exact hq
      · have hl : ¬ w ∈ leastOf rk mn := of_decide_eq_false (e2 ▸ hl)
        conv => whnf
        refine ⟨_, rfl, ?_⟩
        conv => whnf
        refine ⟨fun hn => ?_, fun hn => ?_⟩
        · conv => whnf
          refine ⟨_, at_dI hw, ?_⟩
          conv => whnf
          refine ⟨(show 2 ≤ sizeLine by decide), ?_⟩
          have m0 : m = 0 := by
            have hn : mStr m = "natural" := of_decide_eq_true hn
            match m, hm, hn with
            | 0, _, _ => rfl
            | 1, _, hl => exact absurd hl (by decide +kernel)
            | 2, _, hl => exact absurd hl (by decide +kernel)
          have : dP (keyOf m rk mn w) = .tup [.int (rk.getD w 0), .int 0] := by unfold keyOf; rw [if_neg m1, if_neg hl, if_pos m0]; rfl
          rw [this] at hq
          exact hq
        · conv => whnf
          refine ⟨_, at_dI hw, ?_⟩
          conv => whnf
          refine ⟨(show 2 ≤ sizeLine by decide), ?_⟩
          have m0 : m ≠ 0 := fun e => by subst e; exact absurd hn (by decide +kernel)
          have : dP (keyOf m rk mn w) = .tup [.int (rk.getD w 0), .int o] := by unfold keyOf; rw [if_neg m1, if_neg hl, if_neg m0, ho]; rfl
          rw [this] at hq
          exact hq
  refine fin _ ?_
  show (if (!((mn.map fun n => D.int (n : Nat)).any fun z => deq z (.int (w : Nat)))) = true then (1 : Int) else 0) = _
  rw [e1]
  by_cases hi : w ∈ mn <;> simp [hi]
/-! ### moved, moved_by_all -/
theorem rng0 (n : Nat) : rngL 0 (n : Nat) = (List.range n).map fun i => D.int (i : Nat) := by
  unfold rngL
  rw [Int.sub_zero, Int.toNat_natCast]
  exact List.map_congr_left fun i _ => by rw [Int.zero_add]
def keysOf (m : Nat) (rk : List Int) (mn : List Nat) : List (Int × Int) := (List.range rk.length).map (keyOf m rk mn)
def movedL (m : Nat) (rk : List Int) (mn : List Nat) : List Nat := (keysOf m rk mn).map (plc (keysOf m rk mn))
def sp_moved : Spec := fun ds dr Q _ => ∃ (m : Nat) (rk : List Int) (mn : List Nat), ds = [.str (mStr m), dI rk, dN mn] ∧ m < 3 ∧ MenuOk rk mn ∧ Q (.val (dN (movedL m rk mn))) dr
theorem moved_wp (xe : Nat → Nat → Prop) (sp : Nat → Spec) (h : sp 529 = sp_key) (h2 : sp 602 = sp_places) : ∀ ds dr Q, sp_moved ds dr Q (fun _ _ => False) → wpF ⟨sp, xe⟩ nm_moved.length ir_moved ds dr Q := by
  rintro ds dr Q ⟨m, rk, mn, rfl, hm, ok, hq⟩
  show wpF ⟨sp, xe⟩ 4 ir_moved _ dr Q
  have sz := sizeLine_eq
  obtain ⟨o1, o2, o3, o4⟩ := id ok
  conv => whnf
  refine ⟨rfl, ?_⟩
  conv => whnf
  refine ⟨_, rfl, ⟨by rw [List.length_map]; omega, by rw [List.length_map]; omega⟩, ?_⟩
  rw [List.length_map, rng0]
  refine comp_mp (fun i => dP (keyOf m rk mn i)) _ (by rw [List.length_range]; omega) (fun i hi K hK => ?_) ?_
  · have hi := List.mem_range.mp hi
    conv => whnf
    refine ⟨_, rfl, fun _ => ?_, fun h => (by cases h)⟩
    conv => whnf
    rw [h]
    exact ⟨m, rk, mn, i, rfl, hm, ok, hi, hK⟩
  · conv => whnf
    rw [h2]
    refine ⟨keysOf m rk mn, ?_, by unfold keysOf; rw [List.length_map, List.length_range]; omega, hq⟩
    show [D.lst ((List.range rk.length).map fun i => dP (keyOf m rk mn i))] = _
    unfold keysOf
    rw [List.map_map]
    rfl
theorem movedL_len (m : Nat) (rk : List Int) (mn : List Nat) : (movedL m rk mn).length = rk.length := by
  unfold movedL keysOf
  rw [List.length_map, List.length_map, List.length_range]
def castL (xs : List Nat) : List Int := xs.map Int.ofNat
theorem dN_dI (xs : List Nat) : dN xs = dI (castL xs) := by unfold castL dN dI; rw [List.map_map]; rfl
def sp_moved2 : Spec := fun ds dr Q _ => ∃ (m : Nat) (rk : List Int) (one two : List Nat), ds = [.str (mStr m), dI rk, .lst [dN one, dN two]] ∧ m < 3 ∧ MenuOk rk one ∧ MenuOk rk two ∧ Q (.val (dN (movedL m (castL (movedL m rk one)) two))) dr
theorem moved2_wp (xe : Nat → Nat → Prop) (sp : Nat → Spec) (h : sp 572 = sp_moved) : ∀ ds dr Q, sp_moved2 ds dr Q (fun _ _ => False) → wpF ⟨sp, xe⟩ nm_moved_by_all.length ir_moved_by_all ds dr Q := by
  rintro ds dr Q ⟨m, rk, one, two, rfl, hm, ok1, ok2, hq⟩
  show wpF ⟨sp, xe⟩ 4 ir_moved_by_all _ dr Q
  conv => whnf
  refine ⟨_, rfl, ?_⟩
  conv => whnf
  rw [h]
  refine ⟨m, rk, one, rfl, hm, ok1, ?_⟩
  conv => whnf
  rw [h, dN_dI]
  refine ⟨m, castL (movedL m rk one), two, rfl, hm, ⟨ok2.1, fun w hw => ?_, ok2.2.2.1, ?_⟩, hq⟩
  · unfold castL; rw [List.length_map, movedL_len]; exact ok2.2.1 w hw
  · unfold castL; rw [List.length_map, movedL_len]; exact ok2.2.2.2
end PL
/-! PL27: the laws' own helpers: their contracts. -/
namespace PL
open PySem PySem.Spec PyProof.Rows L2
def nm__law_kind : List Str := ["x"]
def ir__law_kind : IS :=
(.seq (.ifs (.tst (.isi (.bor 0) .bool))
 (.seq (.ret (.cst (.int 1)))
  .skip)
 .skip)
  (.seq (.ifs (.tst (.isi (.bor 0) .int))
 (.seq (.ret (.cst (.int 2)))
  .skip)
 .skip)
  (.seq (.ifs (.tst (.isi (.bor 0) .str))
 (.seq (.ret (.cst (.int 3)))
  .skip)
 .skip)
  (.seq (.ifs (.tst (.isi (.bor 0) .tuple))
 (.seq (.ret (.cst (.int 4)))
  .skip)
 .skip)
  (.seq (.ifs (.tst (.isi (.bor 0) .list))
 (.seq (.ret (.cst (.int 5)))
  .skip)
 .skip)
  (.seq (.ifs (.cmp .is (.bor 0) (.cst .non))
 (.seq (.ret (.cst (.int 6)))
  .skip)
 .skip)
  (.seq (.ret (.cst (.int 0)))
  .skip)))))))
def fs__law_kind : List (Nat × Str) := []
def cs__law_kind : List (Str × D) := []
def nm__law_equal : List Str := ["x", "due", "k"]
def ir__law_equal : IS :=
(.seq (.ifs (.or (.cmp .ne (.call 88 (.acons (.var 0) .anil)) (.call 88 (.acons (.var 1) .anil))) (.cmp .eq (.call 88 (.acons (.var 0) .anil)) (.cst (.int 0))))
 (.seq (.ret (.cst (.bl false)))
  .skip)
 .skip)
  (.seq (.ifs (.or (.tst (.isi (.bor 1) .tuple)) (.tst (.isi (.bor 1) .list)))
 (.seq (.ifs (.cmp .ne (.blt .len (.acons (.bor 0) .anil)) (.blt .len (.acons (.bor 1) .anil)))
 (.seq (.ret (.cst (.bl false)))
  .skip)
 .skip)
  (.seq (.fr (.nm 2) (.itR1 (.blt .len (.acons (.bor 1) .anil)))
 (.seq (.ifs (.not (.tst (.call 51 (.acons (.idx (.bor 0) (.bor 2)) (.acons (.idx (.bor 1) (.bor 2)) .anil)))))
 (.seq (.ret (.cst (.bl false)))
  .skip)
 .skip)
  .skip))
  (.seq (.ret (.cst (.bl true)))
  .skip)))
 .skip)
  (.seq (.ret (.cmp .eq (.bor 0) (.bor 1)))
  .skip)))
def fs__law_equal : List (Nat × Str) := [(88, "_law_kind"), (51, "_law_equal")]
def cs__law_equal : List (Str × D) := []
def nm__law_both : List Str := ["one", "two", "thing"]
def ir__law_both : IS :=
(.seq (.ret (.blt .tuple (.acons (.comp [2] (.nm 2) (.itSeq (.bor 0)) (.cmp .isin (.bor 2) (.bor 1)) (.var 2)) .anil)))
  .skip)
def fs__law_both : List (Nat × Str) := []
def cs__law_both : List (Str × D) := []
def nm__law_tidy : List Str := ["numbers", "steps", "number"]
def ir__law_tidy : IS :=
(.seq (.asg (.nm 1) (.lst .anil))
  (.seq (.fr (.nm 2) (.itSeq (.blt .sorted (.acons (.bor 0) .anil)))
 (.seq (.ifs (.cmp .notin (.bor 2) (.bor 1))
 (.seq (.app 1 (.var 2))
  .skip)
 .skip)
  .skip))
  (.seq (.ret (.blt .tuple (.acons (.comp [2] (.nm 2) (.itSeq (.bor 0)) (.cst (.bl true)) (.mth .index (.bor 1) (.acons (.bor 2) .anil))) .anil)))
  .skip)))
def fs__law_tidy : List (Nat × Str) := []
def cs__law_tidy : List (Str × D) := []
def nm__law_ranks : List Str := ["pool", "n", "k"]
def ir__law_ranks : IS :=
(.seq (.ret (.call 199 (.acons (.comp [2] (.nm 2) (.itR1 (.bor 1)) (.cst (.bl true)) (.call 49 (.acons (.var 0) (.acons (.var 1) .anil)))) .anil)))
  .skip)
def fs__law_ranks : List (Nat × Str) := [(199, "_law_tidy"), (49, "_law_draw")]
def cs__law_ranks : List (Str × D) := []
def nm__law_least : List Str := ["ranks", "menu", "least", "thing"]
def ir__law_least : IS :=
(.seq (.asg (.nm 2) (.blt .min (.acons (.comp [3] (.nm 3) (.itSeq (.bor 1)) (.cst (.bl true)) (.idx (.bor 0) (.bor 3))) .anil)))
  (.seq (.ret (.blt .tuple (.acons (.comp [3] (.nm 3) (.itSeq (.bor 1)) (.cmp .eq (.idx (.bor 0) (.bor 3)) (.bor 2)) (.var 3)) .anil)))
  .skip))
def fs__law_least : List (Nat × Str) := []
def cs__law_least : List (Str × D) := []
def nm__law_random_picks : List Str := ["pool", "menu", "found", "thing"]
def ir__law_random_picks : IS :=
(.seq (.asg (.nm 2) (.blt .tuple (.acons (.comp [3] (.nm 3) (.itSeq (.bor 1)) (.cmp .eq (.call 49 (.acons (.var 0) (.acons (.cst (.int 2)) .anil))) (.cst (.int 0))) (.var 3)) .anil)))
  (.seq (.ifs (.cmp .eq (.blt .len (.acons (.bor 2) .anil)) (.cst (.int 0)))
 (.seq (.asg (.nm 2) (.tup (.acons (.idx (.bor 1) (.call 49 (.acons (.var 0) (.acons (.blt .len (.acons (.bor 1) .anil)) .anil)))) .anil)))
  .skip)
 .skip)
  (.seq (.ret (.var 2))
  .skip)))
def fs__law_random_picks : List (Nat × Str) := [(49, "_law_draw")]
def cs__law_random_picks : List (Str × D) := []
/-! ### _law_kind -/
def kindD : D → Int
  | .bl _ => 1
  | .int _ => 2
  | .str _ => 3
  | .tup _ => 4
  | .lst _ => 5
  | .non => 6
  | _ => 0
def sp_kind : Spec := fun ds dr Q _ => ∃ x, ds = [x] ∧ hasTy x = true ∧ Q (.val (.int (kindD x))) dr
theorem kind_wp (C : PC) : ∀ ds dr Q, sp_kind ds dr Q (fun _ _ => False) → wpF C nm__law_kind.length ir__law_kind ds dr Q := by
  rintro ds dr Q ⟨x, rfl, hx, hq⟩
  show wpF C 1 ir__law_kind _ dr Q
  have no : ∀ {A : Prop}, (false = true → A) := fun h => (by cases h)
  have no' : ∀ {A : Prop}, (true = false → A) := fun h => (by cases h)
  cases x with
  | bl b =>
    conv => whnf
    refine ⟨rfl, ?_⟩
    conv => whnf
    refine ⟨_, rfl, ?_⟩
    conv => whnf
    exact ⟨_, rfl, fun _ => hq, no'⟩
  | int b =>
    conv => whnf
    refine ⟨rfl, ?_⟩
    conv => whnf
    refine ⟨_, rfl, ?_⟩
    conv => whnf
    refine ⟨_, rfl, no, fun _ => ?_⟩
    conv => whnf
    refine ⟨rfl, ?_⟩
    conv => whnf
    refine ⟨_, rfl, ?_⟩
    conv => whnf
    exact ⟨_, rfl, fun _ => hq, no'⟩
  | str b =>
    conv => whnf
    refine ⟨rfl, ?_⟩
    conv => whnf
    refine ⟨_, rfl, ?_⟩
    conv => whnf
    refine ⟨_, rfl, no, fun _ => ?_⟩
    conv => whnf
    refine ⟨rfl, ?_⟩
    conv => whnf
    refine ⟨_, rfl, ?_⟩
    conv => whnf
    refine ⟨_, rfl, no, fun _ => ?_⟩
    conv => whnf
    refine ⟨rfl, ?_⟩
    conv => whnf
    refine ⟨_, rfl, ?_⟩
    conv => whnf
    exact ⟨_, rfl, fun _ => hq, no'⟩
  | tup b =>
    conv => whnf
    refine ⟨rfl, ?_⟩
    conv => whnf
    refine ⟨_, rfl, ?_⟩
    conv => whnf
    refine ⟨_, rfl, no, fun _ => ?_⟩
    conv => whnf
    refine ⟨rfl, ?_⟩
    conv => whnf
    refine ⟨_, rfl, ?_⟩
    conv => whnf
    refine ⟨_, rfl, no, fun _ => ?_⟩
    conv => whnf
    refine ⟨rfl, ?_⟩
    conv => whnf
    refine ⟨_, rfl, ?_⟩
    conv => whnf
    refine ⟨_, rfl, no, fun _ => ?_⟩
    conv => whnf
    refine ⟨rfl, ?_⟩
    conv => whnf
    refine ⟨_, rfl, ?_⟩
    conv => whnf
    exact ⟨_, rfl, fun _ => hq, no'⟩
  | lst b =>
    conv => whnf
    refine ⟨rfl, ?_⟩
    conv => whnf
    refine ⟨_, rfl, ?_⟩
    conv => whnf
    refine ⟨_, rfl, no, fun _ => ?_⟩
    conv => whnf
    refine ⟨rfl, ?_⟩
    conv => whnf
    refine ⟨_, rfl, ?_⟩
    conv => whnf
    refine ⟨_, rfl, no, fun _ => ?_⟩
    conv => whnf
    refine ⟨rfl, ?_⟩
    conv => whnf
    refine ⟨_, rfl, ?_⟩
    conv => whnf
    refine ⟨_, rfl, no, fun _ => ?_⟩
    conv => whnf
    refine ⟨rfl, ?_⟩
    conv => whnf
    refine ⟨_, rfl, ?_⟩
    conv => whnf
    refine ⟨_, rfl, no, fun _ => ?_⟩
    conv => whnf
    refine ⟨rfl, ?_⟩
    conv => whnf
    refine ⟨_, rfl, ?_⟩
    conv => whnf
    exact ⟨_, rfl, fun _ => hq, no'⟩
  | non =>
    conv => whnf
    refine ⟨rfl, ?_⟩
    conv => whnf
    refine ⟨_, rfl, ?_⟩
    conv => whnf
    refine ⟨_, rfl, no, fun _ => ?_⟩
    conv => whnf
    refine ⟨rfl, ?_⟩
    conv => whnf
    refine ⟨_, rfl, ?_⟩
    conv => whnf
    refine ⟨_, rfl, no, fun _ => ?_⟩
    conv => whnf
    refine ⟨rfl, ?_⟩
    conv => whnf
    refine ⟨_, rfl, ?_⟩
    conv => whnf
    refine ⟨_, rfl, no, fun _ => ?_⟩
    conv => whnf
    refine ⟨rfl, ?_⟩
    conv => whnf
    refine ⟨_, rfl, ?_⟩
    conv => whnf
    refine ⟨_, rfl, no, fun _ => ?_⟩
    conv => whnf
    refine ⟨rfl, ?_⟩
    conv => whnf
    refine ⟨_, rfl, ?_⟩
    conv => whnf
    refine ⟨_, rfl, no, fun _ => ?_⟩
    conv => whnf
    exact ⟨_, rfl, fun _ => hq, no'⟩
  | _ => cases hx
/-! ### _law_equal: of two alike -/
def okQ : Nat → D → Prop
  | 0, x => (match x with | .int _ => True | .bl _ => True | .str _ => True | .non => True | _ => False)
  | L + 1, x => (match x with | .int _ => True | .bl _ => True | .str _ => True | .non => True | .tup xs => xs.length ≤ 1000 ∧ ∀ d ∈ xs, okQ L d | .lst xs => xs.length ≤ 1000 ∧ ∀ d ∈ xs, okQ L d | _ => False)
def sp_equal (L : Nat) : Spec := fun ds dr Q _ => ∃ x, ds = [x, x] ∧ okQ L x ∧ Q (.val (.bl true)) dr
theorem equal_wp (L : Nat) (sp : Nat → Spec) (xe : Nat → Nat → Prop) (h : sp 88 = sp_kind) (h2 : ∀ M, L = M + 1 → sp 51 = sp_equal M) : ∀ ds dr Q, sp_equal L ds dr Q (fun _ _ => False) → wpF ⟨sp, xe⟩ nm__law_equal.length ir__law_equal ds dr Q := by
  rintro ds dr Q ⟨x, rfl, hx, hq⟩
  show wpF ⟨sp, xe⟩ 3 ir__law_equal _ dr Q
  have no : ∀ {A : Prop}, (false = true → A) := fun h => (by cases h)
  have no' : ∀ {A : Prop}, (true = false → A) := fun h => (by cases h)
  -- the first question
  have first : ∀ (x : D) (rest : IS) (ρ : PEnv) (E : PEnds), ρ.sl = [.val x, .val x, .no] → hasTy x = true → kindD x ≠ 0 → wpS ⟨sp, xe⟩ rest ρ E → wpS ⟨sp, xe⟩ (.seq (.ifs (.or (.cmp .ne (.call 88 (.acons (.var 0) .anil)) (.call 88 (.acons (.var 1) .anil))) (.cmp .eq (.call 88 (.acons (.var 0) .anil)) (.cst (.int 0))))
 (.seq (.ret (.cst (.bl false)))
  .skip)
 .skip) rest) ρ E := fun x rest ρ E e hy hk hr => by
    obtain ⟨sl, dr⟩ := ρ
    subst e
    conv => whnf
    rw [h]
    refine ⟨x, rfl, hy, ?_⟩
    conv => whnf
    rw [h]
    refine ⟨x, rfl, hy, ?_⟩
    conv => whnf
    refine ⟨_, rfl, fun hd => ?_, fun _ => ?_⟩
    · simp at hd
    conv => whnf
    rw [h]
    refine ⟨x, rfl, hy, ?_⟩
    conv => whnf
    exact ⟨_, rfl, fun hd => absurd (of_decide_eq_true hd) hk, fun _ => hr⟩
  have scalar : ∀ x : D, hasTy x = true → kindD x ≠ 0 → isTy .tuple x = false → isTy .list x = false → (∀ Z : Bool → Prop, Z true → eqP x x Z) → Q (.val (.bl true)) dr → wpF ⟨sp, xe⟩ 3 ir__law_equal [x, x] dr Q := fun x hy hk ht hl he hq => by
    refine first x _ _ _ rfl hy hk ?_
    conv => whnf
    refine ⟨hy, ?_⟩
    conv => whnf
    refine ⟨_, rfl, ?_⟩
    conv => whnf
    refine ⟨_, rfl, fun hd => ?_, fun _ => ?_⟩
    · have hd : isTy .tuple x = true := hd
      rw [ht] at hd; cases hd
    conv => whnf
    refine ⟨hy, ?_⟩
    conv => whnf
    refine ⟨_, rfl, ?_⟩
    conv => whnf
    refine ⟨_, rfl, fun hd => ?_, fun _ => ?_⟩
    · have hd : isTy .list x = true := hd
      rw [hl] at hd; cases hd
    refine he (fun r => Q (.val (.bl r)) dr) hq
  have seq : ∀ (x : D) (xs : List D) (M : Nat), (x = .tup xs ∨ x = .lst xs) → sp 51 = sp_equal M → xs.length ≤ 1000 → (∀ d ∈ xs, okQ M d) → Q (.val (.bl true)) dr → wpF ⟨sp, xe⟩ 3 ir__law_equal [x, x] dr Q := by
    intro x xs M hxs h5 hz hd hq
    have hy : hasTy x = true := by rcases hxs with rfl | rfl <;> rfl
    have hk : kindD x ≠ 0 := by rcases hxs with rfl | rfl; exact (show (4 : Int) ≠ 0 by decide); exact (show (5 : Int) ≠ 0 by decide)
    refine first x _ _ _ rfl hy hk ?_
    conv => whnf
    refine ⟨hy, ?_⟩
    conv => whnf
    refine ⟨_, rfl, ?_⟩
    have body : ∀ nx bk ct, wpS ⟨sp, xe⟩ (.seq (.ifs (.cmp .ne (.blt .len (.acons (.bor 0) .anil)) (.blt .len (.acons (.bor 1) .anil)))
 (.seq (.ret (.cst (.bl false)))
  .skip)
 .skip)
  (.seq (.fr (.nm 2) (.itR1 (.blt .len (.acons (.bor 1) .anil)))
 (.seq (.ifs (.not (.tst (.call 51 (.acons (.idx (.bor 0) (.bor 2)) (.acons (.idx (.bor 1) (.bor 2)) .anil)))))
 (.seq (.ret (.cst (.bl false)))
  .skip)
 .skip)
  .skip))
  (.seq (.ret (.cst (.bl true)))
  .skip))) ⟨[.val x, .val x, .no], dr⟩ ⟨nx, Q, bk, ct⟩ := by
      intro nx bk ct
      have sz := sizeLine_eq
      have fin : ∀ ys : List D, ys.length ≤ 1000 → (∀ d ∈ ys, okQ M d) → (∀ x, x = D.tup ys ∨ x = D.lst ys → True) → True := fun _ _ _ _ => trivial
      rcases hxs with rfl | rfl
      all_goals
        conv => whnf
        refine ⟨_, rfl, fun hd => ?_, fun _ => ?_⟩
        · simp at hd
        conv => whnf
        refine ⟨_, rfl, ⟨by omega, by omega⟩, ?_⟩
        rw [rng0]
        refine for_inv (fun _ ρ => ∃ z, ρ = ⟨[.val _, .val _, z], dr⟩) _ 0 ⟨_, rfl⟩ ?_ ?_
        · rintro i d ρ hi ⟨z, rfl⟩ Nx hN
          rw [List.getElem?_map] at hi
          obtain ⟨k, hk, rfl⟩ := Option.map_eq_some_iff.mp hi
          obtain ⟨hk1, hk2⟩ := List.getElem?_eq_some_iff.mp hk
          have hlt : k < xs.length := by rw [List.getElem_range] at hk2; rw [List.length_range] at hk1; omega
          have hat : atI xs ((k : Nat) : Int) = some xs[k] := atI_nat (by simp [hlt])
          conv => whnf
          refine ⟨_, hat, ?_⟩
          conv => whnf
          refine ⟨_, hat, ?_⟩
          conv => whnf
          rw [h5]
          refine ⟨_, rfl, hd _ (List.getElem_mem hlt), ?_⟩
          conv => whnf
          refine ⟨_, rfl, ?_⟩
          conv => whnf
          refine ⟨_, rfl, ?_⟩
          conv => whnf
          refine ⟨_, rfl, no, fun _ => ?_⟩
          exact hN _ ⟨_, rfl⟩
        · rintro ρ ⟨z, rfl⟩
          conv => whnf
          exact hq
    rcases hxs with rfl | rfl
    · exact ⟨_, rfl, fun _ => ⟨_, rfl, fun _ => body _ _ _, no'⟩, no'⟩
    · refine ⟨_, rfl, no, fun _ => ?_⟩
      conv => whnf
      refine ⟨hy, ?_⟩
      conv => whnf
      refine ⟨_, rfl, ?_⟩
      exact ⟨_, rfl, fun _ => body _ _ _, no'⟩
  match L, hx with
  | 0, hx =>
    cases x with
    | int i => exact scalar _ rfl (show (2 : Int) ≠ 0 by decide) rfl rfl (fun Z hZ => by show Z (decide (i = i)); rw [decide_eq_true rfl]; exact hZ) hq
    | bl i => exact scalar _ rfl (show (1 : Int) ≠ 0 by decide) rfl rfl (fun Z hZ => by show Z (decide (i = i)); rw [decide_eq_true rfl]; exact hZ) hq
    | str i => exact scalar _ rfl (show (3 : Int) ≠ 0 by decide) rfl rfl (fun Z hZ => by show Z (decide (i = i)); rw [decide_eq_true rfl]; exact hZ) hq
    | non => exact scalar _ rfl (show (6 : Int) ≠ 0 by decide) rfl rfl (fun Z hZ => hZ) hq
    | _ => exact hx.elim
  | M + 1, hx =>
    cases x with
    | int i => exact scalar _ rfl (show (2 : Int) ≠ 0 by decide) rfl rfl (fun Z hZ => by show Z (decide (i = i)); rw [decide_eq_true rfl]; exact hZ) hq
    | bl i => exact scalar _ rfl (show (1 : Int) ≠ 0 by decide) rfl rfl (fun Z hZ => by show Z (decide (i = i)); rw [decide_eq_true rfl]; exact hZ) hq
    | str i => exact scalar _ rfl (show (3 : Int) ≠ 0 by decide) rfl rfl (fun Z hZ => by show Z (decide (i = i)); rw [decide_eq_true rfl]; exact hZ) hq
    | non => exact scalar _ rfl (show (6 : Int) ≠ 0 by decide) rfl rfl (fun Z hZ => hZ) hq
    | tup xs => exact seq _ xs M (.inl rfl) (h2 M rfl) hx.1 hx.2 hq
    | lst xs => exact seq _ xs M (.inr rfl) (h2 M rfl) hx.1 hx.2 hq
    | _ => exact hx.elim
/-! ### _law_both -/
def sp_both : Spec := fun ds dr Q _ => ∃ one two : List Nat, ds = [dN one, dN two] ∧ one.length ≤ 1000 ∧ Q (.val (dN (one.filter fun w => decide (w ∈ two)))) dr
theorem both_wp (C : PC) : ∀ ds dr Q, sp_both ds dr Q (fun _ _ => False) → wpF C nm__law_both.length ir__law_both ds dr Q := by
  rintro ds dr Q ⟨one, two, rfl, hz, hq⟩
  show wpF C 3 ir__law_both _ dr Q
  have sz := sizeLine_eq
  conv => whnf
  refine ⟨rfl, ?_⟩
  conv => whnf
  refine ⟨_, rfl, ?_⟩
  refine comp_fm (fun w => decide (w ∈ two)) (fun w => .int (w : Nat)) one [] (by simp; omega) (fun w hw K k1 k2 => ?_) ?_
  · conv => whnf
    refine ⟨⟨rfl, shp_nats two⟩, ?_⟩
    have e1 : ((two.map fun n => D.int (n : Nat)).any fun z => deq z (.int (w : Nat))) = decide (w ∈ two) := any_map deq_nat two w
    refine ⟨_, rfl, fun hd => ?_, fun hd => ?_⟩
    · exact k1 (e1 ▸ hd)
    · exact k2 (e1 ▸ hd)
  · exact hq
/-! ### _law_least -/
theorem lleast_wp (C : PC) : ∀ ds dr Q, sp_least ds dr Q (fun _ _ => False) → wpF C nm__law_least.length ir__law_least ds dr Q := least_wp C
/-! ### _law_random_picks -/
def sp_picks : Spec := fun ds dr Q _ => ∃ ms : List Nat, ds = [.pool, dN ms] ∧ ms ≠ [] ∧ ms.length ≤ 1000 ∧ dr + ms.length + 1 < 2 ^ 40 ∧ ∀ (rs : List Nat) (dr' : Nat), rs ≠ [] → rs.Sublist ms → dr' ≤ dr + ms.length + 1 → Q (.val (dN rs)) dr'
theorem sub_of : ∀ {ms : List Nat} {os : List (Option D)}, os.length = ms.length → (∀ (i : Nat) (m : Nat) (o : Option D), ms[i]? = some m → os[i]? = some o → o = none ∨ o = some (.int (m : Nat))) → ∃ rs : List Nat, rs.Sublist ms ∧ os.filterMap id = rs.map fun n => D.int (n : Nat)
  | [], [], _, _ => ⟨[], List.Sublist.slnil, rfl⟩
  | m :: ms, o :: os, h, hp => by
    obtain ⟨rs, h1, h2⟩ := @sub_of ms os (by simpa using h) fun i m o e1 e2 => hp (i + 1) m o (by simpa using e1) (by simpa using e2)
    rcases hp 0 m o rfl rfl with rfl | rfl
    · exact ⟨rs, h1.cons _, by simpa using h2⟩
    · exact ⟨m :: rs, h1.cons₂ _, by simpa using h2⟩
theorem picks_wp (xe : Nat → Nat → Prop) (sp : Nat → Spec) (h : sp 49 = sp_draw) : ∀ ds dr Q, sp_picks ds dr Q (fun _ _ => False) → wpF ⟨sp, xe⟩ nm__law_random_picks.length ir__law_random_picks ds dr Q := by
  rintro ds dr Q ⟨ms, rfl, hne, hz, hdr, hq⟩
  show wpF ⟨sp, xe⟩ 4 ir__law_random_picks _ dr Q
  have sz := sizeLine_eq
  conv => whnf
  refine ⟨rfl, ?_⟩
  conv => whnf
  refine ⟨_, rfl, ?_⟩
  refine comp_dr 1 (fun d o => o = none ∨ o = some d) _ [] dr (by simp; omega) (fun d hd dr' hle K hK => ?_) (fun os dr' hl hP hle => ?_)
  · rw [List.length_map] at hle
    conv => whnf
    rw [h]
    refine ⟨2, rfl, by decide, by show dr' < _; omega, fun v v0 v1 => ?_⟩
    conv => whnf
    refine ⟨_, rfl, fun _ => ?_, fun _ => ?_⟩
    · obtain ⟨n, _, rfl⟩ := mem_N hd
      exact hK _ _ (Nat.le_refl _) (.inr rfl)
    · exact hK _ _ (Nat.le_refl _) (.inl rfl)
  · rw [List.length_map] at hl hle
    obtain ⟨rs, hs, e⟩ := sub_of (ms := ms) (os := os) hl (fun i m o e1 e2 => hP i (.int (m : Nat)) o (by rw [List.getElem?_map, e1]; rfl) e2)
    have e : [] ++ os.filterMap id = rs.map fun n => D.int (n : Nat) := e
    rw [e]
    conv => whnf
    refine ⟨_, rfl, fun hd => ?_, fun hd => ?_⟩
    · have hp : 0 < ms.length := List.length_pos_iff.mpr hne
      conv => whnf
      rw [h]
      have hl2 : (((ms.map fun n => D.int (n : Nat)).length : Nat) : Int) = (ms.length : Nat) := by rw [List.length_map]
      refine ⟨(ms.length : Nat), congrArg (fun z => [D.pool, .int z]) hl2, by omega, by show dr' < _; omega, fun v v0 v1 => ?_⟩
      obtain ⟨k, rfl⟩ : ∃ k : Nat, v = k := ⟨v.toNat, (Int.toNat_of_nonneg v0).symm⟩
      have hk : k < ms.length := by omega
      conv => whnf
      refine ⟨.int (ms[k] : Nat), atI_nat (by simp [hk]), ?_⟩
      conv => whnf
      refine ⟨(show 1 ≤ sizeLine by decide), ?_⟩
      conv => whnf
      exact hq [ms[k]] (dr' + 1) (by simp) (List.singleton_sublist.mpr (List.getElem_mem hk)) (by omega)
    · refine hq rs dr' (fun e => ?_) hs (by omega)
      subst e
      exact absurd hd (by decide)
end PL
/-! PL28: _law_tidy, _law_ranks. -/
namespace PL
open PySem PySem.Spec PyProof.Rows L2
theorem ded_snoc {α : Type} [DecidableEq α] {a : α} : ∀ {xs ks : List α}, ded ks (xs ++ [a]) = if a ∈ ded ks xs then ded ks xs else ded ks xs ++ [a]
  | [], ks => rfl
  | b :: xs, ks => by
    rw [List.cons_append, ded, ded]
    exact ded_snoc
theorem sortD_dup {α : Type} [DecidableEq α] {f : α → D} {lt : α → α → Bool} (L : Lin lt) (hle : ∀ a b, leB (f a) (f b) = !lt b a) (xs : List α) :
    ∃ ys : List α, sortD (xs.map f) = ys.map f ∧ ys.Perm xs ∧ ys.Pairwise (fun a b => lt b a = false) := by
  refine ⟨xs.mergeSort fun a b => !lt b a, ?_, List.mergeSort_perm .., ?_⟩
  · unfold sortD
    rw [List.map_mergeSort (s := leB)]
    exact fun a _ b _ => (hle a b).symm
  · have h1 := List.pairwise_mergeSort (le := fun a b => !lt b a) (fun a b c h1 h2 => ?_) (fun a b => ?_) xs
    · exact h1.imp fun {a b} h => by simpa using h
    · cases e1 : lt c a with
      | false => rfl
      | true =>
        simp only [Bool.not_eq_true'] at h1 h2
        by_cases e : a = b
        · subst e; rw [h2] at e1; cases e1
        · have z := (L.tot a b e).resolve_right (by rw [h1]; simp)
          rw [L.tr _ _ _ e1 z] at h2; cases h2
    · cases e : lt b a with
      | false => simp
      | true => simp [L.asym e]
theorem ded_asc {α : Type} [DecidableEq α] {lt : α → α → Bool} (L : Lin lt) : ∀ {xs ks : List α}, xs.Pairwise (fun a b => lt b a = false) → ks.Pairwise (fun a b => lt a b = true) → (∀ k ∈ ks, ∀ x ∈ xs, lt x k = false) → (ded ks xs).Pairwise (fun a b => lt a b = true)
  | [], ks, _, h, _ => h
  | a :: xs, ks, h1, h2, h3 => by
    obtain ⟨g1, g2⟩ := List.pairwise_cons.mp h1
    rw [ded]
    by_cases ha : a ∈ ks
    · rw [if_pos ha]
      exact ded_asc L g2 h2 fun k hk x hx => h3 k hk x (List.mem_cons_of_mem _ hx)
    · rw [if_neg ha]
      refine ded_asc L g2 ?_ ?_
      · rw [List.pairwise_append]
        refine ⟨h2, List.pairwise_singleton .., fun k hk b hb => ?_⟩
        rw [List.mem_singleton.mp hb]
        rcases L.tot k a (fun e => ha (e ▸ hk)) with z | z
        · exact z
        · rw [h3 k hk a (List.mem_cons_self ..)] at z; cases z
      · intro k hk x hx
        rcases List.mem_append.mp hk with z | z
        · exact h3 k z x (List.mem_cons_of_mem _ hx)
        · rw [List.mem_singleton.mp z]; exact g1 x hx
def ltI (a b : Int) : Bool := decide (a < b)
def tidy (xs : List Int) : List Nat := xs.map (below ltI (ded [] xs))
theorem tidy_len (xs : List Int) : (tidy xs).length = xs.length := List.length_map ..
def sp_tidy : Spec := fun ds dr Q _ => ∃ xs : List Int, ds = [.lst (xs.map .int)] ∧ xs.length ≤ 1000 ∧ Q (.val (dN (tidy xs))) dr
theorem sortable_I (xs : List Int) : sortable (xs.map .int) := by
  refine ⟨fun x hx => ?_, fun x hx y hy => ?_⟩
  · obtain ⟨i, _, rfl⟩ := List.mem_map.mp hx
    exact ⟨rfl, by simp [D.py]⟩
  · obtain ⟨i, _, rfl⟩ := List.mem_map.mp hx
    obtain ⟨j, _, rfl⟩ := List.mem_map.mp hy
    simp [D.py, PySem.W.alike]
theorem shp_ints (xs : List Int) : shp (.lst (xs.map .int)) = true := shp_lst fun x hx => by
  obtain ⟨n, _, rfl⟩ := List.mem_map.mp hx
  exact lay_int _
theorem tidy_wp (C : PC) : ∀ ds dr Q, sp_tidy ds dr Q (fun _ _ => False) → wpF C nm__law_tidy.length ir__law_tidy ds dr Q := by
  rintro ds dr Q ⟨xs, rfl, hz, hq⟩
  show wpF C 3 ir__law_tidy _ dr Q
  have sz := sizeLine_eq
  obtain ⟨ys, e1, e2, e3⟩ := sortD_dup (f := D.int) (lt := ltI) linI (fun a b => leB_int a b) xs
  conv => whnf
  refine ⟨Nat.zero_le _, ?_⟩
  conv => whnf
  refine ⟨sortable_I xs, ?_⟩
  conv => whnf
  refine ⟨_, rfl, ?_⟩
  rw [e1]
  refine for_inv (fun i ρ => ∃ z : SV, (z = .no ∨ ∃ d, z = .val d) ∧ ρ = ⟨[.val (.lst (xs.map .int)), .own ((ded [] (ys.take i)).map .int), z], dr⟩) _ 0 ⟨_, .inl rfl, rfl⟩ ?_ ?_
  · rintro i d ρ hi ⟨z, _, rfl⟩ Nx hN
    rw [List.getElem?_map] at hi
    obtain ⟨a, ha, rfl⟩ := Option.map_eq_some_iff.mp hi
    have hx : ys.take (0 + i + 1) = ys.take (0 + i) ++ [a] := by rw [List.take_add_one, Nat.zero_add, ha]; rfl
    have st : ded [] (ys.take (0 + i + 1)) = _ := (congrArg (ded []) hx).trans ded_snoc
    conv => whnf
    refine ⟨⟨rfl, shp_ints _⟩, ?_⟩
    have e4 : (((ded [] (ys.take (0 + i))).map D.int).any fun z => deq z (.int a)) = decide (a ∈ ded [] (ys.take (0 + i))) := any_map deq_int _ a
    refine ⟨_, rfl, fun hd => ?_, fun hd => ?_⟩
    · have hd : (!(((ded [] (ys.take (0 + i))).map D.int).any fun z => deq z (.int a))) = true := hd
      rw [e4] at hd
      have hd : ¬ a ∈ ded [] (ys.take (0 + i)) := by simpa using hd
      conv => whnf
      refine ⟨rfl, ?_⟩
      conv => whnf
      refine ⟨_, rfl, ?_, ?_⟩
      · have l1 := @ded_len Int _ (ys.take (0 + i)) []
        have l2 := e2.length_eq
        have l3 : (ys.take (0 + i)).length ≤ ys.length := by rw [List.length_take]; omega
        rw [List.length_map]
        have l1 : (ded [] (ys.take (0 + i))).length ≤ 0 + (ys.take (0 + i)).length := l1
        omega
      · rw [if_neg hd] at st
        refine hN _ ⟨.val (.int a), .inr ⟨_, rfl⟩, ?_⟩
        rw [st, List.map_append]
        rfl
    · have hd : (!(((ded [] (ys.take (0 + i))).map D.int).any fun z => deq z (.int a))) = false := hd
      rw [e4] at hd
      have hd : a ∈ ded [] (ys.take (0 + i)) := by simpa using hd
      rw [if_pos hd] at st
      refine hN _ ⟨.val (.int a), .inr ⟨_, rfl⟩, ?_⟩
      rw [st]
      rfl
  · rintro ρ ⟨z, hz2, rfl⟩
    rw [List.length_map, Nat.zero_add, List.take_length]
    have asc := ded_asc linI e3 List.Pairwise.nil (fun k hk => by simp at hk)
    conv => whnf
    refine ⟨by rcases hz2 with rfl | ⟨d, rfl⟩ <;> rfl, ?_⟩
    conv => whnf
    refine ⟨_, rfl, ?_⟩
    refine comp_mp (fun p => .int (below ltI (ded [] xs) p : Nat)) xs (by omega) (fun p hp K hK => ?_) ?_
    · conv => whnf
      refine ⟨_, rfl, fun _ => ?_, fun h => (by cases h)⟩
      conv => whnf
      refine ⟨rfl, ?_⟩
      conv => whnf
      refine ⟨⟨rfl, shp_ints _⟩, below ltI (ded [] xs) p, ?_, hK⟩
      show idxOfD ((ded [] ys).map D.int) (.int p) = _
      have pm : (ded [] ys).Perm (ded [] xs) := (List.perm_ext_iff_of_nodup (nodup_ded List.nodup_nil) (nodup_ded List.nodup_nil)).mpr fun a => by
        rw [mem_ded, mem_ded, e2.mem_iff]
      rw [idx_map deq_int, idx_below linI asc (mem_ded.mpr (.inr (e2.mem_iff.mpr hp))), ← below_perm pm]
      rfl
    · show Q (.val (.tup (xs.map fun p => D.int (below ltI (ded [] xs) p : Nat)))) dr
      have : dN (tidy xs) = .tup (xs.map fun p => D.int (below ltI (ded [] xs) p : Nat)) := by unfold dN tidy; rw [List.map_map]; rfl
      rw [← this]; exact hq
/-! ### _law_ranks -/
def sp_ranks : Spec := fun ds dr Q _ => ∃ n : Nat, ds = [.pool, .int (n : Nat)] ∧ 0 < n ∧ n ≤ 1000 ∧ dr + n < 2 ^ 40 ∧ ∀ (xs : List Int) (dr' : Nat), xs.length = n → dr' ≤ dr + n → Q (.val (dN (tidy xs))) dr'
theorem ints_of : ∀ {os : List (Option D)}, (∀ o ∈ os, ∃ v : Int, o = some (.int v)) → ∃ xs : List Int, xs.length = os.length ∧ os.filterMap id = xs.map .int
  | [], _ => ⟨[], rfl, rfl⟩
  | o :: os, h => by
    obtain ⟨v, rfl⟩ := h o (List.mem_cons_self ..)
    obtain ⟨xs, h1, h2⟩ := @ints_of os fun o ho => h o (List.mem_cons_of_mem _ ho)
    exact ⟨v :: xs, by simp [h1], by simp [h2]⟩
theorem ranks_wp (xe : Nat → Nat → Prop) (sp : Nat → Spec) (h : sp 49 = sp_draw) (h2 : sp 199 = sp_tidy) : ∀ ds dr Q, sp_ranks ds dr Q (fun _ _ => False) → wpF ⟨sp, xe⟩ nm__law_ranks.length ir__law_ranks ds dr Q := by
  rintro ds dr Q ⟨n, rfl, hn, hz, hdr, hq⟩
  show wpF ⟨sp, xe⟩ 3 ir__law_ranks _ dr Q
  have sz := sizeLine_eq
  conv => whnf
  refine ⟨rfl, ?_⟩
  conv => whnf
  refine ⟨_, rfl, ⟨by omega, by omega⟩, ?_⟩
  have hlen : (rngL 0 (n : Nat)).length = n := by rw [rng0]; simp
  refine comp_dr 1 (fun d o => ∃ v : Int, o = some (.int v)) _ [] dr (by rw [hlen]; simp; omega) (fun d hd dr' hle K hK => ?_) (fun os dr' hl hP hle => ?_)
  · rw [hlen] at hle
    conv => whnf
    refine ⟨_, rfl, fun _ => ?_, fun h => (by cases h)⟩
    conv => whnf
    rw [h]
    exact ⟨n, rfl, by omega, by show dr' < _; omega, fun v v0 v1 => hK _ _ (Nat.le_refl _) ⟨v, rfl⟩⟩
  · rw [hlen] at hl hle
    obtain ⟨xs, l1, l2⟩ := ints_of (os := os) fun o ho => by
      obtain ⟨i, hi, rfl⟩ := List.getElem_of_mem ho
      have hd : i < (rngL 0 (n : Nat)).length := by rw [hlen]; omega
      exact hP i (rngL 0 (n : Nat))[i] os[i] (by simp [hd]) (by simp [hi])
    have l2 : [] ++ os.filterMap id = xs.map .int := l2
    rw [l2]
    conv => whnf
    rw [h2]
    exact ⟨xs, rfl, by omega, hq xs dr' (by omega) (by omega)⟩
end PL
/-! PL29: k82: the plain law. -/
namespace PL
open PySem PySem.Spec PyProof.Rows L2
/-! ### the least -/
theorem foldl_min (l : List Int) : ∀ a : Int, l.foldl min a ≤ a ∧ (∀ x ∈ l, l.foldl min a ≤ x) ∧ (l.foldl min a = a ∨ l.foldl min a ∈ l) := by
  induction l with
  | nil => intro a; simp
  | cons b l ih =>
    intro a
    obtain ⟨h1, h2, h3⟩ := ih (min a b)
    simp only [List.foldl_cons, List.mem_cons]
    refine ⟨by omega, fun x hx => ?_, ?_⟩
    · rcases hx with rfl | hx
      · omega
      · exact h2 x hx
    · rcases h3 with h3 | h3
      · rw [h3]
        by_cases z : a ≤ b
        · left; omega
        · right; left; omega
      · right; right; exact h3
theorem minL_le {l : List Int} {x : Int} (h : x ∈ l) : minL l ≤ x := by
  cases l with
  | nil => simp at h
  | cons a l =>
    obtain ⟨h1, h2, _⟩ := foldl_min l a
    rcases List.mem_cons.mp h with rfl | h
    · exact h1
    · exact h2 x h
theorem minL_mem {l : List Int} (h : l ≠ []) : minL l ∈ l := by
  cases l with
  | nil => exact absurd rfl h
  | cons a l =>
    obtain ⟨_, _, h3⟩ := foldl_min l a
    rcases h3 with h3 | h3
    · exact List.mem_cons.mpr (.inl h3)
    · exact List.mem_cons.mpr (.inr h3)
theorem mem_least {rk : List Int} {mn : List Nat} {w : Nat} : w ∈ leastOf rk mn ↔ w ∈ mn ∧ ∀ v ∈ mn, rk.getD w 0 ≤ rk.getD v 0 := by
  unfold leastOf
  rw [List.mem_filter, decide_eq_true_eq]
  constructor
  · rintro ⟨h1, h2⟩
    exact ⟨h1, fun v hv => by rw [h2]; exact minL_le (List.mem_map.mpr ⟨v, hv, rfl⟩)⟩
  · rintro ⟨h1, h2⟩
    refine ⟨h1, ?_⟩
    have l1 : minL (mn.map fun w => rk.getD w 0) ≤ rk.getD w 0 := minL_le (List.mem_map.mpr ⟨w, h1, rfl⟩)
    obtain ⟨v, hv, e⟩ := List.mem_map.mp (minL_mem (l := mn.map fun w => rk.getD w 0) (by intro z; rw [List.map_eq_nil_iff] at z; subst z; simp at h1))
    have := h2 v hv
    omega
theorem least_ne {rk : List Int} {mn : List Nat} (h : mn ≠ []) : ∃ w, w ∈ leastOf rk mn := by
  obtain ⟨v, hv, e⟩ := List.mem_map.mp (minL_mem (l := mn.map fun w => rk.getD w 0) (by simpa using h))
  exact ⟨v, mem_least.mpr ⟨hv, fun u hu => by have := minL_le (List.mem_map.mpr ⟨u, hu, rfl⟩ : rk.getD u 0 ∈ mn.map fun w => rk.getD w 0); omega⟩⟩
/-! ### lists that go up -/
def Asc (xs : List Nat) : Prop := xs.Pairwise (· < ·)
theorem asc_ext : ∀ {a b : List Nat}, Asc a → Asc b → (∀ x, x ∈ a ↔ x ∈ b) → a = b
  | [], [], _, _, _ => rfl
  | [], y :: b, _, _, h => by have := (h y).mpr (List.mem_cons_self ..); simp at this
  | x :: a, [], _, _, h => by have := (h x).mp (List.mem_cons_self ..); simp at this
  | x :: a, y :: b, ha, hb, h => by
    obtain ⟨a1, a2⟩ := List.pairwise_cons.mp ha
    obtain ⟨b1, b2⟩ := List.pairwise_cons.mp hb
    have e : x = y := by
      rcases List.mem_cons.mp ((h x).mp (List.mem_cons_self ..)) with z | z
      · exact z
      · rcases List.mem_cons.mp ((h y).mpr (List.mem_cons_self ..)) with z2 | z2
        · exact z2.symm
        · have := a1 y z2; have := b1 x z; omega
    subst e
    congr 1
    refine asc_ext a2 b2 fun z => ⟨fun hz => ?_, fun hz => ?_⟩
    · rcases List.mem_cons.mp ((h z).mp (List.mem_cons_of_mem _ hz)) with e | e
      · subst e; have := a1 z hz; omega
      · exact e
    · rcases List.mem_cons.mp ((h z).mpr (List.mem_cons_of_mem _ hz)) with e | e
      · subst e; have := b1 z hz; omega
      · exact e
theorem asc_filter {xs : List Nat} (p : Nat → Bool) (h : Asc xs) : Asc (xs.filter p) := h.sublist List.filter_sublist
theorem asc_sub {xs ys : List Nat} (h : xs.Sublist ys) (a : Asc ys) : Asc xs := a.sublist h
theorem asc_least {rk : List Int} {mn : List Nat} (h : Asc mn) : Asc (leastOf rk mn) := asc_filter _ h
theorem asc_range (n : Nat) : Asc (List.range n) := List.pairwise_lt_range
/-! ### what the moved ranks put in order -/
theorem getD_cast {xs : List Nat} {i : Nat} : (castL xs).getD i 0 = ((xs.getD i 0 : Nat) : Int) := by
  unfold castL
  rw [List.getD_eq_getElem?_getD, List.getD_eq_getElem?_getD, List.getElem?_map]
  cases xs[i]? <;> rfl
theorem moved_le {m : Nat} {rk : List Int} {mn : List Nat} {u v : Nat} (hu : u < rk.length) (hv : v < rk.length) :
    (castL (movedL m rk mn)).getD u 0 ≤ (castL (movedL m rk mn)).getD v 0 ↔ ltPP (keyOf m rk mn v) (keyOf m rk mn u) = false := by
  have g : ∀ {i}, i < rk.length → (movedL m rk mn).getD i 0 = below ltPP (ded [] (keysOf m rk mn)) (keyOf m rk mn i) := fun {i} hi => by
    unfold movedL keysOf plc
    rw [List.getD_eq_getElem?_getD, List.getElem?_map, List.getElem?_map, List.getElem?_range hi]
    rfl
  have mem : ∀ {i}, i < rk.length → keyOf m rk mn i ∈ ded [] (keysOf m rk mn) := fun {i} hi => mem_ded.mpr (.inr (List.mem_map.mpr ⟨i, List.mem_range.mpr hi, rfl⟩))
  rw [getD_cast, getD_cast, g hu, g hv]
  have := below_lt linP (nodup_ded (xs := keysOf m rk mn) List.nodup_nil) (mem hv) (mem hu)
  rw [Bool.eq_false_iff, ne_eq, ← this]
  omega
theorem mem_moved {m : Nat} {rk : List Int} {mn two : List Nat} {w : Nat} (h : ∀ v ∈ two, v < rk.length) :
    w ∈ leastOf (castL (movedL m rk mn)) two ↔ w ∈ two ∧ ∀ v ∈ two, ltPP (keyOf m rk mn v) (keyOf m rk mn w) = false := by
  rw [mem_least]
  constructor
  · rintro ⟨h1, h2⟩
    exact ⟨h1, fun v hv => (moved_le (h w h1) (h v hv)).mp (h2 v hv)⟩
  · rintro ⟨h1, h2⟩
    exact ⟨h1, fun v hv => (moved_le (h w h1) (h v hv)).mpr (h2 v hv)⟩
/-! ### what is due -/
def andL (one two : List Nat) : List Nat := one.filter fun w => decide (w ∈ two)
theorem mem_and {one two : List Nat} {w : Nat} : w ∈ andL one two ↔ w ∈ one ∧ w ∈ two := by
  unfold andL; rw [List.mem_filter, decide_eq_true_eq]
def due82 (m : Nat) (rk : List Int) (one two : List Nat) : List Nat :=
  let plain := leastOf rk two
  let first := andL (leastOf rk one) two
  if m = 1 then (if 0 < (andL one two).length then leastOf rk (andL one two) else plain)
  else if 0 < first.length then first
  else if m = 0 then plain
  else if 0 < (andL plain one).length then andL plain one else plain
theorem pos_iff {xs : List Nat} : 0 < xs.length ↔ ∃ x, x ∈ xs := by
  rw [List.length_pos_iff_exists_mem]
theorem asc_due {m : Nat} {rk : List Int} {one two : List Nat} (h1 : Asc one) (h2 : Asc two) : Asc (due82 m rk one two) := by
  unfold due82 andL
  simp only
  repeat' split
  all_goals first
    | exact asc_least (asc_filter _ h1)
    | exact asc_least h2
    | exact asc_filter _ (asc_least h1)
    | exact asc_filter _ (asc_least h2)
theorem lt_iff {p q : Int × Int} : ltPP p q = false ↔ ¬ (p.1 < q.1 ∨ (p.1 = q.1 ∧ p.2 < q.2)) := by
  unfold ltPP
  rw [decide_eq_false_iff_not]
theorem plain82 {m : Nat} {rk : List Int} {one two : List Nat} (hm : m < 3) (hr : ∀ w, 0 ≤ rk.getD w 0) (a1 : Asc one) (a2 : Asc two) (n1 : one ≠ []) (n2 : two ≠ []) (l2 : ∀ v ∈ two, v < rk.length) :
    leastOf (castL (movedL m rk one)) two = due82 m rk one two := by
  refine asc_ext (asc_least a2) (asc_due a1 a2) fun w => ?_
  rw [mem_moved l2]
  obtain ⟨p0, hp0⟩ := least_ne (rk := rk) n2
  obtain ⟨hp1, hp2⟩ := mem_least.mp hp0
  by_cases m1 : m = 1
  · subst m1
    unfold due82
    simp only [if_pos]
    have kf : ∀ v, keyOf 1 rk one v = (if v ∈ one then 0 else 1, rk.getD v 0) := fun v => rfl
    by_cases hb : 0 < (andL one two).length
    · rw [if_pos hb, mem_least]
      obtain ⟨b, hbm⟩ := pos_iff.mp hb
      obtain ⟨hb1, hb2⟩ := mem_and.mp hbm
      constructor
      · rintro ⟨h1, h2⟩
        have w1 : w ∈ one := by
          have := lt_iff.mp (h2 b hb2)
          rw [kf, kf, if_pos hb1] at this
          by_cases z : w ∈ one
          · exact z
          · rw [if_neg z] at this
            exact absurd (.inl (by show (0 : Int) < 1; omega)) this
        refine ⟨mem_and.mpr ⟨w1, h1⟩, fun v hv => ?_⟩
        obtain ⟨v1, v2⟩ := mem_and.mp hv
        have := lt_iff.mp (h2 v v2)
        rw [kf, kf, if_pos w1, if_pos v1] at this
        simp only [true_and] at this
        omega
      · rintro ⟨h1, h2⟩
        obtain ⟨w1, w2⟩ := mem_and.mp h1
        refine ⟨w2, fun v hv => lt_iff.mpr ?_⟩
        rw [kf, kf, if_pos w1]
        by_cases z : v ∈ one
        · have := h2 v (mem_and.mpr ⟨z, hv⟩)
          rw [if_pos z]
          simp only
          omega
        · rw [if_neg z]
          simp only
          omega
    · rw [if_neg hb, mem_least]
      have no : ∀ v ∈ two, v ∉ one := fun v hv hv1 => hb (pos_iff.mpr ⟨v, mem_and.mpr ⟨hv1, hv⟩⟩)
      constructor
      · rintro ⟨h1, h2⟩
        refine ⟨h1, fun v hv => ?_⟩
        have := lt_iff.mp (h2 v hv)
        rw [kf, kf, if_neg (no v hv), if_neg (no w h1)] at this
        simp only [true_and] at this
        omega
      · rintro ⟨h1, h2⟩
        refine ⟨h1, fun v hv => lt_iff.mpr ?_⟩
        have := h2 v hv
        rw [kf, kf, if_neg (no v hv), if_neg (no w h1)]
        simp only
        omega
  · have kf : ∀ v, keyOf m rk one v = if v ∈ leastOf rk one then (-1, 0) else (rk.getD v 0, if m = 0 then 0 else if v ∈ one then 0 else 1) := fun v => by
      unfold keyOf
      rw [if_neg m1]
      split
      · rfl
      · split <;> rfl
    unfold due82
    simp only [if_neg m1]
    by_cases hf : 0 < (andL (leastOf rk one) two).length
    · rw [if_pos hf, mem_and]
      obtain ⟨b, hbm⟩ := pos_iff.mp hf
      obtain ⟨hb1, hb2⟩ := mem_and.mp hbm
      constructor
      · rintro ⟨h1, h2⟩
        refine ⟨?_, h1⟩
        have := lt_iff.mp (h2 b hb2)
        rw [kf, kf, if_pos hb1] at this
        by_cases z : w ∈ leastOf rk one
        · exact z
        · rw [if_neg z] at this
          have := hr w
          simp only [true_and] at *
          omega
      · rintro ⟨h1, h2⟩
        refine ⟨h2, fun v hv => lt_iff.mpr ?_⟩
        rw [kf, kf, if_pos h1]
        have := hr v
        split <;> simp only <;> omega
    · rw [if_neg hf]
      have no : ∀ v ∈ two, v ∉ leastOf rk one := fun v hv hv1 => hf (pos_iff.mpr ⟨v, mem_and.mpr ⟨hv1, hv⟩⟩)
      by_cases m0 : m = 0
      · rw [if_pos m0, mem_least]
        subst m0
        constructor
        · rintro ⟨h1, h2⟩
          refine ⟨h1, fun v hv => ?_⟩
          have := lt_iff.mp (h2 v hv)
          rw [kf, kf, if_neg (no v hv), if_neg (no w h1)] at this
          simp only [true_and] at this
          omega
        · rintro ⟨h1, h2⟩
          refine ⟨h1, fun v hv => lt_iff.mpr ?_⟩
          have := h2 v hv
          rw [kf, kf, if_neg (no v hv), if_neg (no w h1)]
          simp only [ite_true, Int.lt_irrefl, and_false, or_false]
          omega
      · rw [if_neg m0]
        simp only [if_neg m0] at kf
        by_cases hp : 0 < (andL (leastOf rk two) one).length
        · rw [if_pos hp, mem_and, mem_least]
          obtain ⟨b, hbm⟩ := pos_iff.mp hp
          obtain ⟨hb1, hb2⟩ := mem_and.mp hbm
          obtain ⟨hb3, hb4⟩ := mem_least.mp hb1
          constructor
          · rintro ⟨h1, h2⟩
            have ww : w ∈ one := by
              have g1 := lt_iff.mp (h2 b hb3)
              have g2 := hb4 w h1
              rw [kf, kf, if_neg (no b hb3), if_neg (no w h1), if_pos hb2] at g1
              by_cases z : w ∈ one
              · exact z
              · rw [if_neg z] at g1
                simp only [true_and] at g1
                omega
            refine ⟨⟨h1, fun v hv => ?_⟩, ww⟩
            have := lt_iff.mp (h2 v hv)
            rw [kf, kf, if_neg (no v hv), if_neg (no w h1), if_pos ww] at this
            split at this <;> simp only [true_and] at this <;> omega
          · rintro ⟨⟨h1, h2⟩, h3⟩
            refine ⟨h1, fun v hv => lt_iff.mpr ?_⟩
            have := h2 v hv
            rw [kf, kf, if_neg (no v hv), if_neg (no w h1), if_pos h3]
            split <;> simp only <;> omega
        · rw [if_neg hp, mem_least]
          have np : ∀ v ∈ leastOf rk two, v ∉ one := fun v hv hv1 => hp (pos_iff.mpr ⟨v, mem_and.mpr ⟨hv, hv1⟩⟩)
          constructor
          · rintro ⟨h1, h2⟩
            refine ⟨h1, fun v hv => ?_⟩
            have := lt_iff.mp (h2 v hv)
            rw [kf, kf, if_neg (no v hv), if_neg (no w h1)] at this
            simp only [true_and] at this
            omega
          · rintro ⟨h1, h2⟩
            have ww := np w (mem_least.mpr ⟨h1, h2⟩)
            refine ⟨h1, fun v hv => lt_iff.mpr ?_⟩
            have := h2 v hv
            rw [kf, kf, if_neg (no v hv), if_neg (no w h1), if_neg ww]
            simp only
            by_cases z : rk.getD v 0 = rk.getD w 0
            · have vv := np v (mem_least.mpr ⟨hv, fun u hu => by rw [z]; exact h2 u hu⟩)
              rw [if_neg vv]
              omega
            · omega
theorem again82 {m : Nat} {rk : List Int} {two : List Nat} (hr : ∀ w, 0 ≤ rk.getD w 0) (a2 : Asc two) (n2 : two ≠ []) (l2 : ∀ v ∈ two, v < rk.length) :
    leastOf (castL (movedL m rk two)) (List.range rk.length) = leastOf rk two := by
  refine asc_ext (asc_least (asc_range _)) (asc_least a2) fun w => ?_
  rw [mem_moved (fun v hv => List.mem_range.mp hv)]
  obtain ⟨p0, hp0⟩ := least_ne (rk := rk) n2
  obtain ⟨hp1, hp2⟩ := mem_least.mp hp0
  have pr := List.mem_range.mpr (l2 p0 hp1)
  by_cases m1 : m = 1
  · subst m1
    have kf : ∀ v, keyOf 1 rk two v = (if v ∈ two then 0 else 1, rk.getD v 0) := fun v => rfl
    rw [mem_least]
    constructor
    · rintro ⟨h1, h2⟩
      have ww : w ∈ two := by
        have := lt_iff.mp (h2 p0 pr)
        rw [kf, kf, if_pos hp1] at this
        by_cases z : w ∈ two
        · exact z
        · rw [if_neg z] at this
          simp only [true_and] at this
          omega
      refine ⟨ww, fun v hv => ?_⟩
      have := lt_iff.mp (h2 v (List.mem_range.mpr (l2 v hv)))
      rw [kf, kf, if_pos hv, if_pos ww] at this
      simp only [true_and] at this
      omega
    · rintro ⟨h1, h2⟩
      refine ⟨List.mem_range.mpr (l2 w h1), fun v hv => lt_iff.mpr ?_⟩
      rw [kf, kf, if_pos h1]
      by_cases z : v ∈ two
      · have := h2 v z
        rw [if_pos z]
        simp only
        omega
      · rw [if_neg z]
        simp only
        omega
  · have kf : ∀ v, keyOf m rk two v = if v ∈ leastOf rk two then (-1, 0) else (rk.getD v 0, if m = 0 then 0 else if v ∈ two then 0 else 1) := fun v => by
      unfold keyOf
      rw [if_neg m1]
      split
      · rfl
      · split <;> rfl
    constructor
    · rintro ⟨h1, h2⟩
      have := lt_iff.mp (h2 p0 pr)
      rw [kf, kf, if_pos hp0] at this
      by_cases z : w ∈ leastOf rk two
      · exact z
      · rw [if_neg z] at this
        have := hr w
        simp only [true_and] at *
        omega
    · intro h
      refine ⟨List.mem_range.mpr (l2 w (mem_least.mp h).1), fun v hv => lt_iff.mpr ?_⟩
      rw [kf, kf, if_pos h]
      have := hr v
      split <;> simp only <;> omega
end PL
/-! PL30: k82: the law's body. -/
namespace PL
open PySem PySem.Spec PyProof.Rows L2
def ir_in82 : IS :=
 (.seq (.ifs (.not (.tst (.call 51 (.acons (.call 535 (.acons (.call 572 (.acons (.idx (.bor 11) (.bor 12)) (.acons (.var 4) (.acons (.var 5) .anil)))) (.acons (.var 6) .anil))) (.acons (.idx (.bor 10) (.bor 12)) .anil)))))
 (.seq (.ret (.cst (.bl false)))
  .skip)
 .skip)
  (.seq (.asg (.nm 13) (.call 573 (.acons (.idx (.bor 11) (.bor 12)) (.acons (.var 4) (.acons (.lst (.acons (.var 5) (.acons (.var 6) .anil))) .anil)))))
  (.seq (.ifs (.not (.tst (.call 51 (.acons (.call 535 (.acons (.var 13) (.acons (.blt .tuple (.acons (.blt .range (.acons (.bor 3) .anil)) .anil)) .anil))) (.acons (.idx (.bor 10) (.bor 12)) .anil)))))
 (.seq (.ret (.cst (.bl false)))
  .skip)
 .skip)
  .skip)))
def ir_tail82 : IS :=
  (.seq (.asg (.nm 11) (.lst (.acons (.cst (.str "natural")) (.acons (.cst (.str "lexic")) (.acons (.cst (.str "restrained")) .anil)))))
  (.seq (.fr (.nm 12) (.itR1 (.cst (.int 3))) ir_in82)
  .skip))
def ir_three82 : IS :=
  (.seq (.ifs (.cmp .gt (.blt .len (.acons (.bor 8) .anil)) (.cst (.int 0)))
 (.seq (.asgS 10 (.cst (.int 0)) (.var 8))
  (.seq (.asgS 10 (.cst (.int 2)) (.var 8))
  .skip))
 .skip)
  ir_tail82)
def ir_two82 : IS :=
  (.seq (.ifs (.cmp .gt (.blt .len (.acons (.call 27 (.acons (.var 9) (.acons (.var 5) .anil))) .anil)) (.cst (.int 0)))
 (.seq (.asgS 10 (.cst (.int 2)) (.call 27 (.acons (.var 9) (.acons (.var 5) .anil))))
  .skip)
 .skip)
  ir_three82)
def ir_turn82 : IS :=
 (.seq (.asg (.nm 3) (.bin .add (.cst (.int 1)) (.call 49 (.acons (.var 1) (.acons (.cst (.int 5)) .anil)))))
  (.seq (.asg (.nm 4) (.call 152 (.acons (.var 1) (.acons (.var 3) .anil))))
  (.seq (.asg (.nm 5) (.call 149 (.acons (.var 1) (.acons (.blt .tuple (.acons (.blt .range (.acons (.bor 3) .anil)) .anil)) .anil))))
  (.seq (.asg (.nm 6) (.call 149 (.acons (.var 1) (.acons (.blt .tuple (.acons (.blt .range (.acons (.bor 3) .anil)) .anil)) .anil))))
  (.seq (.asg (.nm 7) (.call 27 (.acons (.var 5) (.acons (.var 6) .anil))))
  (.seq (.asg (.nm 8) (.call 27 (.acons (.call 91 (.acons (.var 4) (.acons (.var 5) .anil))) (.acons (.var 6) .anil))))
  (.seq (.asg (.nm 9) (.call 91 (.acons (.var 4) (.acons (.var 6) .anil))))
  (.seq (.asg (.nm 10) (.lst (.acons (.var 9) (.acons (.var 9) (.acons (.var 9) .anil)))))
  (.seq (.ifs (.cmp .gt (.blt .len (.acons (.bor 7) .anil)) (.cst (.int 0)))
 (.seq (.asgS 10 (.cst (.int 1)) (.call 91 (.acons (.var 4) (.acons (.var 7) .anil))))
  .skip)
 .skip)
  ir_two82)))))))))
def ir_law82 : IS :=
  (.seq (.fr (.nm 2) (.itR1 (.cst (.int 4))) ir_turn82)
  (.seq (.ret (.cst (.bl true)))
  .skip))
structure Sps82 (sp : Nat → Spec) : Prop where
  draw : sp 49 = sp_draw
  ranks : sp 152 = sp_ranks
  picks : sp 149 = sp_picks
  both : sp 27 = sp_both
  lleast : sp 91 = sp_least
  equal : sp 51 = sp_equal 1
  least : sp 535 = sp_least
  moved : sp 572 = sp_moved
  moved2 : sp 573 = sp_moved2
theorem okQ_N (xs : List Nat) (h : xs.length ≤ 1000) : okQ 1 (dN xs) := ⟨by rw [List.length_map]; exact h, fun d hd => by
  obtain ⟨n, _, rfl⟩ := mem_N hd
  trivial⟩
theorem tail82 {sp : Nat → Spec} (S : Sps82 sp) (xe : Nat → Nat → Prop) {rk one two : List Nat} {n dr : Nat} {z0 z2 z7 z8 z9 z11 z12 z13 : SV} {E : PEnds} (hn : n = rk.length) (hn5 : n ≤ 1000) (s1 : one.Sublist (List.range n)) (s2 : two.Sublist (List.range n)) (n1 : one ≠ []) (n2 : two ≠ [])
    (hE : ∀ z11 z12 z13, E.nx ⟨[z0, .val .pool, z2, .val (.int (n : Nat)), .val (dN rk), .val (dN one), .val (dN two), z7, z8, z9, .own [dN (due82 0 (castL rk) one two), dN (due82 1 (castL rk) one two), dN (due82 2 (castL rk) one two)], z11, z12, z13], dr⟩) :
    wpS ⟨sp, xe⟩ ir_tail82 ⟨[z0, .val .pool, z2, .val (.int (n : Nat)), .val (dN rk), .val (dN one), .val (dN two), z7, z8, z9, .own [dN (due82 0 (castL rk) one two), dN (due82 1 (castL rk) one two), dN (due82 2 (castL rk) one two)], z11, z12, z13], dr⟩ E := by
  have no : ∀ {A : Prop}, (false = true → A) := fun h => (by cases h)
  have no' : ∀ {A : Prop}, (true = false → A) := fun h => (by cases h)
  have a1 : Asc one := asc_sub s1 (asc_range n)
  have a2 : Asc two := asc_sub s2 (asc_range n)
  have hl : (castL rk).length = n := by unfold castL; rw [List.length_map, hn]
  have l1 : ∀ v ∈ one, v < (castL rk).length := fun v hv => by rw [hl]; exact List.mem_range.mp (s1.subset hv)
  have l2 : ∀ v ∈ two, v < (castL rk).length := fun v hv => by rw [hl]; exact List.mem_range.mp (s2.subset hv)
  have y1 : one.length ≤ 1000 := by have := s1.length_le; rw [List.length_range] at this; omega
  have y2 : two.length ≤ 1000 := by have := s2.length_le; rw [List.length_range] at this; omega
  have hr : ∀ w, 0 ≤ (castL rk).getD w 0 := fun w => by rw [getD_cast]; exact Int.natCast_nonneg _
  have due : ∀ m < 3, leastOf (castL (movedL m (castL rk) one)) two = due82 m (castL rk) one two := fun m hm => plain82 hm hr a1 a2 n1 n2 l2
  have due2 : ∀ m < 3, leastOf (castL (movedL m (castL (movedL m (castL rk) one)) two)) (List.range n) = due82 m (castL rk) one two := fun m hm => by
    have hl2 : (castL (movedL m (castL rk) one)).length = n := by unfold castL; rw [List.length_map, movedL_len]; exact hl
    have := again82 (m := m) (rk := castL (movedL m (castL rk) one)) (two := two) (fun w => by rw [getD_cast]; exact Int.natCast_nonneg _) a2 n2 (fun v hv => by rw [hl2, ← hl]; exact l2 v hv)
    rw [hl2] at this
    rw [this, due m hm]
  have dlen : ∀ m < 3, (due82 m (castL rk) one two).length ≤ 1000 := fun m hm => by
    rw [← due m hm]
    unfold leastOf
    exact Nat.le_trans (List.length_filter_le ..) y2
  have turn : ∀ m < 3, ∀ z12 z13 : SV, ∀ E : PEnds, (∀ z, E.nx ⟨[z0, .val .pool, z2, .val (.int (n : Nat)), .val (dN rk), .val (dN one), .val (dN two), z7, z8, z9, .own [dN (due82 0 (castL rk) one two), dN (due82 1 (castL rk) one two), dN (due82 2 (castL rk) one two)], .own [.str (mStr 0), .str (mStr 1), .str (mStr 2)], .val (.int (m : Nat)), z], dr⟩) →
      wpS ⟨sp, xe⟩ ir_in82 ⟨[z0, .val .pool, z2, .val (.int (n : Nat)), .val (dN rk), .val (dN one), .val (dN two), z7, z8, z9, .own [dN (due82 0 (castL rk) one two), dN (due82 1 (castL rk) one two), dN (due82 2 (castL rk) one two)], .own [.str (mStr 0), .str (mStr 1), .str (mStr 2)], .val (.int (m : Nat)), z13], dr⟩ E := fun m hm z12 z13 E hE => by
    have hat1 : atI [D.str (mStr 0), .str (mStr 1), .str (mStr 2)] ((m : Nat) : Int) = some (.str (mStr m)) := by
      match m, hm with
      | 0, _ => rfl
      | 1, _ => rfl
      | 2, _ => rfl
    have hat2 : atI [dN (due82 0 (castL rk) one two), dN (due82 1 (castL rk) one two), dN (due82 2 (castL rk) one two)] ((m : Nat) : Int) = some (dN (due82 m (castL rk) one two)) := by
      match m, hm with
      | 0, _ => rfl
      | 1, _ => rfl
      | 2, _ => rfl
    have hl2 : (castL (movedL m (castL rk) one)).length = n := by unfold castL; rw [List.length_map, movedL_len]; exact hl
    have hl3 : (castL (movedL m (castL (movedL m (castL rk) one)) two)).length = n := by
      show (List.map Int.ofNat (movedL m (castL (movedL m (castL rk) one)) two)).length = n
      rw [List.length_map, movedL_len, hl2]
    conv => whnf
    refine ⟨_, hat1, ?_⟩
    conv => whnf
    rw [S.moved]
    refine ⟨m, castL rk, one, by rw [dN_dI], hm, ⟨n1, l1, y1, by omega⟩, ?_⟩
    conv => whnf
    rw [S.least]
    refine ⟨castL (movedL m (castL rk) one), two, by rw [dN_dI (movedL m (castL rk) one)], n2, fun v hv => by rw [hl2, ← hl]; exact l2 v hv, y2, ?_⟩
    rw [due m hm]
    conv => whnf
    refine ⟨_, hat2, ?_⟩
    conv => whnf
    rw [S.equal]
    refine ⟨_, rfl, okQ_N _ (dlen m hm), ?_⟩
    conv => whnf
    refine ⟨_, rfl, ?_⟩
    conv => whnf
    refine ⟨_, rfl, ?_⟩
    conv => whnf
    refine ⟨_, rfl, no, fun _ => ?_⟩
    conv => whnf
    refine ⟨_, hat1, ?_⟩
    conv => whnf
    refine ⟨(show 2 ≤ sizeLine by decide), ?_⟩
    conv => whnf
    rw [S.moved2]
    refine ⟨m, castL rk, one, two, by rw [dN_dI rk], hm, ⟨n1, l1, y1, by omega⟩, ⟨n2, l2, y2, by omega⟩, ?_⟩
    conv => whnf
    refine ⟨⟨by omega, by omega⟩, ?_⟩
    conv => whnf
    refine ⟨(show ((n : Nat) - 0 : Int).toNat ≤ 16777216 by omega), ?_⟩
    conv => whnf
    rw [S.least, rng0]
    refine ⟨castL (movedL m (castL (movedL m (castL rk) one)) two), List.range n, by rw [dN_dI (movedL m (castL (movedL m (castL rk) one)) two)]; rfl, ?_, fun v hv => ?_, ?_, ?_⟩
    · intro e; rw [List.range_eq_nil] at e; subst e; exact n1 (List.sublist_nil.mp s1)
    · rw [hl3]; exact List.mem_range.mp hv
    · rw [List.length_range]; exact hn5
    rw [due2 m hm]
    conv => whnf
    refine ⟨_, hat2, ?_⟩
    conv => whnf
    rw [S.equal]
    refine ⟨_, rfl, okQ_N _ (dlen m hm), ?_⟩
    conv => whnf
    refine ⟨_, rfl, ?_⟩
    conv => whnf
    refine ⟨_, rfl, ?_⟩
    conv => whnf
    exact ⟨_, rfl, no, fun _ => hE _⟩
  conv => whnf
  refine ⟨(show 3 ≤ sizeLine by decide), ?_⟩
  conv => whnf
  refine ⟨_, rfl, ⟨by decide, by decide⟩, ?_⟩
  rw [show rngL 0 3 = (List.range 3).map fun i => D.int (i : Nat) from rng0 3]
  refine for_inv (fun i ρ => ∃ z12 z13, ρ = ⟨[z0, .val .pool, z2, .val (.int (n : Nat)), .val (dN rk), .val (dN one), .val (dN two), z7, z8, z9, .own [dN (due82 0 (castL rk) one two), dN (due82 1 (castL rk) one two), dN (due82 2 (castL rk) one two)], .own [.str (mStr 0), .str (mStr 1), .str (mStr 2)], z12, z13], dr⟩) _ 0 ⟨_, _, rfl⟩ ?_ ?_
  · rintro i d ρ hi ⟨z12, z13, rfl⟩ Nx hN
    rw [List.getElem?_map] at hi
    obtain ⟨k, hk, rfl⟩ := Option.map_eq_some_iff.mp hi
    obtain ⟨hk1, hk2⟩ := List.getElem?_eq_some_iff.mp hk
    rw [List.getElem_range] at hk2
    rw [List.length_range] at hk1
    exact turn k (by omega) z12 z13 _ fun z => hN _ ⟨_, _, rfl⟩
  · rintro ρ ⟨z12, z13, rfl⟩
    exact hE _ _ _
theorem law82 {sp : Nat → Spec} (S : Sps82 sp) (xe : Nat → Nat → Prop) : wpS ⟨sp, xe⟩ ir_law82 (lawEnv 14) ⟨fun _ => False, fun r _ => r = .val (.bl true), fun _ => False, fun _ => False⟩ := by
  have no : ∀ {A : Prop}, (false = true → A) := fun h => (by cases h)
  have no' : ∀ {A : Prop}, (true = false → A) := fun h => (by cases h)
  have sz := sizeLine_eq
  have big : (2 : Nat) ^ 40 = 1099511627776 := by decide
  conv => whnf
  refine ⟨_, rfl, ⟨by decide, by decide⟩, ?_⟩
  rw [show rngL 0 4 = (List.range 4).map fun i => D.int (i : Nat) from rng0 4]
  refine for_inv (fun i ρ => ∃ z2 z3 z4 z5 z6 z7 z8 z9 z10 z11 z12 z13 dr, ρ = ⟨[.no, .val .pool, z2, z3, z4, z5, z6, z7, z8, z9, z10, z11, z12, z13], dr⟩ ∧ dr ≤ 20 * i) _ 0 ⟨_, _, _, _, _, _, _, _, _, _, _, _, _, rfl, Nat.le_refl _⟩ ?_ ?_
  · rintro i d ρ hi ⟨z2, z3, z4, z5, z6, z7, z8, z9, z10, z11, z12, z13, dr, rfl, hdr⟩ Nx hN
    have hi4 : i < 4 := by have := (List.getElem?_eq_some_iff.mp hi).1; simpa using this
    conv => whnf
    rw [S.draw]
    refine ⟨5, rfl, by decide, by show dr < _; omega, fun v v0 v1 => ?_⟩
    obtain ⟨n, hn⟩ : ∃ n : Nat, 1 + v = n := ⟨(1 + v).toNat, (Int.toNat_of_nonneg (by omega)).symm⟩
    have n1 : 1 ≤ n := by omega
    have n5 : n ≤ 5 := by omega
    conv => whnf
    rw [S.ranks, hn]
    refine ⟨n, rfl, by omega, by omega, by show dr + 1 + n < _; omega, fun xs dr1 hxs hd1 => ?_⟩
    have hd1 : dr1 ≤ dr + 1 + n := hd1
    obtain ⟨rk, hrk⟩ : ∃ rk, tidy xs = rk := ⟨_, rfl⟩
    have hl : n = rk.length := by rw [← hrk, tidy_len, hxs]
    rw [hrk]
    conv => whnf
    refine ⟨⟨by omega, by omega⟩, ?_⟩
    conv => whnf
    refine ⟨(show ((n : Nat) - 0 : Int).toNat ≤ 16777216 by omega), ?_⟩
    conv => whnf
    rw [S.picks, rng0]
    refine ⟨List.range n, rfl, ?_, by rw [List.length_range]; omega, by rw [List.length_range]; show dr1 + n + 1 < _; omega, fun one dr2 o1 o2 hd2 => ?_⟩
    · intro e; rw [List.range_eq_nil] at e; omega
    have hd2 : dr2 ≤ dr1 + (List.range n).length + 1 := hd2
    rw [List.length_range] at hd2
    conv => whnf
    refine ⟨⟨by omega, by omega⟩, ?_⟩
    conv => whnf
    refine ⟨(show ((n : Nat) - 0 : Int).toNat ≤ 16777216 by omega), ?_⟩
    conv => whnf
    rw [S.picks, rng0]
    refine ⟨List.range n, rfl, ?_, by rw [List.length_range]; omega, by rw [List.length_range]; show dr2 + n + 1 < _; omega, fun two dr3 t1 t2 hd3 => ?_⟩
    · intro e; rw [List.range_eq_nil] at e; omega
    have hd3 : dr3 ≤ dr2 + (List.range n).length + 1 := hd3
    rw [List.length_range] at hd3
    have y1 : one.length ≤ 1000 := by have := o2.length_le; rw [List.length_range] at this; omega
    have y2 : two.length ≤ 1000 := by have := t2.length_le; rw [List.length_range] at this; omega
    have hc : (castL rk).length = n := by unfold castL; rw [List.length_map, hl]
    have l1 : ∀ v ∈ one, v < (castL rk).length := fun v hv => by rw [hc]; exact List.mem_range.mp (o2.subset hv)
    have l2 : ∀ v ∈ two, v < (castL rk).length := fun v hv => by rw [hc]; exact List.mem_range.mp (t2.subset hv)
    have ll : ∀ (r : List Int) (m : List Nat), (leastOf r m).length ≤ m.length := fun r m => List.length_filter_le ..
    have la : ∀ (a b : List Nat), (andL a b).length ≤ a.length := fun a b => List.length_filter_le ..
    have gt0 : ∀ xs : List Nat, decide ((0 : Int) < ((xs.map fun n => D.int (n : Nat)).length : Nat)) = decide (0 < xs.length) := fun xs => by
      rw [List.length_map]; congr 1; exact propext (by omega)
    conv => whnf
    rw [S.both]
    refine ⟨one, two, rfl, y1, ?_⟩
    conv => whnf
    rw [S.lleast]
    refine ⟨castL rk, one, by rw [dN_dI rk], o1, l1, y1, ?_⟩
    conv => whnf
    rw [S.both]
    refine ⟨leastOf (castL rk) one, two, rfl, by have := ll (castL rk) one; omega, ?_⟩
    conv => whnf
    rw [S.lleast]
    refine ⟨castL rk, two, by rw [dN_dI rk], t1, l2, y2, ?_⟩
    conv => whnf
    refine ⟨(show 3 ≤ sizeLine by decide), ?_⟩
    have key : ∀ (p0 p1 p2 : List Nat) (z2 z7 z8 z9 z11 z12 z13 : SV), p0 = due82 0 (castL rk) one two → p1 = due82 1 (castL rk) one two → p2 = due82 2 (castL rk) one two →
        ∀ E : PEnds, E.nx = Nx → wpS ⟨sp, xe⟩ ir_tail82 ⟨[.no, .val .pool, z2, .val (.int (n : Nat)), .val (dN rk), .val (dN one), .val (dN two), z7, z8, z9, .own [dN p0, dN p1, dN p2], z11, z12, z13], dr3⟩ E := by
      rintro _ _ _ z2 z7 z8 z9 z11 z12 z13 rfl rfl rfl E hE
      refine tail82 S xe hl (by omega) o2 t2 o1 t1 fun z11 z12 z13 => ?_
      rw [hE]
      exact hN _ ⟨_, _, _, _, _, _, _, _, _, _, _, _, _, rfl, by omega⟩
    have gtb : ∀ {xs : List Nat} {b : Bool}, decide ((0 : Int) < ((xs.map fun n => D.int (n : Nat)).length : Nat)) = b → decide (0 < xs.length) = b := fun h => by rw [← gt0]; exact h
    have third : ∀ (p1 p2 : List Nat) (z2 z7 z9 z11 z12 z13 : SV), p1 = due82 1 (castL rk) one two → (¬ 0 < (andL (leastOf (castL rk) one) two).length → p2 = due82 2 (castL rk) one two) →
        ∀ E : PEnds, E.nx = Nx → wpS ⟨sp, xe⟩ ir_three82 ⟨[.no, .val .pool, z2, .val (.int (n : Nat)), .val (dN rk), .val (dN one), .val (dN two), z7, .val (dN (andL (leastOf (castL rk) one) two)), z9, .own [dN (leastOf (castL rk) two), dN p1, dN p2], z11, z12, z13], dr3⟩ E := by
      intro p1 p2 z2 z7 z9 z11 z12 z13 e1 e2 E hE
      conv => whnf
      refine ⟨_, rfl, fun h1 => ?_, fun h1 => ?_⟩
      · have h1 : 0 < (andL (leastOf (castL rk) one) two).length := of_decide_eq_true (gtb h1)
        conv => whnf
        refine ⟨rfl, ?_⟩
        conv => whnf
        refine ⟨_, _, rfl, rfl, ?_⟩
        conv => whnf
        refine ⟨rfl, ?_⟩
        conv => whnf
        refine ⟨_, _, rfl, rfl, ?_⟩
        exact key _ _ _ _ _ _ _ _ _ _ (by unfold due82; simp only []; rw [if_neg (by decide), if_pos h1]) e1 (by unfold due82; simp only []; rw [if_neg (by decide), if_pos h1]) E hE
      · have h1 : ¬ 0 < (andL (leastOf (castL rk) one) two).length := of_decide_eq_false (gtb h1)
        exact key _ _ _ _ _ _ _ _ _ _ (by unfold due82; simp only []; rw [if_neg (by decide), if_neg h1, if_pos trivial]) e1 (e2 h1) E hE
    have second : ∀ (p1 : List Nat) (z2 z7 z11 z12 z13 : SV), p1 = due82 1 (castL rk) one two →
        ∀ E : PEnds, E.nx = Nx → wpS ⟨sp, xe⟩ ir_two82 ⟨[.no, .val .pool, z2, .val (.int (n : Nat)), .val (dN rk), .val (dN one), .val (dN two), z7, .val (dN (andL (leastOf (castL rk) one) two)), .val (dN (leastOf (castL rk) two)), .own [dN (leastOf (castL rk) two), dN p1, dN (leastOf (castL rk) two)], z11, z12, z13], dr3⟩ E := by
      intro p1 z2 z7 z11 z12 z13 e1 E hE
      conv => whnf
      rw [S.both]
      refine ⟨leastOf (castL rk) two, one, rfl, by have := ll (castL rk) two; omega, ?_⟩
      conv => whnf
      refine ⟨_, rfl, fun h1 => ?_, fun h1 => ?_⟩
      · have h1 : 0 < (andL (leastOf (castL rk) two) one).length := of_decide_eq_true (gtb h1)
        conv => whnf
        rw [S.both]
        refine ⟨leastOf (castL rk) two, one, rfl, by have := ll (castL rk) two; omega, ?_⟩
        conv => whnf
        refine ⟨rfl, ?_⟩
        conv => whnf
        refine ⟨_, _, rfl, rfl, ?_⟩
        exact third _ _ _ _ _ _ _ _ e1 (fun h => by unfold due82; simp only []; rw [if_neg (by decide), if_neg h, if_neg (by decide), if_pos h1]; rfl) E hE
      · have h1 : ¬ 0 < (andL (leastOf (castL rk) two) one).length := of_decide_eq_false (gtb h1)
        exact third _ _ _ _ _ _ _ _ e1 (fun h => by unfold due82; simp only []; rw [if_neg (by decide), if_neg h, if_neg (by decide), if_neg h1]) E hE
    conv => whnf
    refine ⟨_, rfl, fun h1 => ?_, fun h1 => ?_⟩
    · have h1 : 0 < (andL one two).length := of_decide_eq_true (gtb h1)
      conv => whnf
      rw [S.lleast]
      refine ⟨castL rk, andL one two, by rw [dN_dI rk]; rfl, fun e => by rw [e] at h1; simp at h1, fun v hv => l1 v (mem_and.mp hv).1, by have := la one two; omega, ?_⟩
      conv => whnf
      refine ⟨rfl, ?_⟩
      conv => whnf
      refine ⟨_, _, rfl, rfl, ?_⟩
      exact second _ _ _ _ _ _ (by unfold due82; simp only []; rw [if_pos trivial, if_pos h1]) _ rfl
    · have h1 : ¬ 0 < (andL one two).length := of_decide_eq_false (gtb h1)
      exact second _ _ _ _ _ _ (by unfold due82; simp only []; rw [if_pos trivial, if_neg h1]) _ rfl
  · rintro ρ ⟨z2, z3, z4, z5, z6, z7, z8, z9, z10, z11, z12, z13, dr, rfl, _⟩
    rfl
end PL
/-! PL31: what the head's facts give. -/
namespace PL
open PySem PySem.Spec PyProof.Rows L2
section
variable {P : Program} {w : World} {K : PySem.W.Frag} {mg : Str → Option Value} {base h : Heap}
/-- a def as the top has written it -/
def DF (K : PySem.W.Frag) (x : Str) (st : Stmt) : Prop := ∃ (f : Addr) (oc : Value) (od : Option Addr) (kV doc pm : Value) (an : Option Addr) (cdv ct : Value) (osl : Array (Option Value)),
  PySem.W.nsIn K mainGlobals x = some (some (.ref f)) ∧ K.lookup f = some ⟨oc, od, .func (PySem.W.fnOf x x (C8.fnArgs st) (C8.fnBody st) (C8.fnScope st) .none kV doc pm an cdv ct), osl⟩ ∧ PySem.W.codeIn K cdv x = true ∧ PySem.W.keepIn K (.ref f) = true
theorem df_mk {x : Str} {st : Stmt} {f : Addr} {oc : Value} {od : Option Addr} {kV doc pm : Value} {an : Option Addr} {cdv ct : Value} {osl : Array (Option Value)} (a : PySem.W.nsIn K mainGlobals x = some (some (.ref f)))
    (l : K.lookup f = some ⟨oc, od, .func (PySem.W.fnOf x x (C8.fnArgs st) (C8.fnBody st) (C8.fnScope st) .none kV doc pm an cdv ct), osl⟩) (c : PySem.W.codeIn K cdv x = true) (k : PySem.W.keepIn K (.ref f) = true) : DF K x st :=
  ⟨f, oc, od, kV, doc, pm, an, cdv, ct, osl, a, l, c, k⟩
/-- .. as the rules want it -/
theorem df_ok (X : K.In h) (G : h.Ns mainGlobals mg) {x : Str} {st : Stmt} (d : DF K x st) (ps : List Str)
    (hb : ∀ (kV doc pm : Value) (an : Option Addr) (cdv ct : Value) (us : List Value), us.length = ps.length → bindArgs (PySem.W.fnOf x x (C8.fnArgs st) (C8.fnBody st) (C8.fnScope st) .none kV doc pm an cdv ct) ⟨us, []⟩ = pure (ps.zip us)) :
    ∃ f fd, C8.Def K mg x st f fd ∧ Binds K fd ps [] := by
  obtain ⟨f, oc, od, kV, doc, pm, an, cdv, ct, osl, a, l, c, k⟩ := d
  have F : C8.Fun K x x st f (PySem.W.fnOf x x (C8.fnArgs st) (C8.fnBody st) (C8.fnScope st) .none kV doc pm an cdv ct) := ⟨⟨oc, od, .none, kV, doc, pm, an, cdv, ct, osl, rfl, l, c⟩⟩
  exact ⟨f, _, ⟨F, PySem.W.mg_of X G a, k⟩, F.binds rfl hb⟩
theorem fns_nil {j : Nat} {sps : Nat → Spec} : FnsOk P w K mg base j [] sps := fun f x h => by cases h
theorem fns_cons {i j f : Nat} {x : Str} {fs : List (Nat × Str)} {sps : Nat → Spec} (c : C8.Cal P w K mg base i x (lift K w (sps f)) []) (hi : i ≤ j) (r : FnsOk P w K mg base j fs sps) : FnsOk P w K mg base j ((f, x) :: fs) sps := fun g y h => by
  rcases List.mem_cons.mp h with e | h
  · cases e; exact ⟨i, hi, c⟩
  · exact r g y h
theorem cs_nil : CsOk K mg [] := fun x d h => by cases h
theorem cs_str (X : K.In h) (G : h.Ns mainGlobals mg) {x z : Str} {cs : List (Str × D)} {t : Tok} (a : PySem.W.nsIn K mainGlobals x = some (some (.str z t))) (r : CsOk K mg cs) : CsOk K mg ((x, .str z) :: cs) := fun y d h => by
  rcases List.mem_cons.mp h with e | h
  · cases e; exact ⟨.str z, _, PySem.W.mg_of X G a, ⟨_, rfl⟩, fun _ _ _ => .str _⟩
  · exact r y d h
theorem blt_mk (X : K.In h) (G : h.Ns mainGlobals mg)
    (z1 : PySem.W.nsIn K mainGlobals "len" = some none) (z2 : PySem.W.nsIn K mainGlobals "int" = some none) (z3 : PySem.W.nsIn K mainGlobals "str" = some none) (z4 : PySem.W.nsIn K mainGlobals "tuple" = some none) (z5 : PySem.W.nsIn K mainGlobals "list" = some none)
    (z6 : PySem.W.nsIn K mainGlobals "sorted" = some none) (z7 : PySem.W.nsIn K mainGlobals "min" = some none) (z8 : PySem.W.nsIn K mainGlobals "max" = some none) (z9 : PySem.W.nsIn K mainGlobals "sum" = some none) (z10 : PySem.W.nsIn K mainGlobals "any" = some none)
    (z11 : PySem.W.nsIn K mainGlobals "all" = some none) (z12 : PySem.W.nsIn K mainGlobals "abs" = some none) (z13 : PySem.W.nsIn K mainGlobals "range" = some none) (z14 : PySem.W.nsIn K mainGlobals "isinstance" = some none) (z15 : PySem.W.nsIn K mainGlobals "bool" = some none)
    (z16 : PySem.W.nsIn K mainGlobals "dict" = some none) (z17 : PySem.W.nsIn K mainGlobals "zip" = some none) (z18 : PySem.W.nsIn K mainGlobals "enumerate" = some none) : BltOk mg := by
  intro x hx
  simp only [List.mem_cons, List.not_mem_nil, or_false] at hx
  rcases hx with rfl | rfl | rfl | rfl | rfl | rfl | rfl | rfl | rfl | rfl | rfl | rfl | rfl | rfl | rfl | rfl | rfl | rfl
  all_goals exact PySem.W.mg_none_of X G (by assumption)
/-- a promise that nobody can ask for -/
theorem never_ok {x : Str} {st : Stmt} {f : Addr} {fd : FuncData} {N ps : List Str} {j : Nat} (F : C8.Def K mg x st f fd) (b : Binds K fd ps []) (S : FnScope N ps (C8.fnScope st)) : C8.Cal P w K mg base (j + 1) x (lift K w (fun _ _ _ _ => False)) [] :=
  C8.cal0 F b .nil S (fun vs H Q E ⟨P', F', ds, dr, QQ, _, _, rs, hs, _⟩ => hs.elim) fun cdv A outer s H vs Q E hr ⟨P', F', ds, dr, QQ, sub, pool, rs, hs, fin⟩ => hs.elim
theorem ends {l : PySem.W.OpenLaw} {q : Program} {loose : List Str} {XP : (Str → Option Value) → Heap → Prop} {YP : World → Heap → Prop} {d : DefRec} {K : Params → PySem.W.Frag} {k : Nat} (hn : l.most = some 63) (hdf : d.params.defaults = []) (hr : Room k callerA)
    (hY : ∀ (w : World) (h : Heap), YP w h → (K w.params).In h)
    (F : ∀ (w : World) (mg : Str → Option Value) (fa : Addr) (h : Heap), (K w.params).In h → h.Ns mainGlobals mg → mg d.name = some (.ref fa) →
      ∃ fd : FuncData, (∀ (s : Shared) (u : Value), BindsTo s fd ⟨[u], []⟩ [("script", u)]) ∧ ∀ base : Heap, (K w.params).In base → base.Ns mainGlobals mg → FnOk l.prog w (K w.params) mg base C8.CX0 k fa fd ["script"] (spLaw (K w.params))) :
    PySem.W.WalkO q loose XP YP l.row.toRowW d [] (fun f vs => PySem.call f vs) :=
  L2.walk_of (n := 63) (k := k) (x := "script") (CX := fun _ => C8.CX0) (sp := fun w => spLaw (K w.params)) hn (by decide) hdf hr hY F (fun _ _ a ns hl _ hS => ⟨a, ns, rfl, hS, fun _ => rfl⟩) fun _ _ _ _ _ z => z
end
end PL
/-! PL32: k82: what each number promises. -/
namespace PL
open PySem PySem.Spec PyProof.Rows L2
def fs_law82 : List (Nat × Str) := [(49, "_law_draw"), (152, "_law_ranks"), (149, "_law_random_picks"), (27, "_law_both"), (91, "_law_least"), (51, "_law_equal"), (535, "least_of"), (572, "moved"), (573, "moved_by_all")]
def spsE (e : Spec) : Nat → Spec
  | 49 => sp_draw
  | 152 => sp_ranks
  | 149 => sp_picks
  | 27 => sp_both
  | 91 => sp_least
  | 51 => e
  | 88 => sp_kind
  | 199 => sp_tidy
  | 535 => sp_least
  | 572 => sp_moved
  | 573 => sp_moved2
  | 529 => sp_key
  | 602 => sp_places
  | _ => fun _ _ _ _ => False
def sps82 : Nat → Spec := spsE (sp_equal 1)
def sps0 : Nat → Spec := spsE (sp_equal 0)
def spsN : Nat → Spec := spsE fun _ _ _ _ => False
end PL
namespace PL
open PySem PySem.Spec PyProof.Rows L2
def top (i : Nat) : Stmt := PySem.Challenge.pw_whypicked_k82_whole_news_after_news.main.body.getD i (.Pass ⟨0, 0, 0, 0⟩)
abbrev s__law_cell : Stmt := top 10
abbrev s__law_draw : Stmt := top 13
abbrev s__law_pool : Stmt := top 12
abbrev s_least_of : Stmt := top 1
abbrev s_places : Stmt := top 5
abbrev s_key_of : Stmt := top 6
abbrev s_moved : Stmt := top 7
abbrev s_moved_by_all : Stmt := top 8
abbrev s__law_numbers : Stmt := top 11
abbrev s__law_kind : Stmt := top 14
abbrev s__law_equal : Stmt := top 15
abbrev s__law_both : Stmt := top 16
abbrev s__law_tidy : Stmt := top 17
abbrev s__law_ranks : Stmt := top 18
abbrev s__law_least : Stmt := top 19
abbrev s__law_random_picks : Stmt := top 20
abbrev s_law : Stmt := top 21
theorem sc__law_cell : FnScope ["script", "k"] ["script", "k"] (C8.fnScope s__law_cell) := C8.fnScope_by (by decide +kernel)
theorem sc__law_draw : FnScope ["pool", "many", "at", "turn"] ["pool", "many"] (C8.fnScope s__law_draw) := C8.fnScope_by (by decide +kernel)
theorem sc__law_pool : FnScope ["script", "rows", "k"] ["script"] (C8.fnScope s__law_pool) := C8.fnScope_by (by decide +kernel)
theorem sc_least_of : FnScope ["ranks", "menu", "least", "thing"] ["ranks", "menu"] (C8.fnScope s_least_of) := C8.fnScope_by (by decide +kernel)
theorem sc_places : FnScope ["pairs", "steps", "pair"] ["pairs"] (C8.fnScope s_places) := C8.fnScope_by (by decide +kernel)
theorem sc_key_of : FnScope ["method", "ranks", "menu", "world", "is_out"] ["method", "ranks", "menu", "world"] (C8.fnScope s_key_of) := C8.fnScope_by (by decide +kernel)
theorem sc_moved : FnScope ["method", "ranks", "menu", "world"] ["method", "ranks", "menu"] (C8.fnScope s_moved) := C8.fnScope_by (by decide +kernel)
theorem sc_moved_by_all : FnScope ["method", "ranks", "rows", "menu"] ["method", "ranks", "rows"] (C8.fnScope s_moved_by_all) := C8.fnScope_by (by decide +kernel)
theorem sc__law_numbers : FnScope ["cell", "many", "rows", "left", "k", "mixed"] ["cell", "many"] (C8.fnScope s__law_numbers) := C8.fnScope_by (by decide +kernel)
theorem sc__law_kind : FnScope ["x"] ["x"] (C8.fnScope s__law_kind) := C8.fnScope_by (by decide +kernel)
theorem sc__law_equal : FnScope ["x", "due", "k"] ["x", "due"] (C8.fnScope s__law_equal) := C8.fnScope_by (by decide +kernel)
theorem sc__law_both : FnScope ["one", "two", "thing"] ["one", "two"] (C8.fnScope s__law_both) := C8.fnScope_by (by decide +kernel)
theorem sc__law_tidy : FnScope ["numbers", "steps", "number"] ["numbers"] (C8.fnScope s__law_tidy) := C8.fnScope_by (by decide +kernel)
theorem sc__law_ranks : FnScope ["pool", "n", "k"] ["pool", "n"] (C8.fnScope s__law_ranks) := C8.fnScope_by (by decide +kernel)
theorem sc__law_least : FnScope ["ranks", "menu", "least", "thing"] ["ranks", "menu"] (C8.fnScope s__law_least) := C8.fnScope_by (by decide +kernel)
theorem sc__law_random_picks : FnScope ["pool", "menu", "found", "thing"] ["pool", "menu"] (C8.fnScope s__law_random_picks) := C8.fnScope_by (by decide +kernel)
theorem sc_law : FnScope ["script", "pool", "turn", "n", "ranks", "one", "two", "both", "first", "plain", "due", "methods", "k", "last"] ["script"] (C8.fnScope s_law) := C8.fnScope_by (by decide +kernel)
theorem ck_least_of : okB ir_least_of ⟨nm_least_of, C8.fnScope s_least_of, none, fs_least_of, cs_least_of⟩ (C8.fnBody s_least_of) = true := by decide +kernel
theorem ck_places : okB ir_places ⟨nm_places, C8.fnScope s_places, none, fs_places, cs_places⟩ (C8.fnBody s_places) = true := by decide +kernel
theorem ck_key_of : okB ir_key_of ⟨nm_key_of, C8.fnScope s_key_of, none, fs_key_of, cs_key_of⟩ (C8.fnBody s_key_of) = true := by decide +kernel
theorem ck_moved : okB ir_moved ⟨nm_moved, C8.fnScope s_moved, none, fs_moved, cs_moved⟩ (C8.fnBody s_moved) = true := by decide +kernel
theorem ck_moved_by_all : okB ir_moved_by_all ⟨nm_moved_by_all, C8.fnScope s_moved_by_all, none, fs_moved_by_all, cs_moved_by_all⟩ (C8.fnBody s_moved_by_all) = true := by decide +kernel
theorem ck__law_numbers : okB ir__law_numbers ⟨nm__law_numbers, C8.fnScope s__law_numbers, none, fs__law_numbers, cs__law_numbers⟩ (C8.fnBody s__law_numbers) = true := by decide +kernel
theorem ck__law_kind : okB ir__law_kind ⟨nm__law_kind, C8.fnScope s__law_kind, none, fs__law_kind, cs__law_kind⟩ (C8.fnBody s__law_kind) = true := by decide +kernel
theorem ck__law_equal : okB ir__law_equal ⟨nm__law_equal, C8.fnScope s__law_equal, none, fs__law_equal, cs__law_equal⟩ (C8.fnBody s__law_equal) = true := by decide +kernel
theorem ck__law_both : okB ir__law_both ⟨nm__law_both, C8.fnScope s__law_both, none, fs__law_both, cs__law_both⟩ (C8.fnBody s__law_both) = true := by decide +kernel
theorem ck__law_tidy : okB ir__law_tidy ⟨nm__law_tidy, C8.fnScope s__law_tidy, none, fs__law_tidy, cs__law_tidy⟩ (C8.fnBody s__law_tidy) = true := by decide +kernel
theorem ck__law_ranks : okB ir__law_ranks ⟨nm__law_ranks, C8.fnScope s__law_ranks, none, fs__law_ranks, cs__law_ranks⟩ (C8.fnBody s__law_ranks) = true := by decide +kernel
theorem ck__law_least : okB ir__law_least ⟨nm__law_least, C8.fnScope s__law_least, none, fs__law_least, cs__law_least⟩ (C8.fnBody s__law_least) = true := by decide +kernel
theorem ck__law_random_picks : okB ir__law_random_picks ⟨nm__law_random_picks, C8.fnScope s__law_random_picks, none, fs__law_random_picks, cs__law_random_picks⟩ (C8.fnBody s__law_random_picks) = true := by decide +kernel
theorem all_ok {l : PySem.W.OpenLaw} (hl : l.prog = PySem.Challenge.pw_whypicked_k82_whole_news_after_news) {w : World} {K : PySem.W.Frag} {h : Heap} {mg : Str → Option Value} {fa : Addr} (X : K.In h) (G : h.Ns mainGlobals mg) (hfa : mg "law" = some (.ref fa)) (hb : BltOk mg)
    {t_LEXIC : Tok} (k_LEXIC : PySem.W.nsIn K mainGlobals "LEXIC" = some (some (.str "lexic" t_LEXIC)))
    {t_NATURAL : Tok} (k_NATURAL : PySem.W.nsIn K mainGlobals "NATURAL" = some (some (.str "natural" t_NATURAL)))
    (d__law_cell : DF K "_law_cell" s__law_cell)
    (d__law_draw : DF K "_law_draw" s__law_draw)
    (d__law_pool : DF K "_law_pool" s__law_pool)
    (d_least_of : DF K "least_of" s_least_of)
    (d_places : DF K "places" s_places)
    (d_key_of : DF K "key_of" s_key_of)
    (d_moved : DF K "moved" s_moved)
    (d_moved_by_all : DF K "moved_by_all" s_moved_by_all)
    (d__law_numbers : DF K "_law_numbers" s__law_numbers)
    (d__law_kind : DF K "_law_kind" s__law_kind)
    (d__law_equal : DF K "_law_equal" s__law_equal)
    (d__law_both : DF K "_law_both" s__law_both)
    (d__law_tidy : DF K "_law_tidy" s__law_tidy)
    (d__law_ranks : DF K "_law_ranks" s__law_ranks)
    (d__law_least : DF K "_law_least" s__law_least)
    (d__law_random_picks : DF K "_law_random_picks" s__law_random_picks)
    (d_law : DF K "law" s_law) :
    ∃ fd : FuncData, (∀ (s : Shared) (v : Value), BindsTo s fd ⟨[v], []⟩ [("script", v)]) ∧ ∀ base : Heap, K.In base → base.Ns mainGlobals mg → FnOk l.prog w K mg base C8.CX0 5 fa fd ["script"] (spLaw K) := by
  obtain ⟨f__law_cell, fd__law_cell, D__law_cell, b__law_cell⟩ := df_ok X G d__law_cell ["script", "k"] fun _ _ _ _ _ _ us hl => match us, hl with | [_, _], _ => rfl
  obtain ⟨f__law_draw, fd__law_draw, D__law_draw, b__law_draw⟩ := df_ok X G d__law_draw ["pool", "many"] fun _ _ _ _ _ _ us hl => match us, hl with | [_, _], _ => rfl
  obtain ⟨f__law_pool, fd__law_pool, D__law_pool, b__law_pool⟩ := df_ok X G d__law_pool ["script"] fun _ _ _ _ _ _ us hl => match us, hl with | [_], _ => rfl
  obtain ⟨f_least_of, fd_least_of, D_least_of, b_least_of⟩ := df_ok X G d_least_of ["ranks", "menu"] fun _ _ _ _ _ _ us hl => match us, hl with | [_, _], _ => rfl
  obtain ⟨f_places, fd_places, D_places, b_places⟩ := df_ok X G d_places ["pairs"] fun _ _ _ _ _ _ us hl => match us, hl with | [_], _ => rfl
  obtain ⟨f_key_of, fd_key_of, D_key_of, b_key_of⟩ := df_ok X G d_key_of ["method", "ranks", "menu", "world"] fun _ _ _ _ _ _ us hl => match us, hl with | [_, _, _, _], _ => rfl
  obtain ⟨f_moved, fd_moved, D_moved, b_moved⟩ := df_ok X G d_moved ["method", "ranks", "menu"] fun _ _ _ _ _ _ us hl => match us, hl with | [_, _, _], _ => rfl
  obtain ⟨f_moved_by_all, fd_moved_by_all, D_moved_by_all, b_moved_by_all⟩ := df_ok X G d_moved_by_all ["method", "ranks", "rows"] fun _ _ _ _ _ _ us hl => match us, hl with | [_, _, _], _ => rfl
  obtain ⟨f__law_numbers, fd__law_numbers, D__law_numbers, b__law_numbers⟩ := df_ok X G d__law_numbers ["cell", "many"] fun _ _ _ _ _ _ us hl => match us, hl with | [_, _], _ => rfl
  obtain ⟨f__law_kind, fd__law_kind, D__law_kind, b__law_kind⟩ := df_ok X G d__law_kind ["x"] fun _ _ _ _ _ _ us hl => match us, hl with | [_], _ => rfl
  obtain ⟨f__law_equal, fd__law_equal, D__law_equal, b__law_equal⟩ := df_ok X G d__law_equal ["x", "due"] fun _ _ _ _ _ _ us hl => match us, hl with | [_, _], _ => rfl
  obtain ⟨f__law_both, fd__law_both, D__law_both, b__law_both⟩ := df_ok X G d__law_both ["one", "two"] fun _ _ _ _ _ _ us hl => match us, hl with | [_, _], _ => rfl
  obtain ⟨f__law_tidy, fd__law_tidy, D__law_tidy, b__law_tidy⟩ := df_ok X G d__law_tidy ["numbers"] fun _ _ _ _ _ _ us hl => match us, hl with | [_], _ => rfl
  obtain ⟨f__law_ranks, fd__law_ranks, D__law_ranks, b__law_ranks⟩ := df_ok X G d__law_ranks ["pool", "n"] fun _ _ _ _ _ _ us hl => match us, hl with | [_, _], _ => rfl
  obtain ⟨f__law_least, fd__law_least, D__law_least, b__law_least⟩ := df_ok X G d__law_least ["ranks", "menu"] fun _ _ _ _ _ _ us hl => match us, hl with | [_, _], _ => rfl
  obtain ⟨f__law_random_picks, fd__law_random_picks, D__law_random_picks, b__law_random_picks⟩ := df_ok X G d__law_random_picks ["pool", "menu"] fun _ _ _ _ _ _ us hl => match us, hl with | [_, _], _ => rfl
  obtain ⟨fl, oc, od, kV, doc, pm, an, cdv, ct, osl, a, lk, c, kp⟩ := d_law
  have e := hfa.symm.trans (PySem.W.mg_of X G a)
  cases e
  have FL : C8.Fun K "law" "law" s_law fa _ := ⟨⟨oc, od, .none, kV, doc, pm, an, cdv, ct, osl, rfl, lk, c⟩⟩
  refine ⟨PySem.W.fnOf "law" "law" (C8.fnArgs s_law) (C8.fnBody s_law) (C8.fnScope s_law) .none kV doc pm an cdv ct, fun s v => .of_eq rfl, fun base _ _ => ?_⟩
  have c_cell : C8.Cal l.prog w K mg base 1 "_law_cell" (spCell K) [] := cell_ok D__law_cell b__law_cell sc__law_cell hb (by decide +kernel) rfl
  have c_draw : C8.Cal l.prog w K mg base 1 "_law_draw" (lift K w sp_draw) [] := draw_ok D__law_draw b__law_draw sc__law_draw hb (by decide +kernel) rfl
  have c_least : C8.Cal l.prog w K mg base 1 "least_of" (lift K w (sp_least)) [] := def_ok (N := nm_least_of) (ps := ["ranks", "menu"]) (j := 0) (fs := fs_least_of) (cs := cs_least_of) (sps := sps82) (body := ir_least_of) D_least_of b_least_of sc_least_of (by decide) hb cs_nil fns_nil ck_least_of (fun _ _ _ _ ⟨_, _, e, _⟩ => by rw [e]; rfl) (least_wp _)
  have c_places : C8.Cal l.prog w K mg base 1 "places" (lift K w (sp_places)) [] := def_ok (N := nm_places) (ps := ["pairs"]) (j := 0) (fs := fs_places) (cs := cs_places) (sps := sps82) (body := ir_places) D_places b_places sc_places (by decide) hb cs_nil fns_nil ck_places (fun _ _ _ _ ⟨_, e, _⟩ => by rw [e]; rfl) (places_wp _)
  have c_key : C8.Cal l.prog w K mg base 2 "key_of" (lift K w (sp_key)) [] := def_ok (N := nm_key_of) (ps := ["method", "ranks", "menu", "world"]) (j := 1) (fs := fs_key_of) (cs := cs_key_of) (sps := sps82) (body := ir_key_of) D_key_of b_key_of sc_key_of (by decide) hb (cs_str X G k_LEXIC (cs_str X G k_NATURAL cs_nil)) (fns_cons c_least (by decide) fns_nil) ck_key_of (fun _ _ _ _ ⟨_, _, _, _, e, _⟩ => by rw [e]; rfl) (key_wp _ _ rfl)
  have c_moved : C8.Cal l.prog w K mg base 3 "moved" (lift K w (sp_moved)) [] := def_ok (N := nm_moved) (ps := ["method", "ranks", "menu"]) (j := 2) (fs := fs_moved) (cs := cs_moved) (sps := sps82) (body := ir_moved) D_moved b_moved sc_moved (by decide) hb cs_nil (fns_cons c_places (by decide) (fns_cons c_key (by decide) fns_nil)) ck_moved (fun _ _ _ _ ⟨_, _, _, e, _⟩ => by rw [e]; rfl) (moved_wp _ _ rfl rfl)
  have c_moved2 : C8.Cal l.prog w K mg base 4 "moved_by_all" (lift K w (sp_moved2)) [] := def_ok (N := nm_moved_by_all) (ps := ["method", "ranks", "rows"]) (j := 3) (fs := fs_moved_by_all) (cs := cs_moved_by_all) (sps := sps82) (body := ir_moved_by_all) D_moved_by_all b_moved_by_all sc_moved_by_all (by decide) hb cs_nil (fns_cons c_moved (by decide) fns_nil) ck_moved_by_all (fun _ _ _ _ ⟨_, _, _, _, e, _⟩ => by rw [e]; rfl) (moved2_wp _ _ rfl)
  have c_numbers : C8.Cal l.prog w K mg base 1 "_law_numbers" (lift K w (sp_numbers)) [] := def_ok (N := nm__law_numbers) (ps := ["cell", "many"]) (j := 0) (fs := fs__law_numbers) (cs := cs__law_numbers) (sps := sps82) (body := ir__law_numbers) D__law_numbers b__law_numbers sc__law_numbers (by decide) hb cs_nil fns_nil ck__law_numbers (fun _ _ _ _ ⟨_, _, e, _⟩ => by rw [e]; rfl) (numbers_wp _)
  have c_pool : C8.Cal l.prog w K mg base 2 "_law_pool" (spPool K) [] := pool_ok (j := 1) D__law_pool b__law_pool sc__law_pool hb c_cell (by decide) c_numbers (by decide) (by decide +kernel) rfl
  have c_kind : C8.Cal l.prog w K mg base 1 "_law_kind" (lift K w (sp_kind)) [] := def_ok (N := nm__law_kind) (ps := ["x"]) (j := 0) (fs := fs__law_kind) (cs := cs__law_kind) (sps := sps82) (body := ir__law_kind) D__law_kind b__law_kind sc__law_kind (by decide) hb cs_nil fns_nil ck__law_kind (fun _ _ _ _ ⟨_, e, _⟩ => by rw [e]; rfl) (kind_wp _)
  have c_eqn : C8.Cal l.prog w K mg base 1 "_law_equal" (lift K w (fun _ _ _ _ => False)) [] := never_ok D__law_equal b__law_equal sc__law_equal
  have c_eq0 : C8.Cal l.prog w K mg base 2 "_law_equal" (lift K w (sp_equal 0)) [] := def_ok (N := nm__law_equal) (ps := ["x", "due"]) (j := 1) (fs := fs__law_equal) (cs := cs__law_equal) (sps := spsN) (body := ir__law_equal) D__law_equal b__law_equal sc__law_equal (by decide) hb cs_nil (fns_cons c_kind (by decide) (fns_cons c_eqn (by decide) fns_nil)) ck__law_equal (fun _ _ _ _ ⟨_, e, _⟩ => by rw [e]; rfl) (equal_wp 0 _ _ rfl (fun _ e => by cases e))
  have c_eq1 : C8.Cal l.prog w K mg base 3 "_law_equal" (lift K w (sp_equal 1)) [] := def_ok (N := nm__law_equal) (ps := ["x", "due"]) (j := 2) (fs := fs__law_equal) (cs := cs__law_equal) (sps := sps0) (body := ir__law_equal) D__law_equal b__law_equal sc__law_equal (by decide) hb cs_nil (fns_cons c_kind (by decide) (fns_cons c_eq0 (by decide) fns_nil)) ck__law_equal (fun _ _ _ _ ⟨_, e, _⟩ => by rw [e]; rfl) (equal_wp 1 _ _ rfl (fun _ e => by cases e; rfl))
  have c_both : C8.Cal l.prog w K mg base 1 "_law_both" (lift K w (sp_both)) [] := def_ok (N := nm__law_both) (ps := ["one", "two"]) (j := 0) (fs := fs__law_both) (cs := cs__law_both) (sps := sps82) (body := ir__law_both) D__law_both b__law_both sc__law_both (by decide) hb cs_nil fns_nil ck__law_both (fun _ _ _ _ ⟨_, _, e, _⟩ => by rw [e]; rfl) (both_wp _)
  have c_tidy : C8.Cal l.prog w K mg base 1 "_law_tidy" (lift K w (sp_tidy)) [] := def_ok (N := nm__law_tidy) (ps := ["numbers"]) (j := 0) (fs := fs__law_tidy) (cs := cs__law_tidy) (sps := sps82) (body := ir__law_tidy) D__law_tidy b__law_tidy sc__law_tidy (by decide) hb cs_nil fns_nil ck__law_tidy (fun _ _ _ _ ⟨_, e, _⟩ => by rw [e]; rfl) (tidy_wp _)
  have c_ranks : C8.Cal l.prog w K mg base 2 "_law_ranks" (lift K w (sp_ranks)) [] := def_ok (N := nm__law_ranks) (ps := ["pool", "n"]) (j := 1) (fs := fs__law_ranks) (cs := cs__law_ranks) (sps := sps82) (body := ir__law_ranks) D__law_ranks b__law_ranks sc__law_ranks (by decide) hb cs_nil (fns_cons c_tidy (by decide) (fns_cons c_draw (by decide) fns_nil)) ck__law_ranks (fun _ _ _ _ ⟨_, e, _⟩ => by rw [e]; rfl) (ranks_wp _ _ rfl rfl)
  have c_lleast : C8.Cal l.prog w K mg base 1 "_law_least" (lift K w (sp_least)) [] := def_ok (N := nm__law_least) (ps := ["ranks", "menu"]) (j := 0) (fs := fs__law_least) (cs := cs__law_least) (sps := sps82) (body := ir__law_least) D__law_least b__law_least sc__law_least (by decide) hb cs_nil fns_nil ck__law_least (fun _ _ _ _ ⟨_, _, e, _⟩ => by rw [e]; rfl) (lleast_wp _)
  have c_picks : C8.Cal l.prog w K mg base 2 "_law_random_picks" (lift K w (sp_picks)) [] := def_ok (N := nm__law_random_picks) (ps := ["pool", "menu"]) (j := 1) (fs := fs__law_random_picks) (cs := cs__law_random_picks) (sps := sps82) (body := ir__law_random_picks) D__law_random_picks b__law_random_picks sc__law_random_picks (by decide) hb cs_nil (fns_cons c_draw (by decide) fns_nil) ck__law_random_picks (fun _ _ _ _ ⟨_, e, _⟩ => by rw [e]; rfl) (picks_wp _ _ rfl)
  exact law_ok (j := 4) (N := ["script", "pool", "turn", "n", "ranks", "one", "two", "both", "first", "plain", "due", "methods", "k", "last"]) (body := ir_law82) (fs := fs_law82) (cs := []) (sps := sps82) FL sc_law (by decide) hb cs_nil (fns_cons c_draw (by decide) (fns_cons c_ranks (by decide) (fns_cons c_picks (by decide) (fns_cons c_both (by decide) (fns_cons c_lleast (by decide) (fns_cons c_eq1 (by decide) (fns_cons c_least (by decide) (fns_cons c_moved (by decide) (fns_cons c_moved2 (by decide) fns_nil))))))))) c_pool (by decide) rfl (by decide +kernel) (by decide +kernel) (law82 ⟨rfl, rfl, rfl, rfl, rfl, rfl, rfl, rfl, rfl⟩ _)
end PL
open PySem PySem.W PyProof.Rows
set_option maxRecDepth 100000 in
set_option maxHeartbeats 0 in
theorem PySem.Challenge.cw_whypicked_k82_whole_news_after_news_holds : PySem.Challenge.rw_whypicked_k82_whole_news_after_news.Holds := by
  w_on; o_law; k_head; (case hw => w_witness2)
  k_fill
  refine PL.ends (k := 5) (l := PySem.Challenge.rw_whypicked_k82_whole_news_after_news) rfl rfl ⟨rfl, by decide, by decide⟩ (fun w h Y => PySem.W.kIn_of Y) ?F
  case F =>
    intro w mg fa h KX G hmg
    have hb : PL.BltOk mg := by
      refine' PL.blt_mk KX G ?z1 ?z2 ?z3 ?z4 ?z5 ?z6 ?z7 ?z8 ?z9 ?z10 ?z11 ?z12 ?z13 ?z14 ?z15 ?z16 ?z17 ?z18
      (case z1 => k_is); (case z2 => k_is); (case z3 => k_is); (case z4 => k_is); (case z5 => k_is); (case z6 => k_is)
      (case z7 => k_is); (case z8 => k_is); (case z9 => k_is); (case z10 => k_is); (case z11 => k_is); (case z12 => k_is)
      (case z13 => k_is); (case z14 => k_is); (case z15 => k_is); (case z16 => k_is); (case z17 => k_is); (case z18 => k_is)
    refine' PL.all_ok (l := PySem.Challenge.rw_whypicked_k82_whole_news_after_news) rfl KX G hmg hb ?k_LEXIC ?k_NATURAL ?d__law_cell ?d__law_draw ?d__law_pool ?d_least_of ?d_places ?d_key_of ?d_moved ?d_moved_by_all ?d__law_numbers ?d__law_kind ?d__law_equal ?d__law_both ?d__law_tidy ?d__law_ranks ?d__law_least ?d__law_random_picks ?d_law
    (case k_LEXIC => k_is)
    (case k_NATURAL => k_is)
    (case d__law_cell => refine' PL.df_mk ?a ?l ?c ?k; (case a => k_is); (case l => k_is); (case c => k_is); (case k => k_is))
    (case d__law_draw => refine' PL.df_mk ?a ?l ?c ?k; (case a => k_is); (case l => k_is); (case c => k_is); (case k => k_is))
    (case d__law_pool => refine' PL.df_mk ?a ?l ?c ?k; (case a => k_is); (case l => k_is); (case c => k_is); (case k => k_is))
    (case d_least_of => refine' PL.df_mk ?a ?l ?c ?k; (case a => k_is); (case l => k_is); (case c => k_is); (case k => k_is))
    (case d_places => refine' PL.df_mk ?a ?l ?c ?k; (case a => k_is); (case l => k_is); (case c => k_is); (case k => k_is))
    (case d_key_of => refine' PL.df_mk ?a ?l ?c ?k; (case a => k_is); (case l => k_is); (case c => k_is); (case k => k_is))
    (case d_moved => refine' PL.df_mk ?a ?l ?c ?k; (case a => k_is); (case l => k_is); (case c => k_is); (case k => k_is))
    (case d_moved_by_all => refine' PL.df_mk ?a ?l ?c ?k; (case a => k_is); (case l => k_is); (case c => k_is); (case k => k_is))
    (case d__law_numbers => refine' PL.df_mk ?a ?l ?c ?k; (case a => k_is); (case l => k_is); (case c => k_is); (case k => k_is))
    (case d__law_kind => refine' PL.df_mk ?a ?l ?c ?k; (case a => k_is); (case l => k_is); (case c => k_is); (case k => k_is))
    (case d__law_equal => refine' PL.df_mk ?a ?l ?c ?k; (case a => k_is); (case l => k_is); (case c => k_is); (case k => k_is))
    (case d__law_both => refine' PL.df_mk ?a ?l ?c ?k; (case a => k_is); (case l => k_is); (case c => k_is); (case k => k_is))
    (case d__law_tidy => refine' PL.df_mk ?a ?l ?c ?k; (case a => k_is); (case l => k_is); (case c => k_is); (case k => k_is))
    (case d__law_ranks => refine' PL.df_mk ?a ?l ?c ?k; (case a => k_is); (case l => k_is); (case c => k_is); (case k => k_is))
    (case d__law_least => refine' PL.df_mk ?a ?l ?c ?k; (case a => k_is); (case l => k_is); (case c => k_is); (case k => k_is))
    (case d__law_random_picks => refine' PL.df_mk ?a ?l ?c ?k; (case a => k_is); (case l => k_is); (case c => k_is); (case k => k_is))
    (case d_law => refine' PL.df_mk ?a ?l ?c ?k; (case a => k_is); (case l => k_is); (case c => k_is); (case k => k_is))
