import PyProof.Rows.All
import Wide.All
import OpenK.AllK
import Wide.FinOn
import HandS.ForMost
import HandS.Deep
import KE.KeyNested
import KE.KDictKeyed
import KE.SortData
import KE.DataMinMax
import HandS.TupAny
import HandS.TupMul
import HandS.Flow
import HandS.Style
import HandS.TupLe
import PyProof.Rows.TupTab
import HandS.IsInst
import HandS.Conv
import HandS.Sort
import HandS.TupLen
import HandS.Strs
import HandS.SortKw
import HandS.Codes
import HandS.Iter
import HandS.Remove
import HandS.Comp
import HandS.SortOrd
import KE.KDictSum
import PyProof.TupleOfSeq
import HandS.DictComp
import KE.KDictCopyH
import KE.GoesEnum
import HandS.DictTup
import HandS.SetFor
import PySem.Challenge.RW_whypicked_k17_whole_least_rules_of_geome
set_option Elab.async false
set_option linter.all false
set_option maxRecDepth 100000
set_option maxHeartbeats 4000000
namespace PL
open PySem PySem.Spec PyProof.Rows L2
inductive D where
  | non
  | bl (b : Bool)
  | int (i : Int)
  | str (s : Str)
  | tup (xs : List D)
  | lst (xs : List D)
  | dct (kvs : List (D × D))
  | rng (lo hi : Int)
  | pool
mutual
def D.py : D → PyData
  | .non => .none
  | .bl b => .bool b
  | .int i => .int i
  | .str s => .str s
  | .tup xs => .tuple (D.pys xs)
  | .lst xs => .list (D.pys xs)
  | .dct _ => .dict []
  | .rng _ _ => .dict []
  | .pool => .dict []
def D.pys : List D → List PyData
  | [] => []
  | x :: xs => x.py :: D.pys xs
end
def shp (d : D) : Bool := SeqAt.shaped d.py
def deq (a b : D) : Bool := PyData.eqv a.py b.py
inductive SV where
  | no
  | val (d : D)
  | own (xs : List D)
  | owd (kvs : List (D × D))
inductive RV where
  | val (d : D)
  | brw (d : D)
  | own (xs : List D)
  | owd (kvs : List (D × D))
def RV.toD : RV → D
  | .val d => d
  | .brw d => d
  | .own xs => .lst xs
  | .owd kvs => .dct kvs
def RV.kept (r : RV) (Q : D → Prop) : Prop :=
  match r with
  | .val d => Q d
  | .brw _ => False
  | .own xs => Q (.lst xs)
  | .owd kvs => Q (.dct kvs)
def RV.slot (r : RV) (Q : SV → Prop) : Prop :=
  match r with
  | .val d => Q (.val d)
  | .brw _ => False
  | .own xs => Q (.own xs)
  | .owd kvs => Q (.owd kvs)
structure PEnv where
  sl : List SV
  dr : Nat
abbrev RK := RV → PEnv → Prop
inductive Op2 where
  | add | sub | mul | fdiv | mod | pow
  deriving DecidableEq
inductive Cm where
  | eq | ne | lt | le | gt | ge | isin | notin | is | isnot
  deriving DecidableEq
inductive Ty where
  | bool | int | str | tuple | list | dict
  deriving DecidableEq
inductive BI where
  | len | int | str | tuple | list | sorted | min | max | sum | any | all | abs | bool | dict | range
  | minD | maxD
  deriving DecidableEq
inductive MT where
  | index | get | upper | join | split
  deriving DecidableEq
inductive Tg where
  | nm (i : Nat)
  | tp (is : List Nat)
  deriving DecidableEq
def Tg.slots : Tg → List Nat
  | .nm i => [i]
  | .tp is => is
inductive IE where
  | cst (d : D)
  | var (i : Nat)
  | bor (i : Nat)
  | bin (o : Op2) (a b : IE)
  | neg (a : IE)
  | cmp (c : Cm) (a b : IE)
  | cmp2 (c c' : Cm) (a b d : IE)
  | tst (a : IE)
  | and (a b : IE)
  | or (a b : IE)
  | not (a : IE)
  | ite (c a b : IE)
  | tup (as : IE)
  | lst (as : IE)
  | dnew
  | anil
  | acons (a as : IE)
  | idx (a b : IE)
  | slc (a lo hi : IE)
  | rev (a : IE)
  | call (f : Nat) (as : IE)
  | callb (f : Nat) (as : IE)
  | blt (f : BI) (as : IE)
  | isi (a : IE) (t : Ty)
  | mth (m : MT) (a as : IE)
  | itSeq (a : IE)
  | itR1 (a : IE)
  | itR2 (a b : IE)
  | itEnum (a : IE)
  | itZip (a b : IE)
  | itZip3 (a b c : IE)
  | itItems (a : IE)
  | comp (vs : List Nat) (tg : Tg) (it c e : IE)
  | comp2 (vs vs1 : List Nat) (tg : Tg) (it c : IE) (tg1 : Tg) (it1 c1 e : IE)
  | dcomp (vs : List Nat) (tg : Tg) (it c k v : IE)
  | mmd (mx : Bool) (a e : IE)
inductive IS where
  | skip
  | seq (a b : IS)
  | asg (t : Tg) (e : IE)
  | asgS (i : Nat) (k e : IE)
  | aug (i : Nat) (e : IE)
  | app (i : Nat) (e : IE)
  | ext (i : Nat) (e : IE)
  | remv (i : Nat) (e : IE)
  | pop0 (t : Option Nat) (i : Nat)
  | pop1 (t : Option Nat) (i : Nat) (e : IE)
  | popT (j : Nat) (i : Nat) (e : IE)
  | sdef (i : Nat) (k e : IE)
  | ifs (c : IE) (a b : IS)
  | fr (t : Tg) (it : IE) (b : IS)
  | frl (t : Tg) (i : Nat) (b : IS)
  | whl (c : IE) (b : IS)
  | ret (e : IE)
  | ret0
  | reto (i : Nat)
  | brk
  | cnt
  | ex (e : IE)
  | rais (n : Nat)
def truthD : D → Option Bool
  | .non => some false
  | .bl b => some b
  | .int i => some (i != 0)
  | .lst xs => some (!xs.isEmpty)
  | .tup xs => some (!xs.isEmpty)
  | _ => none
def binP (o : Op2) (a b : D) (Q : RV → Prop) : Prop :=
  match o with
  | .add => match a, b with
    | .int i, .int j => Q (.val (.int (i + j)))
    | .str x, .str y => x.length + y.length ≤ sizeLine ∧ Q (.val (.str (x ++ y)))
    | .tup xs, .tup ys => xs.length + ys.length ≤ sizeLine ∧ Q (.val (.tup (xs ++ ys)))
    | .lst xs, .lst ys => xs.length + ys.length ≤ sizeLine ∧ Q (.own (xs ++ ys))
    | _, _ => False
  | .sub => match a, b with
    | .int i, .int j => Q (.val (.int (i - j)))
    | _, _ => False
  | .mul => match a, b with
    | .int i, .int j => CMul i j ∧ Q (.val (.int (i * j)))
    | .lst xs, .int k => (-(2 ^ 63) ≤ k ∧ k < 2 ^ 63 ∧ xs.length * k.toNat ≤ sizeLine) ∧ Q (.own (List.replicate k.toNat xs).flatten)
    | .tup xs, .int k => (1 ≤ k ∧ k ≤ 1000 ∧ xs.length ≤ 1000) ∧ Q (.val (.tup (List.replicate k.toNat xs).flatten))
    | _, _ => False
  | .fdiv => match a, b with
    | .int i, .int j => CDivN i j ∧ Q (.val (.int (i.fdiv j)))
    | _, _ => False
  | .mod => match a, b with
    | .int i, .int j => j ≠ 0 ∧ Q (.val (.int (i.fmod j)))
    | _, _ => False
  | .pow => match a, b with
    | .int i, .int j => CPow i j ∧ Q (.val (.int (i ^ j.toNat)))
    | _, _ => False
def eqP (a b : D) (Q : Bool → Prop) : Prop :=
  match a, b with
  | .int i, .int j => Q (decide (i = j))
  | .str x, .str y => Q (decide (x = y))
  | .bl x, .bl y => Q (decide (x = y))
  | .non, .non => Q true
  | .non, .int _ => Q false
  | .int _, .non => Q false
  | a, b => (shp a = true ∧ shp b = true) ∧ Q (deq a b)
def rngL (lo hi : Int) : List D := (List.range (hi - lo).toNat).map fun i => D.int (lo + (i : Nat))
def itemsD : D → Option (List D)
  | .lst xs => some xs
  | .tup xs => some xs
  | .dct kvs => some (kvs.map (·.1))
  | .rng lo hi => some (rngL lo hi)
  | _ => none
def seqD : D → Option (List D)
  | .lst xs => some xs
  | .tup xs => some xs
  | _ => none
mutual
def ltD : D → D → Option Bool
  | .int i, .int j => some (decide (i < j))
  | .str x, .str y => some (decide (x.cps.toList < y.cps.toList))
  | .tup xs, .tup ys => ltDs xs ys
  | _, _ => none
def ltDs : List D → List D → Option Bool
  | [], [] => some false
  | [], _ :: _ => some true
  | _ :: _, [] => some false
  | x :: xs, y :: ys => match ltDs xs ys with
    | none => none
    | some r => if deq x y = true then some r else ltD x y
end
def ordP (c : Cm) (a b : D) (Q : Bool → Prop) : Prop :=
  match a, b with
  | .int i, .int j => match c with
    | .lt => Q (decide (i < j))
    | .le => Q (decide (i ≤ j))
    | .gt => Q (decide (j < i))
    | .ge => Q (decide (j ≤ i))
    | _ => False
  | a, b => match c with
    | .lt => ((shp a = true ∧ shp b = true) ∧ (ltD a b).isSome = true) ∧ Q ((ltD a b).getD false)
    | _ => False
mutual
def nk : D → Option NestedKey
  | .int i => some (.num i)
  | .str x => some (.text x)
  | .tup xs => (nks xs).map .tup
  | _ => none
def nks : List D → Option (List NestedKey)
  | [] => some []
  | x :: xs => (nk x).bind fun a => (nks xs).map fun as => a :: as
end
def scal : D → Bool
  | .int _ => true
  | .str _ => true
  | _ => false
def keyOk (kvs : List (D × D)) (k : D) : Bool := (match nk k with | some n => decide (n.depth ≤ 8) | none => false) && kvs.all fun p => scal p.1 == scal k
def inP (a b : D) (Q : Bool → Prop) : Prop :=
  match b with
  | .lst xs => (shp a = true ∧ shp (.lst xs) = true) ∧ Q (xs.any fun z => deq z a)
  | .tup xs => (shp a = true ∧ shp (.tup xs) = true) ∧ Q (xs.any fun z => deq z a)
  | .dct kvs => keyOk kvs a = true ∧ Q (kvs.any fun p => deq p.1 a)
  | .str y => match a with
    | .str x => Q (!(Builtin.Str.occurrences y x 0 y.length 1).isEmpty)
    | _ => False
  | _ => False
def isNon : D → Bool
  | .non => true
  | _ => false
def cmpP (c : Cm) (a b : D) (Q : Bool → Prop) : Prop :=
  match c with
  | .eq => eqP a b Q
  | .ne => eqP a b fun r => Q (!r)
  | .isin => inP a b Q
  | .notin => inP a b fun r => Q (!r)
  | .is => match b with
    | .non => Q (isNon a)
    | .bl j => (match a with | .bl i => Q (decide (i = j)) | _ => False)
    | _ => False
  | .isnot => match b with
    | .non => Q (!isNon a)
    | .bl j => (match a with | .bl i => Q (!decide (i = j)) | _ => False)
    | _ => False
  | c => ordP c a b Q
def lookD (kvs : List (D × D)) (k : D) : Option D := (kvs.find? fun p => deq p.1 k).map (·.2)
def putD (kvs : List (D × D)) (k v : D) : List (D × D) := if kvs.any (fun p => deq p.1 k) then kvs.map (fun p => if deq p.1 k then (p.1, v) else p) else kvs ++ [(k, v)]
def idxP (a b : D) (Q : D → Prop) : Prop :=
  match a with
  | .lst xs => (match b with | .int i => ∃ v, atI xs i = some v ∧ Q v | _ => False)
  | .tup xs => (match b with | .int i => ∃ v, atI xs i = some v ∧ Q v | _ => False)
  | .str z => (match b with | .int i => z.length ≤ sizeLine ∧ ∃ c, atI z.cps.toList i = some c ∧ Q (.str ⟨#[c]⟩) | _ => False)
  | .dct kvs => keyOk kvs b = true ∧ ∃ v, lookD kvs b = some v ∧ Q v
  | _ => False
def cutL {α : Type} (xs : List α) (lo hi : Option Int) : List α := (xs.drop (HT.sIx xs.length 0 lo)).take (HT.sIx xs.length xs.length hi - HT.sIx xs.length 0 lo)
def isRng : D → Bool
  | .rng _ _ => true
  | _ => false
def isMiss : IE → Bool
  | .cst .non => true
  | _ => false
def slcP (a : D) (l h : Option Int) (Q : RV → Prop) : Prop :=
  match a with
  | .lst xs => Q (.own (cutL xs l h))
  | .tup xs => Q (.val (.tup (cutL xs l h)))
  | _ => False
def revP (a : D) (Q : RV → Prop) : Prop :=
  match a with
  | .lst xs => Q (.own xs.reverse)
  | .tup xs => Q (.val (.tup xs.reverse))
  | _ => False
def isTy (t : Ty) : D → Bool
  | .bl _ => t == .bool || t == .int
  | .int _ => t == .int
  | .str _ => t == .str
  | .tup _ => t == .tuple
  | .lst _ => t == .list
  | .dct _ => t == .dict
  | _ => false
def hasTy : D → Bool
  | .non | .bl _ | .int _ | .str _ | .tup _ | .lst _ => true
  | _ => false
def sortable (xs : List D) : Prop := (∀ x ∈ xs, shp x = true ∧ x.py ≠ .none) ∧ ∀ x ∈ xs, ∀ y ∈ xs, PySem.W.alike x.py y.py = true
def leB (x y : D) : Bool := PySem.W.dataLe false D.py x y
def ltB (x y : D) : Bool := (ltD x y).getD false
def ints? : List D → Option (List Int)
  | [] => some []
  | .int i :: xs => (ints? xs).map (i :: ·)
  | _ :: _ => none
def bls? : List D → Option (List Bool)
  | [] => some []
  | .bl i :: xs => (bls? xs).map (i :: ·)
  | _ :: _ => none
def rngOk (i : Int) : Prop := -(2 ^ 62) ≤ i ∧ i < 2 ^ 62
def sortD (xs : List D) : List D := xs.mergeSort leB
def sortP (xs : List D) (Q : RV → Prop) : Prop := sortable xs ∧ Q (.own (sortD xs))
def minL (is : List Int) : Int := is.tail.foldl min (is.headD 0)
def maxL (is : List Int) : Int := is.tail.foldl max (is.headD 0)
def minY (xs : List D) : PyData := match xs with
  | [] => .none
  | x :: r => PySem.W.minD x.py (D.pys r)
def maxY (xs : List D) : PyData := match xs with
  | [] => .none
  | x :: r => PySem.W.maxD x.py (D.pys r)
def minP (xs : List D) (Q : RV → Prop) : Prop := (∃ is, ints? xs = some is ∧ is ≠ [] ∧ Q (.val (.int (minL is)))) ∨ (sortable xs ∧ xs ≠ [] ∧ ∀ x ∈ xs, x.py = minY xs → Q (.val x))
def maxP (xs : List D) (Q : RV → Prop) : Prop := (∃ is, ints? xs = some is ∧ is ≠ [] ∧ Q (.val (.int (maxL is)))) ∨ (sortable xs ∧ xs ≠ [] ∧ ∀ x ∈ xs, x.py = maxY xs → Q (.val x))
def bltP (f : BI) (as : List D) (Q : RV → Prop) : Prop :=
  match f, as with
  | .len, [.str s] => s.length ≤ sizeLine ∧ Q (.val (.int s.length))
  | .len, [.dct kvs] => Q (.val (.int kvs.length))
  | .len, [.lst xs] => Q (.val (.int xs.length))
  | .len, [.tup xs] => Q (.val (.int xs.length))
  | .int, [.int i] => Q (.val (.int i))
  | .int, [.bl b] => Q (.val (.int (if b then 1 else 0)))
  | .str, [.int i] => i.natAbs.log2 < 1920 ∧ Q (.val (.str (toString i)))
  | .tuple, [.lst xs] => Q (.val (.tup xs))
  | .tuple, [.tup xs] => Q (.val (.tup xs))
  | .tuple, [.rng lo hi] => (hi - lo).toNat ≤ 16777216 ∧ Q (.val (.tup (rngL lo hi)))
  | .list, [.lst xs] => Q (.own xs)
  | .list, [.tup xs] => Q (.own xs)
  | .list, [.rng lo hi] => (hi - lo).toNat ≤ 16777216 ∧ Q (.own (rngL lo hi))
  | .list, [.dct kvs] => Q (.own (kvs.map (·.1)))
  | .sorted, [.lst xs] => sortP xs Q
  | .sorted, [.tup xs] => sortP xs Q
  | .sorted, [.dct kvs] => sortP (kvs.map (·.1)) Q
  | .min, [.lst xs] => minP xs Q
  | .max, [.lst xs] => maxP xs Q
  | .min, [.tup xs] => minP xs Q
  | .max, [.tup xs] => maxP xs Q
  | .min, [.int i, .int j] => Q (.val (.int (if j < i then j else i)))
  | .max, [.int i, .int j] => Q (.val (.int (if j > i then j else i)))
  | .minD, [.lst xs, d] => if xs = [] then Q (.val d) else minP xs Q
  | .maxD, [.lst xs, d] => if xs = [] then Q (.val d) else maxP xs Q
  | .sum, [.lst xs] => ∃ is, ints? xs = some is ∧ Q (.val (.int is.sum))
  | .any, [.lst xs] => ∃ bs, bls? xs = some bs ∧ Q (.val (.bl (bs.any id)))
  | .all, [.lst xs] => ∃ bs, bls? xs = some bs ∧ Q (.val (.bl (bs.all id)))
  | .abs, [.int i] => Q (.val (.int (if i < 0 then -i else i)))
  | .range, [.int j] => rngOk j ∧ Q (.val (.rng 0 j))
  | .range, [.int i, .int j] => (rngOk i ∧ rngOk j) ∧ Q (.val (.rng i j))
  | _, _ => False
def idxOfD (xs : List D) (y : D) : Option Nat := xs.findIdx? fun z => deq z y
def recvOk (m : MT) (a : D) : Bool := match m, a with
  | .index, .lst _ | .index, .tup _ | .get, .dct _ | .upper, .str _ => true
  | _, _ => false
def lends : MT → Bool
  | .get => false
  | _ => true
def mthP (m : MT) (a : D) (as : List D) (Q : RV → Prop) : Prop :=
  match m, as with
  | .index, [y] => (shp y = true ∧ shp a = true) ∧ match a with
    | .lst xs => ∃ j, idxOfD xs y = some j ∧ Q (.val (.int (j : Nat)))
    | .tup xs => ∃ j, idxOfD xs y = some j ∧ Q (.val (.int (j : Nat)))
    | _ => False
  | .upper, [] => ∃ x, a = .str x ∧ x.length ≤ 5592405 ∧ Q (.val (.str (Txt.upper x)))
  | .get, [k, v] => ∃ kvs, a = .dct kvs ∧ keyOk kvs k = true ∧ Q (.val ((lookD kvs k).getD v))
  | .get, [k] => ∃ kvs, a = .dct kvs ∧ keyOk kvs k = true ∧ Q (.val ((lookD kvs k).getD .non))
  | _, _ => False
def PEnv.get (ρ : PEnv) (i : Nat) : SV := ρ.sl.getD i .no
def PEnv.put (ρ : PEnv) (i : Nat) (v : SV) : PEnv := ⟨ρ.sl.set i v, ρ.dr⟩
def rdV (ρ : PEnv) (i : Nat) (Q : RK) : Prop :=
  match ρ.get i with
  | .val d => Q (.val d) ρ
  | .own xs => Q (.val (.lst xs)) (ρ.put i (.val (.lst xs)))
  | .owd kvs => Q (.val (.dct kvs)) (ρ.put i (.val (.dct kvs)))
  | .no => False
def rdB (ρ : PEnv) (i : Nat) (Q : RK) : Prop :=
  match ρ.get i with
  | .val d => Q (.val d) ρ
  | .own xs => Q (.brw (.lst xs)) ρ
  | .owd kvs => Q (.brw (.dct kvs)) ρ
  | .no => False
def putAll (ρ : PEnv) : List Nat → List D → Option PEnv
  | [], [] => some ρ
  | i :: is, d :: ds => putAll (ρ.put i (.val d)) is ds
  | _, _ => none
def tgP (t : Tg) (d : D) (ρ : PEnv) (Q : PEnv → Prop) : Prop :=
  match t with
  | .nm i => Q (ρ.put i (.val d))
  | .tp is => ∃ xs ρ', d = .tup xs ∧ putAll ρ is xs = some ρ' ∧ Q ρ'
def PEnv.wipe (ρ : PEnv) (vs : List Nat) : PEnv := ⟨vs.foldl (fun l i => l.set i .no) ρ.sl, ρ.dr⟩
def PEnv.back (ρ₀ ρ : PEnv) (vs : List Nat) : PEnv := ⟨vs.foldl (fun l i => l.set i (ρ₀.get i)) ρ.sl, ρ.dr⟩
def SV.plain : SV → Bool
  | .no => true
  | .val _ => true
  | _ => false
def SV.isO : SV → Bool
  | .own _ => true
  | _ => false
def SV.isD : SV → Bool
  | .owd _ => true
  | _ => false
def PEnv.plainAt (ρ : PEnv) (vs : List Nat) : Bool := vs.all fun i => (ρ.get i).plain
def brn (b : Bool) (A B : Prop) : Prop := (b = true → A) ∧ (b = false → B)
theorem brn_ite (b : Bool) (A B : Prop) : brn b A B = if b = true then A else B := propext ⟨fun h => by cases b; exact h.2 rfl; exact h.1 rfl, fun h => by cases b; exact ⟨fun z => (by cases z), fun _ => h⟩; exact ⟨fun _ => h, fun z => (by cases z)⟩⟩
def compL (vs : List Nat) (tg : Tg) (fc fe : PEnv → RK → Prop) : List D → PEnv → List D → (List D → PEnv → Prop) → Prop
  | [], ρ, acc, Q => Q acc ρ
  | d :: ds, ρ, acc, Q => tgP tg d ρ fun ρ1 => fc ρ1 fun c ρ2 => ∃ b, c = .val (.bl b) ∧
      brn b (fe ρ2 fun r ρ3 => r.kept fun x => acc.length < sizeLine ∧ compL vs tg fc fe ds (ρ3.wipe vs) (acc ++ [x]) Q)
        (compL vs tg fc fe ds (ρ2.wipe vs) acc Q)
def compL2 (vs vs1 : List Nat) (tg : Tg) (fc : PEnv → RK → Prop) (fi : PEnv → (List D → PEnv → Prop) → Prop) (tg1 : Tg) (fc1 fe : PEnv → RK → Prop) : List D → PEnv → List D → (List D → PEnv → Prop) → Prop
  | [], ρ, acc, Q => Q acc ρ
  | d :: ds, ρ, acc, Q => tgP tg d ρ fun ρ1 => fc ρ1 fun c ρ2 => ∃ b, c = .val (.bl b) ∧
      brn b (fi ρ2 fun es ρ3 => compL vs1 tg1 fc1 fe es (ρ3.wipe vs1) acc fun acc' ρ4 => compL2 vs vs1 tg fc fi tg1 fc1 fe ds (ρ4.wipe vs) acc' Q)
        (compL2 vs vs1 tg fc fi tg1 fc1 fe ds (ρ2.wipe vs) acc Q)
def dcompL (vs : List Nat) (tg : Tg) (fc fk fv : PEnv → RK → Prop) : List D → PEnv → List (D × D) → (List (D × D) → PEnv → Prop) → Prop
  | [], ρ, acc, Q => Q acc ρ
  | d :: ds, ρ, acc, Q => tgP tg d ρ fun ρ1 => fc ρ1 fun c ρ2 => ∃ b, c = .val (.bl b) ∧
      brn b (fk ρ2 fun k ρ3 => k.kept fun kd => fv ρ3 fun v ρ4 => v.kept fun vd => keyOk acc kd = true ∧ acc.length < sizeLine ∧ dcompL vs tg fc fk fv ds (ρ4.wipe vs) (putD acc kd vd) Q)
        (dcompL vs tg fc fk fv ds (ρ2.wipe vs) acc Q)
abbrev Spec := List D → Nat → (RV → Nat → Prop) → (Nat → Nat → Prop) → Prop
structure PC where
  sp : Nat → Spec
  xe : Nat → Nat → Prop
abbrev AK := List D → PEnv → Prop
def optP (b : Bool) (f : PEnv → RK → Prop) (ρ : PEnv) (Q : Option Int → PEnv → Prop) : Prop := if b = true then Q none ρ else f ρ fun l ρ' => ∃ i, l.toD = .int i ∧ Q (some i) ρ'
mutual
def wpE (C : PC) : IE → PEnv → RK → Prop
  | .cst d, ρ, Q => Q (.val d) ρ
  | .var i, ρ, Q => rdV ρ i Q
  | .bor i, ρ, Q => rdB ρ i Q
  | .bin o a b, ρ, Q => wpE C a ρ fun x ρ1 => wpE C b ρ1 fun y ρ2 => binP o x.toD y.toD fun r => Q r ρ2
  | .neg a, ρ, Q => wpE C a ρ fun x ρ1 => ∃ i, x.toD = .int i ∧ Q (.val (.int (-i))) ρ1
  | .cmp c a b, ρ, Q => wpE C a ρ fun x ρ1 => wpE C b ρ1 fun y ρ2 => cmpP c x.toD y.toD fun r => Q (.val (.bl r)) ρ2
  | .cmp2 c c' a b d, ρ, Q => wpE C a ρ fun x ρ1 => wpE C b ρ1 fun y ρ2 => cmpP c x.toD y.toD fun r => brn r (wpE C d ρ2 fun z ρ3 => cmpP c' y.toD z.toD fun r' => Q (.val (.bl r')) ρ3) (Q (.val (.bl false)) ρ2)
  | .tst a, ρ, Q => wpE C a ρ fun x ρ1 => ∃ b, truthD x.toD = some b ∧ Q (.val (.bl b)) ρ1
  | .and a b, ρ, Q => wpE C a ρ fun x ρ1 => ∃ c, x = .val (.bl c) ∧ brn c (wpE C b ρ1 Q) (Q (.val (.bl false)) ρ1)
  | .or a b, ρ, Q => wpE C a ρ fun x ρ1 => ∃ c, x = .val (.bl c) ∧ brn c (Q (.val (.bl true)) ρ1) (wpE C b ρ1 Q)
  | .not a, ρ, Q => wpE C a ρ fun x ρ1 => ∃ c, x = .val (.bl c) ∧ Q (.val (.bl (!c))) ρ1
  | .ite c a b, ρ, Q => wpE C c ρ fun x ρ1 => ∃ k, x = .val (.bl k) ∧ brn k (wpE C a ρ1 Q) (wpE C b ρ1 Q)
  | .tup as, ρ, Q => wpA C false as ρ fun ds ρ1 => ds.length ≤ sizeLine ∧ Q (.val (.tup ds)) ρ1
  | .lst as, ρ, Q => wpA C false as ρ fun ds ρ1 => ds.length ≤ sizeLine ∧ Q (.own ds) ρ1
  | .dnew, ρ, Q => Q (.owd []) ρ
  | .idx a b, ρ, Q => wpE C a ρ fun x ρ1 => wpE C b ρ1 fun y ρ2 => idxP x.toD y.toD fun d => Q (.val d) ρ2
  | .slc a lo hi, ρ, Q => wpE C a ρ fun x ρ1 => optP (isMiss lo) (wpE C lo) ρ1 fun l ρ2 => optP (isMiss hi) (wpE C hi) ρ2 fun h ρ3 => slcP x.toD l h fun r => Q r ρ3
  | .rev a, ρ, Q => wpE C a ρ fun x ρ1 => revP x.toD fun r => Q r ρ1
  | .call f as, ρ, Q => wpA C false as ρ fun ds ρ1 => C.sp f ds ρ1.dr (fun r n => Q r ⟨ρ1.sl, n⟩) C.xe
  | .blt f as, ρ, Q => wpA C true as ρ fun ds ρ1 => bltP f ds fun r => Q r ρ1
  | .isi a t, ρ, Q => wpE C a ρ fun x ρ1 => hasTy x.toD = true ∧ Q (.val (.bl (isTy t x.toD))) ρ1
  | .mth m a as, ρ, Q => wpE C a ρ fun x ρ1 => recvOk m x.toD = true ∧ wpA C (lends m) as ρ1 fun ds ρ2 => mthP m x.toD ds fun r => Q r ρ2
  | .comp vs tg it c e, ρ, Q => ρ.plainAt vs = true ∧ wpI C true it ρ fun ds ρ1 => compL vs tg (wpE C c) (wpE C e) ds (ρ1.wipe vs) [] fun acc ρ2 => Q (.own acc) (ρ1.back ρ2 vs)
  | .comp2 vs vs1 tg it c tg1 it1 c1 e, ρ, Q => ρ.plainAt vs = true ∧ wpI C true it ρ fun ds ρ1 => compL2 vs vs1 tg (wpE C c) (wpI C false it1) tg1 (wpE C c1) (wpE C e) ds (ρ1.wipe vs) [] fun acc ρ2 => Q (.own acc) (ρ1.back ρ2 vs)
  | .mmd mx a e, ρ, Q => wpE C a ρ fun x ρ1 => wpE C e ρ1 fun r ρ2 => r.kept fun d => ∃ xs, x.toD = .lst xs ∧ (xs = [] → Q (.val d) ρ2) ∧ (xs ≠ [] → if mx = true then maxP xs fun z => Q z ρ2 else minP xs fun z => Q z ρ2)
  | .dcomp vs tg it c k v, ρ, Q => ρ.plainAt vs = true ∧ wpI C true it ρ fun ds ρ1 => dcompL vs tg (wpE C c) (wpE C k) (wpE C v) ds (ρ1.wipe vs) [] fun acc ρ2 => Q (.owd acc) (ρ1.back ρ2 vs)
  | _, _, _ => False
def wpA (C : PC) : Bool → IE → PEnv → AK → Prop
  | _, .anil, ρ, Q => Q [] ρ
  | b, .acons a as, ρ, Q => wpE C a ρ fun x ρ1 => (if b = true then (fun K : D → Prop => K x.toD) else x.kept) fun d => wpA C b as ρ1 fun ds ρ2 => Q (d :: ds) ρ2
  | _, _, _, _ => False
def wpI (C : PC) : Bool → IE → PEnv → AK → Prop
  | b, .itSeq a, ρ, Q => wpE C a ρ fun x ρ1 => (if b = true then (fun K : D → Prop => K x.toD) else x.kept) fun d => ∃ xs, itemsD d = some xs ∧ ((isRng d = false → xs.length ≤ sizeLine) → Q xs ρ1)
  | _, .itR1 a, ρ, Q => wpE C a ρ fun x ρ1 => ∃ j, x.toD = .int j ∧ rngOk j ∧ Q (rngL 0 j) ρ1
  | _, .itR2 a b, ρ, Q => wpE C a ρ fun x ρ1 => wpE C b ρ1 fun y ρ2 => ∃ i j, x.toD = .int i ∧ y.toD = .int j ∧ (rngOk i ∧ rngOk j) ∧ Q (rngL i j) ρ2
  | b, .itEnum a, ρ, Q => wpE C a ρ fun x ρ1 => (if b = true then (fun K : D → Prop => K x.toD) else x.kept) fun d => ∃ xs, seqD d = some xs ∧ (xs.length ≤ sizeLine → Q (xs.mapIdx fun k d => .tup [.int (k : Nat), d]) ρ1)
  | b, .itZip a c, ρ, Q => wpE C a ρ fun x ρ1 => (if b = true then (fun K : D → Prop => K x.toD) else x.kept) fun d => wpE C c ρ1 fun y ρ2 => (if b = true then (fun K : D → Prop => K y.toD) else y.kept) fun e => ∃ xs ys, seqD d = some xs ∧ seqD e = some ys ∧ (xs.length ≤ sizeLine → Q ((xs.zip ys).map fun p => .tup [p.1, p.2]) ρ2)
  | b, .itZip3 a c a3, ρ, Q => wpE C a ρ fun x ρ1 => (if b = true then (fun K : D → Prop => K x.toD) else x.kept) fun d => wpE C c ρ1 fun y ρ2 => (if b = true then (fun K : D → Prop => K y.toD) else y.kept) fun e => wpE C a3 ρ2 fun z ρ3 => (if b = true then (fun K : D → Prop => K z.toD) else z.kept) fun f => ∃ xs ys zs, seqD d = some xs ∧ seqD e = some ys ∧ seqD f = some zs ∧ (xs.length ≤ sizeLine → Q ((xs.zip (ys.zip zs)).map fun p => .tup [p.1, p.2.1, p.2.2]) ρ3)
  | b, .itItems a, ρ, Q => wpE C a ρ fun x ρ1 => (if b = true then (fun K : D → Prop => K x.toD) else x.kept) fun d => ∃ kvs, d = .dct kvs ∧ (kvs.length ≤ sizeLine → Q (kvs.map fun p => .tup [p.1, p.2]) ρ1)
  | _, _, _, _ => False
end
structure PEnds where
  nx : PEnv → Prop
  rt : RV → Nat → Prop
  bk : PEnv → Prop
  ct : PEnv → Prop
def forL (tg : Tg) (fb : PEnv → PEnds → Prop) : List D → PEnv → PEnds → Prop
  | [], ρ, E => E.nx ρ
  | d :: ds, ρ, E => tgP tg d ρ fun ρ1 => fb ρ1 ⟨fun ρ2 => forL tg fb ds ρ2 E, E.rt, E.nx, fun ρ2 => forL tg fb ds ρ2 E⟩
def forO (tg : Tg) (i : Nat) (fb : PEnv → PEnds → Prop) : Nat → Nat → PEnv → PEnds → Prop
  | 0, _, _, _ => False
  | n + 1, k, ρ, E => ∃ xs, ρ.get i = .own xs ∧ match xs[k]? with
    | none => E.nx ρ
    | some d => tgP tg d ρ fun ρ1 => fb ρ1 ⟨fun ρ2 => forO tg i fb n (k + 1) ρ2 E, E.rt, E.nx, fun ρ2 => forO tg i fb n (k + 1) ρ2 E⟩
def whlL (fc : PEnv → RK → Prop) (fb : PEnv → PEnds → Prop) : Nat → PEnv → PEnds → Prop
  | 0, _, _ => False
  | n + 1, ρ, E => fc ρ fun c ρ1 => ∃ b, c = .val (.bl b) ∧ brn b (fb ρ1 ⟨fun ρ2 => whlL fc fb n ρ2 E, E.rt, E.nx, fun ρ2 => whlL fc fb n ρ2 E⟩) (E.nx ρ1)
def stT (t : Option Nat) (d : D) (ρ : PEnv) : PEnv := match t with
  | some j => ρ.put j (.val d)
  | none => ρ
def wpS (C : PC) : IS → PEnv → PEnds → Prop
  | .skip, ρ, E => E.nx ρ
  | .seq a b, ρ, E => wpS C a ρ { E with nx := fun ρ1 => wpS C b ρ1 E }
  | .asg (.nm i) e, ρ, E => wpE C e ρ fun r ρ1 => r.slot fun v => E.nx (ρ1.put i v)
  | .asg (.tp is) e, ρ, E => wpE C e ρ fun r ρ1 => r.kept fun d => tgP (.tp is) d ρ1 E.nx
  | .asgS i k e, ρ, E => wpE C e ρ fun r ρ1 => r.kept fun d => (ρ1.get i).plain = false ∧ wpE C k ρ1 fun kr ρ2 => match ρ2.get i with
    | .own xs => ∃ n j, kr.toD = .int n ∧ ixN xs.length n = some j ∧ E.nx (ρ2.put i (.own (xs.set j d)))
    | .owd kvs => kr.kept fun kd => keyOk kvs kd = true ∧ kvs.length < sizeLine ∧ E.nx (ρ2.put i (.owd (putD kvs kd d)))
    | _ => False
  | .aug i e, ρ, E => ∃ n, ρ.get i = .val (.int n) ∧ wpE C e ρ fun y ρ1 => ∃ m, y.toD = .int m ∧ E.nx (ρ1.put i (.val (.int (n + m))))
  | .app i e, ρ, E => (ρ.get i).isO = true ∧ wpE C e ρ fun r ρ1 => r.kept fun d => ∃ xs, ρ1.get i = .own xs ∧ xs.length < sizeLine ∧ E.nx (ρ1.put i (.own (xs ++ [d])))
  | .ext i e, ρ, E => (ρ.get i).isO = true ∧ wpE C e ρ fun r ρ1 => ∃ ys xs, r.toD = .lst ys ∧ ρ1.get i = .own xs ∧ xs.length + ys.length ≤ sizeLine ∧ E.nx (ρ1.put i (.own (xs ++ ys)))
  | .remv i e, ρ, E => (ρ.get i).isO = true ∧ wpE C e ρ fun r ρ1 => ∃ xs j is n, r.toD = .int n ∧ ρ1.get i = .own xs ∧ ints? xs = some is ∧ (is[j]? = some n ∧ ∀ m : Nat, m < j → is[m]? ≠ some n) ∧ E.nx (ρ1.put i (.own (xs.eraseIdx j)))
  | .pop0 t i, ρ, E => ∃ xs d, ρ.get i = .own xs ∧ xs[xs.length - 1]? = some d ∧ E.nx (stT t d (ρ.put i (.own xs.dropLast)))
  | .pop1 t i e, ρ, E => (ρ.get i).isO = true ∧ wpE C e ρ fun r ρ1 => ∃ xs n j d, ρ1.get i = .own xs ∧ r.toD = .int n ∧ rngOk n ∧ ixN xs.length n = some j ∧ xs[j]? = some d ∧ E.nx (stT t d (ρ1.put i (.own (xs.eraseIdx j))))
  | .popT k i e, ρ, E => ∃ ts, ρ.get k = .val (.tup ts) ∧ (ρ.get i).isO = true ∧ wpE C e ρ fun r ρ1 => ∃ xs n j d, ρ1.get i = .own xs ∧ r.toD = .int n ∧ rngOk n ∧ ixN xs.length n = some j ∧ xs[j]? = some d ∧ ts.length + 1 ≤ sizeLine ∧
      E.nx ((ρ1.put i (.own (xs.eraseIdx j))).put k (.val (.tup (ts ++ [d]))))
  | .sdef i k e, ρ, E => (ρ.get i).isD = true ∧ wpE C k ρ fun kr ρ1 => kr.kept fun kd => wpE C e ρ1 fun r ρ2 => r.kept fun d => ∃ kvs, ρ2.get i = .owd kvs ∧ keyOk kvs kd = true ∧ kvs.length < sizeLine ∧
      E.nx (ρ2.put i (.owd (if kvs.any (fun p => deq p.1 kd) then kvs else kvs ++ [(kd, d)])))
  | .ifs c a b, ρ, E => wpE C c ρ fun x ρ1 => ∃ k, x = .val (.bl k) ∧ brn k (wpS C a ρ1 E) (wpS C b ρ1 E)
  | .fr tg it b, ρ, E => wpI C false it ρ fun ds ρ1 => forL tg (wpS C b) ds ρ1 E
  | .frl tg i b, ρ, E => ∃ n, forO tg i (wpS C b) n 0 ρ E
  | .whl c b, ρ, E => ∃ n, whlL (wpE C c) (wpS C b) n ρ E
  | .ret e, ρ, E => wpE C e ρ fun r ρ1 => E.rt r ρ1.dr
  | .ret0, ρ, E => E.rt (.val .non) ρ.dr
  | .reto i, ρ, E => match ρ.get i with
    | .own xs => E.rt (.own xs) ρ.dr
    | .owd kvs => E.rt (.owd kvs) ρ.dr
    | _ => False
  | .brk, ρ, E => E.bk ρ
  | .cnt, ρ, E => E.ct ρ
  | .ex e, ρ, E => wpE C e ρ fun _ ρ1 => E.nx ρ1
  | .rais n, ρ, _ => C.xe n ρ.dr
def wpF (C : PC) (n : Nat) (b : IS) (as : List D) (dr : Nat) (Q : RV → Nat → Prop) : Prop :=
  wpS C b ⟨as.map SV.val ++ List.replicate (n - as.length) SV.no, dr⟩ ⟨fun ρ => Q (.val .non) ρ.dr, Q, fun _ => False, fun _ => False⟩
end PL
namespace PL
open PySem PySem.Spec PyProof.Rows L2
structure RC where
  K : PySem.W.Frag
  w : World
  P : Option (Addr × Addr × Addr)
def exO (a : Addr) (o : Obj) : HO := .ext fun h => h.get? a = some o
def TupAt (K : PySem.W.Frag) (F : Hp) (a : Addr) (vs : List V) : Prop :=
  (∃ o, F a = some (.frz o (.tup vs)) ∧ o.dict = none) ∨
    ∃ (o : Obj) (its : Array Value) (n : Nat), K.lookup a = some o ∧ o.cls = .type "tuple" ∧ o.dict = none ∧ o.data = .seq its n ∧ its.size ≤ sizeLine ∧ Vals vs its.toList
def DctAt (F : Hp) (a : Addr) (es : List DictEntry) : Prop :=
  ∃ o ep, F a = some (exO a o) ∧ o.ExactDict ∧ o.data = .dict es.toArray ep ∧ (a == sysModules) = false ∧ es.length ≤ sizeLine
mutual
inductive R (k : RC) (F : Hp) : V → D → Prop where
  | non : R k F .non .non
  | bl (b : Bool) : R k F (.bl b) (.bl b)
  | int (i : Int) : R k F (.int i) (.int i)
  | str (x : Str) : R k F (.str x) (.str x)
  | tup {a : Addr} {vs : List V} {ds : List D} : TupAt k.K F a vs → Rs k F vs ds → R k F (.ref a) (.tup ds)
  | lst {a : Addr} {vs : List V} {ds : List D} : F a = some (.lst vs) → Rs k F vs ds → R k F (.ref a) (.lst ds)
  | dct {a : Addr} {es : List DictEntry} {kvs : List (D × D)} : DctAt F a es → RKs k F es kvs → (kvs.map fun p => nk p.1).Nodup →
      (∀ p ∈ kvs, ∀ q ∈ kvs, scal p.1 = scal q.1) → R k F (.ref a) (.dct kvs)
  | rng {a : Addr} {lo hi : Int} : F a = some (.rng lo hi) → rngOk lo → rngOk hi → R k F (.ref a) (.rng lo hi)
  | pool {a r c : Addr} : k.P = some (a, r, c) → R k F (.ref a) .pool
inductive Rs (k : RC) (F : Hp) : List V → List D → Prop where
  | nil : Rs k F [] []
  | cons {v : V} {vs : List V} {d : D} {ds : List D} : R k F v d → Rs k F vs ds → Rs k F (v :: vs) (d :: ds)
inductive RKs (k : RC) (F : Hp) : List DictEntry → List (D × D) → Prop where
  | nil : RKs k F [] []
  | cons {e : DictEntry} {es : List DictEntry} {kd vd : D} {kvs : List (D × D)} {kv vv : V} {n : NestedKey} : RelV kv e.key → R k F kv kd → RelV vv e.val → R k F vv vd →
      nk kd = some n → n.depth ≤ 8 → e.hash = n.hash k.w → RKs k F es kvs → RKs k F (e :: es) ((kd, vd) :: kvs)
end
section
variable {k : RC} {F F' : Hp}
theorem TupAt.mono {K : PySem.W.Frag} {a : Addr} {vs : List V} (h : TupAt K F a vs) (s : Same F F') : TupAt K F' a vs := by
  rcases h with ⟨o, h, d⟩ | h
  · exact .inl ⟨o, s _ _ h, d⟩
  · exact .inr h
theorem TupAt.sq {K : PySem.W.Frag} {a : Addr} {vs : List V} (h : TupAt K F a vs) : SqT K F a vs := by
  rcases h with ⟨o, h, d⟩ | ⟨o, its, n, h1, h2, h3, h4, h5, h6⟩
  · exact .inl (.inr ⟨o, h⟩)
  · exact .inr ⟨o, its, n, h1, h2, h4, h5, h6⟩
theorem Rd.mono {a : Addr} {u : HO} (h : Rd F a u) (s : Same F F') : Rd F' a u := by
  rcases h with h | ⟨o, h⟩
  · exact .inl (s _ _ h)
  · exact .inr ⟨o, s _ _ h⟩
theorem DctAt.mono {a : Addr} {es : List DictEntry} (h : DctAt F a es) (s : Same F F') : DctAt F' a es := by
  obtain ⟨o, ep, h, r⟩ := h
  exact ⟨o, ep, s _ _ h, r⟩
mutual
theorem R.mono (s : Same F F') : ∀ {v : V} {d : D}, R k F v d → R k F' v d
  | _, _, .non => .non
  | _, _, .bl b => .bl b
  | _, _, .int i => .int i
  | _, _, .str x => .str x
  | _, _, .tup h r => .tup (h.mono s) (Rs.mono s r)
  | _, _, .lst h r => .lst (s _ _ h) (Rs.mono s r)
  | _, _, .dct h r n u => .dct (h.mono s) (RKs.mono s r) n u
  | _, _, .rng h a b => .rng (s _ _ h) a b
  | _, _, .pool h => .pool h
theorem Rs.mono (s : Same F F') : ∀ {vs : List V} {ds : List D}, Rs k F vs ds → Rs k F' vs ds
  | _, _, .nil => .nil
  | _, _, .cons h r => .cons (R.mono s h) (Rs.mono s r)
theorem RKs.mono (s : Same F F') : ∀ {es : List DictEntry} {kvs : List (D × D)}, RKs k F es kvs → RKs k F' es kvs
  | _, _, .nil => .nil
  | _, _, .cons a h b i c d e r => .cons a (R.mono s h) b (R.mono s i) c d e (RKs.mono s r)
end
theorem Rs.length : ∀ {vs : List V} {ds : List D}, Rs k F vs ds → vs.length = ds.length
  | _, _, .nil => rfl
  | _, _, .cons _ r => by rw [List.length_cons, List.length_cons, Rs.length r]
theorem RKs.length : ∀ {es : List DictEntry} {kvs : List (D × D)}, RKs k F es kvs → es.length = kvs.length
  | _, _, .nil => rfl
  | _, _, .cons _ _ _ _ _ _ _ r => by rw [List.length_cons, List.length_cons, RKs.length r]
theorem Rs.get : ∀ {vs : List V} {ds : List D} {i : Nat} {d : D}, Rs k F vs ds → ds[i]? = some d → ∃ v, vs[i]? = some v ∧ R k F v d
  | _, _, _, _, .nil, e => by simp at e
  | _, _, 0, _, .cons h _, e => by simp at e; subst e; exact ⟨_, rfl, h⟩
  | _, _, i + 1, d, .cons _ r, e => by
    obtain ⟨v, h1, h2⟩ := Rs.get (i := i) (d := d) r (by simpa using e)
    exact ⟨v, by simpa using h1, h2⟩
theorem Rs.append : ∀ {vs ws : List V} {ds es : List D}, Rs k F vs ds → Rs k F ws es → Rs k F (vs ++ ws) (ds ++ es)
  | _, _, _, _, .nil, s => s
  | _, _, _, _, .cons h r, s => .cons h (Rs.append r s)
theorem Rs.take : ∀ {vs : List V} {ds : List D} (n : Nat), Rs k F vs ds → Rs k F (vs.take n) (ds.take n)
  | _, _, 0, _ => .nil
  | _, _, _ + 1, .nil => .nil
  | _, _, n + 1, .cons h r => .cons h (Rs.take n r)
theorem Rs.drop : ∀ {vs : List V} {ds : List D} (n : Nat), Rs k F vs ds → Rs k F (vs.drop n) (ds.drop n)
  | _, _, 0, r => r
  | _, _, _ + 1, .nil => .nil
  | _, _, n + 1, .cons _ r => Rs.drop n r
theorem Rs.set : ∀ {vs : List V} {ds : List D} (i : Nat) {v : V} {d : D}, Rs k F vs ds → R k F v d → Rs k F (vs.set i v) (ds.set i d)
  | _, _, _, _, _, .nil, _ => .nil
  | _, _, 0, _, _, .cons _ r, h => .cons h r
  | _, _, i + 1, _, _, .cons q r, h => .cons q (Rs.set i r h)
theorem Rs.eraseIdx : ∀ {vs : List V} {ds : List D} (i : Nat), Rs k F vs ds → Rs k F (vs.eraseIdx i) (ds.eraseIdx i)
  | _, _, _, .nil => .nil
  | _, _, 0, .cons _ r => r
  | _, _, i + 1, .cons h r => .cons h (Rs.eraseIdx i r)
theorem Rs.reverse : ∀ {vs : List V} {ds : List D}, Rs k F vs ds → Rs k F vs.reverse ds.reverse
  | _, _, .nil => .nil
  | _, _, .cons h r => by rw [List.reverse_cons, List.reverse_cons]; exact (Rs.reverse r).append (.cons h .nil)
theorem Rs.flat {vs : List V} {ds : List D} (r : Rs k F vs ds) : ∀ n : Nat, Rs k F (List.replicate n vs).flatten (List.replicate n ds).flatten
  | 0 => .nil
  | n + 1 => by rw [List.replicate_succ, List.replicate_succ, List.flatten_cons, List.flatten_cons]; exact r.append (Rs.flat r n)
theorem Rs.dropLast {vs : List V} {ds : List D} (r : Rs k F vs ds) : Rs k F vs.dropLast ds.dropLast := by
  rw [List.dropLast_eq_take, List.dropLast_eq_take, r.length]; exact r.take _
end
def isC (k : RC) (a : Addr) : Prop := ∃ p r, k.P = some (p, r, a)
def inP' (k : RC) (a : Addr) : Prop := ∃ p r c, k.P = some (p, r, c) ∧ (a = p ∨ a = r ∨ a = c)
theorem isC.inP {k : RC} {a : Addr} (h : isC k a) : inP' k a := let ⟨p, r, e⟩ := h; ⟨p, r, a, e, .inr (.inr rfl)⟩
def PoolOk (k : RC) (F H : Hp) (dr : Nat) : Prop := ∀ p r c, k.P = some (p, r, c) → (F p = none ∧ F r = none ∧ F c = none) ∧ (c ≠ p ∧ c ≠ r) ∧ H p = some (.lst [.ref r, .ref c]) ∧
  (∃ rows : List Int, (rows ≠ [] ∧ rows.length ≤ 1000000) ∧ H r = some (.lst (rows.map V.int))) ∧ ∃ n : Int, 0 ≤ n ∧ n ≤ dr ∧ H c = some (.lst [.int n])
def OwnL (k : RC) (F H : Hp) (a : Addr) (xs : List D) : Prop := ∃ vs, H a = some (.lst vs) ∧ F a = none ∧ ¬ inP' k a ∧ Rs k F vs xs
def OwnDk (k : RC) (F H : Hp) (a : Addr) (kvs : List (D × D)) : Prop := ∃ es, DctAt H a es ∧ F a = none ∧ ¬ inP' k a ∧ RKs k F es kvs ∧ (kvs.map fun p => nk p.1).Nodup ∧ ∀ p ∈ kvs, ∀ q ∈ kvs, scal p.1 = scal q.1
def SlotR (k : RC) (F H : Hp) (x : Option (Option V)) : SV → Prop
  | .no => True
  | .val d => ∃ v, x = some (some v) ∧ R k F v d
  | .own xs => ∃ a, x = some (some (.ref a)) ∧ OwnL k F H a xs
  | .owd kvs => ∃ a, x = some (some (.ref a)) ∧ OwnDk k F H a kvs
def OwnAt (ρ : PEnv) (σ : L2.St) (i : Nat) (a : Addr) : Prop := (ρ.get i).plain = false ∧ σ[i]? = some (some (.ref a))
structure Rel (k : RC) (ρ : PEnv) (σ : L2.St) (F H : Hp) : Prop where
  len : ρ.sl.length = σ.length
  sub : Same F H
  slot : ∀ i, SlotR k F H σ[i]? (ρ.get i)
  inj : ∀ i j a, OwnAt ρ σ i a → OwnAt ρ σ j a → i = j
  pool : PoolOk k F H ρ.dr
def SameX (k : RC) (H H' : Hp) : Prop := ∀ a o, H a = some o → ¬ isC k a → H' a = some o
structure ETr (k : RC) (ρ : PEnv) (σ : L2.St) (F H : Hp) (ρ' : PEnv) (F' H' : Hp) : Prop where
  sub : Same F F'
  heap : SameX k H H'
  there : ∀ a, H a ≠ none → H' a ≠ none
  vis : ∀ a, H a ≠ none → (∀ i, ¬ OwnAt ρ σ i a) → F' a = F a
  own : ∀ i a, OwnAt ρ' σ i a → OwnAt ρ σ i a
def BR (k : RC) (F H : Hp) (v : V) (d : D) : Prop := R k F v d ∨ (∃ a xs, v = .ref a ∧ d = .lst xs ∧ OwnL k F H a xs) ∨ ∃ a kvs, v = .ref a ∧ d = .dct kvs ∧ OwnDk k F H a kvs
def RR (k : RC) (H : Hp) (F' H' : Hp) (v : V) : RV → Prop
  | .val d => R k F' v d
  | .brw d => BR k F' H' v d
  | .own xs => ∃ a, v = .ref a ∧ H a = none ∧ OwnL k F' H' a xs
  | .owd kvs => ∃ a, v = .ref a ∧ H a = none ∧ OwnDk k F' H' a kvs
structure EPost (k : RC) (ρ : PEnv) (σ : L2.St) (F H : Hp) (r : RV) (v : V) (ρ' : PEnv) (F' H' : Hp) : Prop where
  rel : Rel k ρ' σ F' H'
  tr : ETr k ρ σ F H ρ' F' H'
  res : RR k H F' H' v r
section
variable {k : RC} {ρ ρ1 ρ2 ρ3 : PEnv} {σ : L2.St} {F F1 F2 F3 H H1 H2 H3 : Hp} {v : V} {d : D} {r : RV}
theorem SameX.refl : SameX k H H := fun _ _ h _ => h
theorem SameX.trans (a : SameX k H H1) (b : SameX k H1 H2) : SameX k H H2 := fun c o h n => b c o (a c o h n) n
theorem SameX.of (a : Same H H1) : SameX k H H1 := fun c o h _ => a c o h
theorem Same.upd_new {a : Addr} {o : HO} (h : F a = none) : Same F (upd F a o) := fun b u e => by
  rw [upd_ne (ne_of_none e h)]; exact e
theorem EPost.lent (p : EPost k ρ σ F H r v ρ1 F1 H1) : BR k F1 H1 v r.toD := by
  have q := p.res
  cases r with
  | val d => exact .inl q
  | brw d => exact q
  | own xs => obtain ⟨a, rfl, _, o⟩ := q; exact .inr (.inl ⟨a, xs, rfl, rfl, o⟩)
  | owd kvs => obtain ⟨a, rfl, _, o⟩ := q; exact .inr (.inr ⟨a, kvs, rfl, rfl, o⟩)
theorem ETr.refl : ETr k ρ σ F H ρ F H := ⟨fun _ _ h => h, .refl, fun _ h => h, fun _ _ _ => rfl, fun _ _ h => h⟩
theorem ETr.trans (a : ETr k ρ σ F H ρ1 F1 H1) (b : ETr k ρ1 σ F1 H1 ρ2 F2 H2) : ETr k ρ σ F H ρ2 F2 H2 where
  sub := fun c o h => b.sub c o (a.sub c o h)
  heap := a.heap.trans b.heap
  there := fun c h => b.there c (a.there c h)
  vis := fun c h n => (b.vis c (a.there c h) fun i z => n i (a.own i c z)).trans (a.vis c h n)
  own := fun i c h => a.own i c (b.own i c h)
end
end PL
namespace PL
open PySem PySem.Spec PyProof.Rows L2
section
variable {k : RC} {ρ ρ' ρ1 ρ2 ρ3 : PEnv} {σ : L2.St} {F F1 F2 F3 F' H H1 H2 H3 H' : Hp} {v : V} {d : D} {r : RV} {a : Addr} {o : HO}
theorem PoolOk.grow {dr : Nat} (h : PoolOk k F H dr) (s : Same H H') (vis : ∀ a, H a ≠ none → F' a = F a) : PoolOk k F' H' dr := fun p r c e => by
  obtain ⟨⟨f1, f2, f3⟩, n, h1, ⟨rows, hr, h2⟩, m, hm, hm', h3⟩ := h p r c e
  have g : ∀ {b u}, H b = some u → H b ≠ none := fun e z => by rw [e] at z; cases z
  exact ⟨⟨(vis p (g h1)).trans f1, (vis r (g h2)).trans f2, (vis c (g h3)).trans f3⟩, n, s _ _ h1, ⟨rows, hr, s _ _ h2⟩, m, hm, hm', s _ _ h3⟩
theorem OwnL.grow {xs : List D} (h : OwnL k F H a xs) (sub : Same F F') (heap : SameX k H H') (vis : F' a = F a) : OwnL k F' H' a xs := by
  obtain ⟨vs, h1, h2, h3, h4⟩ := h
  exact ⟨vs, heap _ _ h1 fun z => h3 z.inP, vis.trans h2, h3, h4.mono sub⟩
theorem OwnDk.grow {kvs : List (D × D)} (h : OwnDk k F H a kvs) (sub : Same F F') (heap : SameX k H H') (vis : F' a = F a) : OwnDk k F' H' a kvs := by
  obtain ⟨es, ⟨o, ep, h1, hr⟩, h2, h3, h4, h5⟩ := h
  exact ⟨es, ⟨o, ep, heap _ _ h1 fun z => h3 z.inP, hr⟩, vis.trans h2, h3, h4.mono sub, h5⟩
theorem BR.grow (h : BR k F H v d) (sub : Same F F') (heap : SameX k H H') (ins : Same F' H') : BR k F' H' v d := by
  rcases h with h | ⟨a, xs, rfl, rfl, o⟩ | ⟨a, kvs, rfl, rfl, o⟩
  · exact .inl (h.mono sub)
  · obtain ⟨vs, h1, h2, h3, h4⟩ := id o
    have h1' := heap _ _ h1 fun z => h3 z.inP
    cases e : F' a with
    | none => exact .inr (.inl ⟨a, xs, rfl, rfl, vs, h1', e, h3, h4.mono sub⟩)
    | some u =>
      have := (ins a u e).symm.trans h1'
      cases this
      exact .inl (.lst e (h4.mono sub))
  · obtain ⟨es, ⟨ob, ep, h1, hr⟩, h2, h3, h4, n, u⟩ := id o
    have h1' := heap _ _ h1 fun z => h3 z.inP
    cases e : F' a with
    | none => exact .inr (.inr ⟨a, kvs, rfl, rfl, es, ⟨ob, ep, h1', hr⟩, e, h3, h4.mono sub, n, u⟩)
    | some w =>
      have := (ins a w e).symm.trans h1'
      cases this
      exact .inl (.dct ⟨ob, ep, e, hr⟩ (h4.mono sub) n u)
theorem BR.tr {σ' : L2.St} (h : BR k F H v d) (t : ETr k ρ σ F H ρ' F' H') (r : Rel k ρ' σ' F' H') : BR k F' H' v d := h.grow t.sub t.heap r.sub
theorem BR.int {i : Int} (h : BR k F H v (.int i)) : v = .int i := by
  rcases h with h | ⟨a, xs, _, e, _⟩ | ⟨a, kvs, _, e, _⟩
  · cases h; rfl
  · cases e
  · cases e
theorem BR.bl {i : Bool} (h : BR k F H v (.bl i)) : v = .bl i := by
  rcases h with h | ⟨a, xs, _, e, _⟩ | ⟨a, kvs, _, e, _⟩
  · cases h; rfl
  · cases e
  · cases e
theorem BR.str {i : Str} (h : BR k F H v (.str i)) : v = .str i := by
  rcases h with h | ⟨a, xs, _, e, _⟩ | ⟨a, kvs, _, e, _⟩
  · cases h; rfl
  · cases e
  · cases e
theorem BR.non (h : BR k F H v .non) : v = .non := by
  rcases h with h | ⟨a, xs, _, e, _⟩ | ⟨a, kvs, _, e, _⟩
  · cases h; rfl
  · cases e
  · cases e
theorem BR.tup {ds : List D} (h : BR k F H v (.tup ds)) : ∃ a vs, v = .ref a ∧ TupAt k.K F a vs ∧ Rs k F vs ds := by
  rcases h with h | ⟨a, xs, _, e, _⟩ | ⟨a, kvs, _, e, _⟩
  · cases h with | tup h r => exact ⟨_, _, rfl, h, r⟩
  · cases e
  · cases e
theorem BR.lst {ds : List D} (s : Same F H) (h : BR k F H v (.lst ds)) : ∃ a vs, v = .ref a ∧ H a = some (.lst vs) ∧ Rs k F vs ds := by
  rcases h with h | ⟨a, xs, rfl, e, vs, h1, _, _, h4⟩ | ⟨a, kvs, _, e, _⟩
  · cases h with | lst h r => exact ⟨_, _, rfl, s _ _ h, r⟩
  · cases e; exact ⟨a, vs, rfl, h1, h4⟩
  · cases e
theorem BR.dct {kvs : List (D × D)} (s : Same F H) (h : BR k F H v (.dct kvs)) : ∃ a es, v = .ref a ∧ DctAt H a es ∧ RKs k F es kvs ∧ (kvs.map fun p => nk p.1).Nodup ∧ ∀ p ∈ kvs, ∀ q ∈ kvs, scal p.1 = scal q.1 := by
  rcases h with h | ⟨a, xs, _, e, _⟩ | ⟨a, kvs, rfl, e, es, h1, _, _, h4, h5⟩
  · cases h with | dct h r n u => exact ⟨_, _, rfl, DctAt.mono h s, r, n, u⟩
  · cases e
  · cases e; exact ⟨a, es, rfl, h1, h4, h5⟩
theorem BR.rng {lo hi : Int} (h : BR k F H v (.rng lo hi)) : ∃ a, v = .ref a ∧ F a = some (.rng lo hi) ∧ rngOk lo ∧ rngOk hi := by
  rcases h with h | ⟨a, xs, _, e, _⟩ | ⟨a, kvs, _, e, _⟩
  · cases h with | rng h a b => exact ⟨_, rfl, h, a, b⟩
  · cases e
  · cases e
theorem SlotR.here {x : Option (Option V)} {s : SV} {i : Nat} (h : SlotR k F H σ[i]? s) (e : s.plain = false) : ∃ a, σ[i]? = some (some (.ref a)) ∧ H a ≠ none := by
  cases s with
  | no => cases e
  | val d => cases e
  | own xs => obtain ⟨a, e, vs, h1, _⟩ := h; exact ⟨a, e, by rw [h1]; simp⟩
  | owd kvs => obtain ⟨a, e, es, ⟨o, ep, h1, _⟩, _⟩ := h; exact ⟨a, e, by rw [h1]; simp⟩
theorem Rel.ownH (h : Rel k ρ σ F H) {i : Nat} (q : OwnAt ρ σ i a) : H a ≠ none := by
  obtain ⟨b, e, n⟩ := SlotR.here (x := none) (h.slot i) q.1
  rw [q.2] at e
  cases e
  exact n
theorem Rel.grow {dr : Nat} (h : Rel k ρ σ F H) (sub : Same F F') (ins : Same F' H') (heap : SameX k H H') (vis : ∀ a, H a ≠ none → F' a = F a) (pool : PoolOk k F' H' dr) : Rel k ⟨ρ.sl, dr⟩ σ F' H' := by
  refine ⟨h.len, ins, fun i => ?_, h.inj, pool⟩
  have q := h.slot i
  show SlotR k F' H' σ[i]? (ρ.get i)
  cases e : ρ.get i with
  | no => trivial
  | val d => rw [e] at q; obtain ⟨v, e1, e2⟩ := q; exact ⟨v, e1, e2.mono sub⟩
  | own xs =>
    rw [e] at q; obtain ⟨a, e1, e2⟩ := q
    exact ⟨a, e1, e2.grow sub heap (vis a (h.ownH (i := i) ⟨by rw [e]; rfl, e1⟩))⟩
  | owd xs =>
    rw [e] at q; obtain ⟨a, e1, e2⟩ := q
    exact ⟨a, e1, e2.grow sub heap (vis a (h.ownH (i := i) ⟨by rw [e]; rfl, e1⟩))⟩
theorem ETr.grow {dr : Nat} (sub : Same F F') (heap : SameX k H H') (there : ∀ a, H a ≠ none → H' a ≠ none) (vis : ∀ a, H a ≠ none → F' a = F a) : ETr k ρ σ F H ⟨ρ.sl, dr⟩ F' H' :=
  ⟨sub, heap, there, fun a h _ => vis a h, fun _ _ h => h⟩
theorem there_of (s : Same H H') : ∀ a, H a ≠ none → H' a ≠ none := fun a h z => by
  cases e : H a with
  | none => exact h e
  | some u => rw [s a u e] at z; cases z
theorem Rel.keepH (h : Rel k ρ σ F H) (s : Same H H') : Rel k ρ σ F H' :=
  h.grow (fun _ _ e => e) (fun b u e => s b u (h.sub b u e)) (.of s) (fun _ _ => rfl) (h.pool.grow s fun _ _ => rfl)
theorem ETr.keepH (s : Same H H') : ETr k ρ σ F H ρ F H' := ETr.grow (dr := ρ.dr) (fun _ _ e => e) (.of s) (there_of s) fun _ _ => rfl
theorem Rel.newF (h : Rel k ρ σ F H) (hn : H a = none) : Rel k ρ σ (upd F a o) (upd H a o) := by
  have fn : F a = none := by
    cases e : F a with
    | none => rfl
    | some u => rw [h.sub a u e] at hn; cases hn
  have vis : ∀ b, H b ≠ none → upd F a o b = F b := fun b hb => upd_ne fun z => hb (z ▸ hn)
  refine h.grow (Same.upd_new fn) (fun b u e => ?_) (.of (Same.upd_new hn)) vis (h.pool.grow (Same.upd_new hn) vis)
  by_cases z : b = a
  · subst z; rw [upd_same] at e ⊢; exact e
  · rw [upd_ne z] at e ⊢; exact h.sub b u e
theorem Rel.fnone (h : Rel k ρ σ F H) (hn : H a = none) : F a = none := by
  cases e : F a with
  | none => rfl
  | some u => rw [h.sub a u e] at hn; cases hn
theorem ETr.newF (h : Rel k ρ σ F H) (hn : H a = none) : ETr k ρ σ F H ρ (upd F a o) (upd H a o) :=
  ETr.grow (dr := ρ.dr) (Same.upd_new (h.fnone hn)) (.of (Same.upd_new hn)) (there_of (Same.upd_new hn)) fun b hb => upd_ne fun z => hb (z ▸ hn)
theorem Rel.newH (h : Rel k ρ σ F H) (hn : H a = none) : Rel k ρ σ F (upd H a o) := h.keepH (Same.upd_new hn)
theorem Rel.nopN (h : Rel k ρ σ F H) (hn : H a = none) : ¬ inP' k a := fun ⟨p, r, c, e, z⟩ => by
  obtain ⟨_, _, h1, ⟨rows, _, h2⟩, m, _, _, h3⟩ := h.pool p r c e
  rcases z with rfl | rfl | rfl
  · rw [h1] at hn; cases hn
  · rw [h2] at hn; cases hn
  · rw [h3] at hn; cases hn
theorem get_put {i j : Nat} {s : SV} (hi : i < ρ.sl.length) : (ρ.put i s).get j = if j = i then s else ρ.get j := by
  unfold PEnv.get PEnv.put
  simp only [List.getD_eq_getElem?_getD, List.getElem?_set]
  by_cases h : i = j
  · subst h; simp [hi]
  · rw [if_neg h, if_neg (Ne.symm h)]
theorem put_len {i : Nat} {s : SV} : (ρ.put i s).sl.length = ρ.sl.length := by unfold PEnv.put; simp
theorem get_lt {i : Nat} (h : ρ.get i ≠ .no) : i < ρ.sl.length := by
  by_cases q : i < ρ.sl.length
  · exact q
  · exfalso; apply h; unfold PEnv.get; rw [List.getD_eq_getElem?_getD, List.getElem?_eq_none (by omega)]; rfl
theorem PoolOk.see {dr : Nat} (h : PoolOk k F H dr) (n : ¬ inP' k a) : PoolOk k (upd F a o) H dr := fun p r c e => by
  obtain ⟨⟨f1, f2, f3⟩, q⟩ := h p r c e
  have w : ∀ b, (b = p ∨ b = r ∨ b = c) → b ≠ a := fun b z y => n ⟨p, r, c, e, y ▸ z⟩
  exact ⟨⟨(upd_ne (w p (.inl rfl))).trans f1, (upd_ne (w r (.inr (.inl rfl)))).trans f2, (upd_ne (w c (.inr (.inr rfl)))).trans f3⟩, q⟩
theorem Rel.freeze {i : Nat} {u : HO} (h : Rel k ρ σ F H) (q : OwnAt ρ σ i a) (hu : H a = some u) (fa : F a = none) (np : ¬ inP' k a) {d : D} (rd : R k (upd F a u) (.ref a) d) :
    Rel k (ρ.put i (.val d)) σ (upd F a u) H ∧ ETr k ρ σ F H (ρ.put i (.val d)) (upd F a u) H := by
  have hi : i < ρ.sl.length := get_lt fun z => by have := q.1; rw [z] at this; cases this
  have sub : Same F (upd F a u) := Same.upd_new fa
  have pl : ∀ j, j ≠ i → (ρ.put i (.val d)).get j = ρ.get j := fun j e => by rw [get_put hi, if_neg e]
  have pi : (ρ.put i (.val d)).get i = .val d := by rw [get_put hi, if_pos rfl]
  have ow : ∀ j b, OwnAt (ρ.put i (.val d)) σ j b → OwnAt ρ σ j b ∧ j ≠ i := fun j b z => by
    by_cases e : j = i
    · subst e; have := z.1; rw [pi] at this; cases this
    · exact ⟨⟨by rw [← pl j e]; exact z.1, z.2⟩, e⟩
  refine ⟨⟨?_, ?_, fun j => ?_, fun j l b x y => h.inj j l b (ow j b x).1 (ow l b y).1, ?_⟩, ⟨sub, .refl, fun _ z => z, fun b hb n => ?_, fun j b z => (ow j b z).1⟩⟩
  · rw [put_len]; exact h.len
  · intro b w e
    by_cases z : b = a
    · subst z; rw [upd_same] at e; rw [← e]; exact hu
    · rw [upd_ne z] at e; exact h.sub b w e
  · by_cases e : j = i
    · subst e; rw [pi]; exact ⟨.ref a, q.2, rd⟩
    · rw [pl j e]
      have s := h.slot j
      cases eg : ρ.get j with
      | no => trivial
      | val d => rw [eg] at s; obtain ⟨v, e1, e2⟩ := s; exact ⟨v, e1, e2.mono sub⟩
      | own xs =>
        rw [eg] at s; obtain ⟨b, e1, e2⟩ := s
        exact ⟨b, e1, e2.grow sub .refl (upd_ne fun z => e (h.inj j i a ⟨by rw [eg]; rfl, by rw [← z]; exact e1⟩ q))⟩
      | owd xs =>
        rw [eg] at s; obtain ⟨b, e1, e2⟩ := s
        exact ⟨b, e1, e2.grow sub .refl (upd_ne fun z => e (h.inj j i a ⟨by rw [eg]; rfl, by rw [← z]; exact e1⟩ q))⟩
  · exact h.pool.see np
  · exact upd_ne fun z => n i (by rw [z]; exact q)
end
section
variable {k : RC} {ρ ρ' ρ1 ρ2 ρ3 : PEnv} {σ : L2.St} {F F1 F2 F3 F' H H1 H2 H3 H' : Hp} {v : V} {d : D} {r : RV} {a : Addr} {o : HO}
theorem EPost.flat (h : Rel k ρ1 σ F1 H1) (t : ETr k ρ σ F H ρ1 F1 H1) (q : R k F1 v d) : EPost k ρ σ F H (.val d) v ρ1 F1 H1 := ⟨h, t, q⟩
theorem EPost.newF (h : Rel k ρ1 σ F1 H1) (t : ETr k ρ σ F H ρ1 F1 H1) (hn : H1 a = none) (q : R k (upd F1 a o) (.ref a) d) : EPost k ρ σ F H (.val d) (.ref a) ρ1 (upd F1 a o) (upd H1 a o) :=
  ⟨h.newF hn, t.trans (.newF h hn), q⟩
theorem none_back (s : ∀ a, H a ≠ none → H1 a ≠ none) (hn : H1 a = none) : H a = none := by
  cases e : H a with
  | none => rfl
  | some u => exact absurd hn (s a (by rw [e]; simp))
theorem EPost.newL {vs : List V} {xs : List D} (h : Rel k ρ1 σ F1 H1) (t : ETr k ρ σ F H ρ1 F1 H1) (hn : H1 a = none) (q : Rs k F1 vs xs) : EPost k ρ σ F H (.own xs) (.ref a) ρ1 F1 (upd H1 a (.lst vs)) :=
  ⟨h.newH hn, t.trans (.keepH (Same.upd_new hn)), a, rfl, none_back t.there hn, vs, upd_same, h.fnone hn, h.nopN hn, q⟩
theorem EPost.then {r1 r2 : RV} {v1 v2 : V} (p : EPost k ρ σ F H r1 v1 ρ1 F1 H1) (q : EPost k ρ1 σ F1 H1 r2 v2 ρ2 F2 H2) : EPost k ρ σ F H r2 v2 ρ2 F2 H2 := by
  refine ⟨q.rel, p.tr.trans q.tr, ?_⟩
  have z := q.res
  cases r2 with
  | val d => exact z
  | brw d => exact z
  | own xs => obtain ⟨a, e, n, o⟩ := z; exact ⟨a, e, none_back p.tr.there n, o⟩
  | owd xs => obtain ⟨a, e, n, o⟩ := z; exact ⟨a, e, none_back p.tr.there n, o⟩
theorem EPost.tr2 {r1 r2 : RV} {v1 v2 : V} (p : EPost k ρ σ F H r1 v1 ρ1 F1 H1) (q : ETr k ρ1 σ F1 H1 ρ2 F2 H2) : ETr k ρ σ F H ρ2 F2 H2 := p.tr.trans q
theorem Rel.see {u : HO} (h : Rel k ρ σ F H) (n : ∀ i, ¬ OwnAt ρ σ i a) (hu : H a = some u) (fa : F a = none) (np : ¬ inP' k a) : Rel k ρ σ (upd F a u) H := by
  have sub : Same F (upd F a u) := Same.upd_new fa
  refine ⟨h.len, ?_, fun j => ?_, h.inj, h.pool.see np⟩
  · intro b w e
    by_cases z : b = a
    · subst z; rw [upd_same] at e; rw [← e]; exact hu
    · rw [upd_ne z] at e; exact h.sub b w e
  · have s := h.slot j
    cases eg : ρ.get j with
    | no => trivial
    | val d => rw [eg] at s; obtain ⟨v, e1, e2⟩ := s; exact ⟨v, e1, e2.mono sub⟩
    | own xs =>
      rw [eg] at s; obtain ⟨b, e1, e2⟩ := s
      exact ⟨b, e1, e2.grow sub .refl (upd_ne fun z => n j ⟨by rw [eg]; rfl, by rw [← z]; exact e1⟩)⟩
    | owd xs =>
      rw [eg] at s; obtain ⟨b, e1, e2⟩ := s
      exact ⟨b, e1, e2.grow sub .refl (upd_ne fun z => n j ⟨by rw [eg]; rfl, by rw [← z]; exact e1⟩)⟩
theorem EPost.keep {Q : D → Prop} (h0 : Rel k ρ σ F H) (p : EPost k ρ σ F H r v ρ1 F1 H1) (h : r.kept Q) : ∃ d F2, Q d ∧ r.toD = d ∧ R k F2 v d ∧ Rel k ρ1 σ F2 H1 ∧ ETr k ρ σ F H ρ1 F2 H1 := by
  have q := p.res
  have seen : ∀ {a u}, H a = none → H1 a = some u → F1 a = none → ¬ inP' k a → Rel k ρ1 σ (upd F1 a u) H1 ∧ ETr k ρ σ F H ρ1 (upd F1 a u) H1 := fun {a u} hn hu fa np => by
    have ne : ∀ i, ¬ OwnAt ρ1 σ i a := fun i z => h0.ownH (p.tr.own i a z) hn
    refine ⟨p.rel.see ne hu fa np, ⟨fun b w e => Same.upd_new fa b w (p.tr.sub b w e), p.tr.heap, p.tr.there, fun b hb n => ?_, p.tr.own⟩⟩
    rw [upd_ne (fun z => hb (by rw [z]; exact hn))]; exact p.tr.vis b hb n
  cases r with
  | val d => exact ⟨d, F1, h, rfl, q, p.rel, p.tr⟩
  | brw d => exact h.elim
  | own xs =>
    obtain ⟨a, rfl, hn, vs, h1, h2, h3, h4⟩ := q
    obtain ⟨x1, x2⟩ := seen hn h1 h2 h3
    exact ⟨_, _, h, rfl, .lst upd_same (h4.mono (Same.upd_new h2)), x1, x2⟩
  | owd kvs =>
    obtain ⟨a, rfl, hn, es, ⟨o, ep, h1, h5, h6, h7⟩, h2, h3, h4, n, u⟩ := q
    obtain ⟨x1, x2⟩ := seen hn h1 h2 h3
    exact ⟨_, _, h, rfl, .dct ⟨o, ep, upd_same, h5, h6, h7⟩ (h4.mono (Same.upd_new h2)) n u, x1, x2⟩
end
section
variable {X : Cx} {pins : List (Addr × Obj)} {σ : L2.St} {H : Hp} {s : Shared}
def tupObj (its : List Value) : Obj := { cls := .type "tuple", data := .seq its.toArray }
theorem laidT {xs : List V} {its : List Value} {t' : Nat} (I : Inv X pins σ H s) (r : Vals xs its) (hz : xs.length ≤ sizeLine) :
    Inv X pins σ (upd H s.heap.objs.size (.frz (tupObj its) (.tup xs))) { s with heap := s.heap.push (tupObj its), toks := t' } :=
  I.laid (fun b o e => Heap.get?_push_of_some _ e) (Nat.le_refl _) ⟨Heap.get?_push_size _ rfl, hz, its, r, IsTup.new _ _⟩
def NewT (xs : List V) (H : Hp) (Q : VK) : Prop := ∀ p o, H p = none → o.dict = none → Q (.ref p) (upd H p (.frz o (.tup xs)))
def tTupF (t : TA) : TE := fun σ H Q => t σ H fun xs H1 => xs.length ≤ sizeLine ∧ NewT xs H1 Q
theorem pe_tupF {es : List Expr} {t : TA} {pos : Pos} {x1} (h : PA X es t) : PE X (.Tuple es x1 pos) (tTupF t) := by
  refine ⟨fun pins s σ H Q I hq => ?_⟩
  refine wpAny_Tuple_spliced (thn (h.run pos pins s σ H _ I hq) fun us s1 ⟨xs, H1, I1, r, z, q⟩ => ⟨by rw [← r.length]; exact z, ?_⟩)
  exact ⟨.ref s1.heap.objs.size, _, laidT (t' := s1.toks) I1 r z, rfl, q _ _ (I1.hok.fresh (Nat.le_refl _)) rfl⟩
theorem tuple_ofF : CallR X (.type "tuple") (fun xs H Q => ∃ p ys, xs = [.ref p] ∧ ((SqL X.K H p ys ∧ NewT ys H Q) ∨ (SqT X.K H p ys ∧ Q (.ref p) H))) := by
  intro pins s σ H xs us Q I r h
  obtain ⟨p, ys, rfl, h⟩ := h
  obtain ⟨u, rfl, rx⟩ := vals1 r
  cases rx
  rcases h with ⟨hq, q⟩ | ⟨hq, q⟩
  · obtain ⟨its, r', pl, hz⟩ := I.list hq
    have hlen := r'.length
    refine call_tuple_list pl.isList (fun h' kp => ?_) (by simp only [List.size_toArray] <;> omega)
    have I1 : Inv X pins σ H { s with heap := h' } := I.kept (t' := s.toks) kp
    exact ⟨.ref h'.objs.size, _, laidT (t' := s.toks) I1 r' hz, rfl, q _ _ (I1.hok.fresh (Nat.le_refl _)) rfl⟩
  · obtain ⟨its, r', pl, hz⟩ := I.tuple hq
    exact call_tuple_same pl ⟨.ref p, H, I, rfl, q⟩
def rCatF (K : PySem.W.Frag) : R2 := fun x y H Q => ∃ a b xs ys, x = .ref a ∧ y = .ref b ∧ SqT K H a xs ∧ SqT K H b ys ∧ xs.length + ys.length ≤ sizeLine ∧
  (xs = [] → Q (.ref b) H) ∧ (xs ≠ [] → ys = [] → Q (.ref a) H) ∧ (xs ≠ [] → ys ≠ [] → NewT (xs ++ ys) H Q)
theorem op_catF : OpR X (binaryOp .Add) (rCatF X.K) := by
  intro pins s σ H x y v u Q I rx ry h
  obtain ⟨a, b, xs, ys, rfl, rfl, ha, hb, hz, q0, q1, q2⟩ := h
  cases rx
  cases ry
  obtain ⟨its, r1, p1, _⟩ := I.tuple ha
  obtain ⟨its2, r2, p2, _⟩ := I.tuple hb
  by_cases hx : xs = []
  · subst hx
    cases r1
    exact cat_tup0 p1 p2 ⟨.ref b, H, I, rfl, q0 rfl⟩
  · refine HT.cat_tup p1 p2 (fun z => hx (r1.nil_iff.mp z)) (fun z => ⟨.ref a, H, I, rfl, q1 hx (r2.nil_iff.mp z)⟩) (fun z => ?_) (by rw [← r1.length, ← r2.length]; exact hz)
    exact ⟨.ref s.heap.objs.size, _, laidT (t' := s.toks) I (r1.append r2) (by rw [List.length_append]; exact hz), rfl, q2 hx (fun w => z (r2.nil_iff.mpr w)) _ _ (I.hok.fresh (Nat.le_refl _)) rfl⟩
def rSlF (K : PySem.W.Frag) : V → Option Int → Option Int → Hp → VK → Prop := fun x lo hi H Q => ∃ a xs, x = .ref a ∧ SqT K H a xs ∧
  (HT.sIx xs.length 0 lo = 0 ∧ HT.sIx xs.length xs.length hi = xs.length → Q (.ref a) H) ∧ (¬ (HT.sIx xs.length 0 lo = 0 ∧ HT.sIx xs.length xs.length hi = xs.length) → NewT (cutV xs lo hi) H Q)
theorem sl_tupF : SlR X (rSlF X.K) := by
  intro pins s σ H x v vl vu lo hi sl Q I rx hs pl pu h
  obtain ⟨a, xs, rfl, hx, q1, q2⟩ := h
  cases rx
  obtain ⟨its, r, ht, hz⟩ := I.tuple hx
  have hlen : its.toArray.size = xs.length := by rw [List.size_toArray]; exact r.length.symm
  refine ⟨"tuple", _, PyProof.Rows.slot_tuple_getitem.lookup, ht.typeIs, ?_⟩
  by_cases hw : HT.sIx xs.length 0 lo = 0 ∧ HT.sIx xs.length xs.length hi = xs.length
  · exact getItem_tuple_whole ht hs pl pu (by rw [hlen]; exact hw) ⟨.ref a, H, I, rfl, q1 hw⟩
  · refine HT.getItem_tuple_cut ht hs pl pu (by rw [hlen]; exact hw) ?_ (by rw [hlen]; exact hz)
    rw [hlen]
    exact ⟨.ref s.heap.objs.size, _, laidT (t' := s.toks) I ((r.drop (HT.sIx xs.length 0 lo)).take (HT.sIx xs.length xs.length hi - HT.sIx xs.length 0 lo)) (Nat.le_trans (cutV_length xs lo hi) hz), rfl, q2 hw _ _ (I.hok.fresh (Nat.le_refl _)) rfl⟩
theorem tuple_mul1W (l : Addr) (items : Array Value) (n : Nat) (dd : Option Addr) (sl : Array (Option Value)) (k : Int) (u : Tok)
    (c0 : (decide (k < -(2 ^ 63)) || decide (k ≥ 2 ^ 63)) = false) (c1 : (items.isEmpty || k == 1) = true) :
    Meets (Builtin.«tuple.__mul__» ⟨[.ref l, .int k u], []⟩) (fun _ R s => s.heap.get? l = some { cls := .type "tuple", dict := dd, data := .seq items n, slots := sl } ∧
      R (.ok (.ret (Value.ref l))) s) :=
  .of_wp fun prog w A R s h => by
    obtain ⟨hp, g, d, tk, os⟩ := s
    obtain ⟨hl, h⟩ := h
    have f1 := AutoSeq1.idx_int
    wp_walk using wpAny_loadPart' hl
    repeat (first
      | (refine wpAny_ite_false (decide_eq_false (by rw [c0]; decide)) ?_; wp_walk using wpAny_loadPart' hl)
      | (refine wpAny_ite_true (decide_eq_true (by rw [c1])) ?_; wp_walk using wpAny_loadPart' hl))
    exact ⟨_, rfl, h⟩
def rRepF (K : PySem.W.Frag) : R2 := fun x y H Q => ∃ l k xs, x = .ref l ∧ y = .int k ∧ SqT K H l xs ∧ 1 ≤ k ∧ k ≤ 1000 ∧ xs.length ≤ 1000 ∧ (k = 1 ∨ xs = [] → Q (.ref l) H) ∧ (¬ (k = 1 ∨ xs = []) → NewT (List.replicate k.toNat xs).flatten H Q)
theorem op_repF : OpR X (binaryOp .Mult) (rRepF X.K) := by
  intro pins s σ H x y v u Q I rx ry h
  obtain ⟨l, k, xs, rfl, rfl, hT, h1, h2, hz, q1, q⟩ := h
  cases rx
  obtain ⟨t, rfl⟩ := ry
  obtain ⟨its, r, ⟨⟨cls, dd, data, sl⟩, ho, hc, n, hd⟩, hs⟩ := I.tuple hT
  simp only at hc hd
  subst hc hd
  have hle : its.length = xs.length := r.length.symm
  have c0 : (decide (k < -(2 ^ 63)) || decide (k ≥ 2 ^ 63)) = false := by
    rw [decide_eq_false (by omega), decide_eq_false (by omega)] <;> rfl
  by_cases k1 : k = 1 ∨ xs = []
  · have c1 : (its.toArray.isEmpty || k == 1) = true := by
      rcases k1 with rfl | rfl
      · simp
      · rw [List.length_nil, List.length_eq_zero_iff] at hle
        rw [hle]; rfl
    exact wpAny_binaryOp_repeat_ref (T := "tuple") (U := "int") (by decide) ⟨_, ho, rfl⟩ (fun s' => typeIs_int s' k t) noFill_tuple_mul F.fills_int_mul F.slot_int_rmul repeat_tuple F.slot_int_index.lookup
      (call_meets F.slot_int_rmul (typeIs_int s k t) F.entry_int_rmul (F.args_int_rmul_2 _ _) (int_rmul_tuple k t l its.toArray n dd sl)
        ⟨ho, rfl, ⟨_, ho, rfl⟩, call_meets F.slot_tuple_mul ⟨_, ho, rfl⟩ F.entry_tuple_mul (F.args_tuple_mul_2 _ _) (tuple_mul1W l its.toArray n dd sl k t c0 c1) ⟨ho, ⟨.ref l, H, I, rfl, q1 k1⟩⟩⟩)
  have hne : xs ≠ [] := fun e => k1 (.inr e)
  have q := q k1
  have h1 : 2 ≤ k := by
    have : k ≠ 1 := fun e => k1 (.inl e)
    omega
  have hn : its ≠ [] := fun e => hne (by
    rw [e] at hle
    exact List.eq_nil_of_length_eq_zero hle.symm)
  have hi : its.toArray.isEmpty = false := by
    cases its with
    | nil => exact absurd rfl hn
    | cons a b => rfl
  have hsz0 : its.toArray.size = xs.length := by rw [List.size_toArray, hle]
  have hm : ((its.toArray.size : Nat) : Int) * k ≤ 1000000 := by
    rw [hsz0]
    have a1 : ((xs.length : Nat) : Int) * k ≤ 1000 * k := Int.mul_le_mul_of_nonneg_right (by omega) (by omega)
    omega
  have flen : (List.replicate k.toNat its).flatten.length ≤ sizeLine := by
    rw [PyProof.Rows.lm_len_rep_flat, hle, sizeLine_eq]
    have a1 : k.toNat * xs.length ≤ 1000 * 1000 := Nat.mul_le_mul (by omega) hz
    omega
  have c1 : (its.toArray.isEmpty || k == 1) = false := by
    rw [hi, Bool.false_or]
    exact beq_eq_false_iff_ne.mpr (by omega)
  have c2 : (decide (k ≤ 0) || its.toArray.isEmpty) = false := by
    rw [hi, Bool.or_false]
    exact decide_eq_false (by omega)
  have c4 : Builtin.Tuple.tupleTooMany (((its.toArray.size : Nat) : Int) * k) = false := by
    unfold Builtin.Tuple.tupleTooMany
    rw [sizeLine_eq]
    exact decide_eq_false (by omega)
  refine wpAny_binaryOp_repeat_ref (T := "tuple") (U := "int") (by decide) ⟨_, ho, rfl⟩ (fun s' => typeIs_int s' k t) noFill_tuple_mul F.fills_int_mul F.slot_int_rmul repeat_tuple F.slot_int_index.lookup
    (call_meets F.slot_int_rmul (typeIs_int s k t) F.entry_int_rmul (F.args_int_rmul_2 _ _) (int_rmul_tuple k t l its.toArray n dd sl)
      ⟨ho, rfl, ⟨_, ho, rfl⟩, call_meets F.slot_tuple_mul ⟨_, ho, rfl⟩ F.entry_tuple_mul (F.args_tuple_mul_2 _ _) (tuple_mulW l its.toArray n dd sl k t c0 c1 c2 (by omega) c4 (by rw [size_rep, List.size_toArray]; exact flen)) ⟨ho, ?_⟩⟩)
  rw [size_rep]
  exact ⟨.ref s.heap.objs.size, _, laidT (t' := s.toks) I (r.rep k.toNat) (by rw [PyProof.Rows.lm_len_rep_flat, sizeLine_eq]; have a1 : k.toNat * xs.length ≤ 1000 * 1000 := Nat.mul_le_mul (by omega) hz; omega), rfl, q _ _ (I.hok.fresh (Nat.le_refl _)) rfl⟩
end
end PL
namespace PL
open PySem PySem.Spec PyProof.Rows L2
structure XOk (X : Cx) (k : RC) : Prop where
  K : k.K = X.K
  w : k.w = X.w
  calm : X.calm = true
  room : Room 0 X.A
def tE (C : PC) (k : RC) (e : IE) : TE := fun σ H Q => ∃ ρ F QQ, Rel k ρ σ F H ∧ wpE C e ρ QQ ∧ ∀ r ρ' v F' H', EPost k ρ σ F H r v ρ' F' H' → QQ r ρ' → Q v H'
def tT (C : PC) (k : RC) (e : IE) : TT := fun σ H Q => ∃ ρ F QQ, Rel k ρ σ F H ∧ wpE C e ρ QQ ∧ ∀ b ρ' F' H', Rel k ρ' σ F' H' → ETr k ρ σ F H ρ' F' H' → QQ (.val (.bl b)) ρ' → Q b H'
inductive BRs (k : RC) (F H : Hp) : List V → List D → Prop where
  | nil : BRs k F H [] []
  | cons {v : V} {vs : List V} {d : D} {ds : List D} : BR k F H v d → BRs k F H vs ds → BRs k F H (v :: vs) (d :: ds)
def ARel (k : RC) (b : Bool) (F H : Hp) (vs : List V) (ds : List D) : Prop := if b = true then BRs k F H vs ds else Rs k F vs ds
def tA (C : PC) (k : RC) (b : Bool) (e : IE) : TA := fun σ H Q => ∃ ρ F QQ, Rel k ρ σ F H ∧ wpA C b e ρ QQ ∧ ∀ ds ρ' vs F' H', Rel k ρ' σ F' H' → ETr k ρ σ F H ρ' F' H' → ARel k b F' H' vs ds → QQ ds ρ' → Q vs H'
theorem BRs.grow {k : RC} {F F' H H' : Hp} (sub : Same F F') (heap : SameX k H H') (ins : Same F' H') : ∀ {vs : List V} {ds : List D}, BRs k F H vs ds → BRs k F' H' vs ds
  | _, _, .nil => .nil
  | _, _, .cons h r => .cons (h.grow sub heap ins) (BRs.grow sub heap ins r)
theorem weak {X : Cx} {e : Expr} {t t' : TE} (h : PE X e t) (w : ∀ σ H Q, t' σ H Q → t σ H Q) : PE X e t' := ⟨fun pins s σ H Q I q => h.run pins s σ H Q I (w σ H Q q)⟩
theorem weakT {X : Cx} {e : Expr} {t t' : TT} (h : PT X e t) (w : ∀ σ H Q, t' σ H Q → t σ H Q) : PT X e t' := ⟨fun pins s σ H Q I q => h.run pins s σ H Q I (w σ H Q q)⟩
theorem weakA {X : Cx} {e : List Expr} {t t' : TA} (h : PA X e t) (w : ∀ σ H Q, t' σ H Q → t σ H Q) : PA X e t' := ⟨fun pos pins s σ H Q I q => h.run pos pins s σ H Q I (w σ H Q q)⟩
section
variable {k : RC} {F H : Hp}
mutual
theorem R.dp : ∀ {v : V} {d : D}, R k F v d → d.py.canLay0 = true → Dp k.K F v d.py
  | _, _, .non, _ => .non
  | _, _, .bl b, _ => .bl b
  | _, _, .int i, _ => .int i
  | _, _, .str x, _ => .str x
  | _, _, .tup h r, c => .tup h.sq (Rs.dp r (by simpa only [D.py, PyData.canLay0] using c))
  | _, _, .lst h r, c => .lst (.inl (.inl h)) (Rs.dp r (by simpa only [D.py, PyData.canLay0] using c))
  | _, _, .dct _ _ _ _, c => by simp [D.py, PyData.canLay0] at c
  | _, _, .rng _ _ _, c => by simp [D.py, PyData.canLay0] at c
  | _, _, .pool _, c => by simp [D.py, PyData.canLay0] at c
theorem Rs.dp : ∀ {vs : List V} {ds : List D}, Rs k F vs ds → PyData.canLayAll0 (D.pys ds) = true → DpAll k.K F vs (D.pys ds)
  | _, _, .nil, _ => .nil
  | _, _, .cons h r, c => by
    simp only [D.pys, PyData.canLayAll0, Bool.and_eq_true] at c
    exact .cons (R.dp h c.1) (Rs.dp r c.2)
end
theorem BR.dp {v : V} {d : D} (s : Same F H) (h : BR k F H v d) (c : shp d = true) : Dp k.K H v d.py := by
  have c' := SeqAt.canLay_of_shaped c
  rcases h with h | ⟨a, xs, rfl, rfl, vs, h1, _, _, h4⟩ | ⟨a, kvs, _, rfl, _⟩
  · exact (h.mono s).dp c'
  · exact .lst (.inl (.inl h1)) ((h4.mono s).dp (by simpa only [D.py, PyData.canLay0] using c'))
  · simp [D.py, PyData.canLay0] at c'
theorem any_pys (a : D) : ∀ xs : List D, ((D.pys xs).any fun z => PyData.eqv z a.py) = xs.any fun z => deq z a
  | [] => rfl
  | x :: xs => by rw [D.pys, List.any_cons, List.any_cons, any_pys a xs]; rfl
end
section
variable {X : Cx} {k : RC} {C : PC}
theorem qe_c {e : Expr} {v : V} {d : D} (h : PE X e (tC v)) (r : ∀ F, R k F v d) : PE X e (tE C k (.cst d)) := by
  refine weak h fun σ H Q ⟨ρ, F, QQ, rel, wp, fin⟩ => ?_
  exact fin _ _ _ _ _ (.flat rel .refl (r F)) wp
theorem slot_val {ρ : PEnv} {σ : L2.St} {F H : Hp} {i : Nat} {d : D} (rel : Rel k ρ σ F H) (e : ρ.get i = .val d) : ∃ v, σ[i]? = some (some v) ∧ R k F v d := by
  have q := rel.slot i
  rw [e] at q
  exact q
theorem slot_own {ρ : PEnv} {σ : L2.St} {F H : Hp} {i : Nat} {xs : List D} (rel : Rel k ρ σ F H) (e : ρ.get i = .own xs) : ∃ a, σ[i]? = some (some (.ref a)) ∧ OwnL k F H a xs := by
  have q := rel.slot i
  rw [e] at q
  exact q
theorem slot_owd {ρ : PEnv} {σ : L2.St} {F H : Hp} {i : Nat} {xs : List (D × D)} (rel : Rel k ρ σ F H) (e : ρ.get i = .owd xs) : ∃ a, σ[i]? = some (some (.ref a)) ∧ OwnDk k F H a xs := by
  have q := rel.slot i
  rw [e] at q
  exact q
theorem rd_v {ρ : PEnv} {σ : L2.St} {F H : Hp} {i : Nat} {QQ : RK} (rel : Rel k ρ σ F H) (wp : rdV ρ i QQ) : ∃ v r ρ' F', σ[i]? = some (some v) ∧ EPost k ρ σ F H r v ρ' F' H ∧ QQ r ρ' := by
  unfold rdV at wp
  cases e : ρ.get i with
  | no => rw [e] at wp; exact wp.elim
  | val d =>
    rw [e] at wp
    obtain ⟨v, h1, h2⟩ := slot_val rel e
    exact ⟨v, _, _, _, h1, .flat rel .refl h2, wp⟩
  | own xs =>
    rw [e] at wp
    obtain ⟨a, h1, vs, h2, h3, h4, h5⟩ := slot_own rel e
    have rd : R k (upd F a (.lst vs)) (.ref a) (.lst xs) := .lst upd_same (h5.mono (Same.upd_new h3))
    obtain ⟨x1, x2⟩ := rel.freeze ⟨by rw [e]; rfl, h1⟩ h2 h3 h4 rd
    exact ⟨_, _, _, _, h1, .flat x1 x2 rd, wp⟩
  | owd kvs =>
    rw [e] at wp
    obtain ⟨a, h1, es, ⟨o, ep, h2, hr⟩, h3, h4, h5, n, u⟩ := slot_owd rel e
    have rd : R k (upd F a (exO a o)) (.ref a) (.dct kvs) := .dct ⟨o, ep, upd_same, hr⟩ (h5.mono (Same.upd_new h3)) n u
    obtain ⟨x1, x2⟩ := rel.freeze ⟨by rw [e]; rfl, h1⟩ h2 h3 h4 rd
    exact ⟨_, _, _, _, h1, .flat x1 x2 rd, wp⟩
theorem rd_b {ρ : PEnv} {σ : L2.St} {F H : Hp} {i : Nat} {QQ : RK} (rel : Rel k ρ σ F H) (wp : rdB ρ i QQ) : ∃ v r, σ[i]? = some (some v) ∧ EPost k ρ σ F H r v ρ F H ∧ QQ r ρ := by
  unfold rdB at wp
  cases e : ρ.get i with
  | no => rw [e] at wp; exact wp.elim
  | val d =>
    rw [e] at wp
    obtain ⟨v, h1, h2⟩ := slot_val rel e
    exact ⟨v, _, h1, .flat rel .refl h2, wp⟩
  | own xs =>
    rw [e] at wp
    obtain ⟨a, h1, h2⟩ := slot_own rel e
    exact ⟨_, .brw (.lst xs), h1, ⟨rel, .refl, show BR k F H _ _ from .inr (.inl ⟨a, xs, rfl, rfl, h2⟩)⟩, wp⟩
  | owd kvs =>
    rw [e] at wp
    obtain ⟨a, h1, h2⟩ := slot_owd rel e
    exact ⟨_, .brw (.dct kvs), h1, ⟨rel, .refl, show BR k F H _ _ from .inr (.inr ⟨a, kvs, rfl, rfl, h2⟩)⟩, wp⟩
theorem qe_var {e : Expr} {i : Nat} (h : PE X e (tVar i)) : PE X e (tE C k (.var i)) := by
  refine weak h fun σ H Q ⟨ρ, F, QQ, rel, wp, fin⟩ => ?_
  obtain ⟨v, r, ρ', F', h1, p, q⟩ := rd_v rel wp
  exact ⟨v, h1, fin _ _ _ _ _ p q⟩
theorem qe_bor {e : Expr} {i : Nat} (h : PE X e (tVar i)) : PE X e (tE C k (.bor i)) := by
  refine weak h fun σ H Q ⟨ρ, F, QQ, rel, wp, fin⟩ => ?_
  obtain ⟨v, r, h1, p, q⟩ := rd_b rel wp
  exact ⟨v, h1, fin _ _ _ _ _ p q⟩
def r2P (k : RC) (P : D → D → (RV → Prop) → Prop) : R2 := fun x y H Q => ∃ ρ σ F d e QQ, Rel k ρ σ F H ∧ BR k F H x d ∧ BR k F H y e ∧ P d e QQ ∧ ∀ r v F' H', EPost k ρ σ F H r v ρ F' H' → QQ r → Q v H'
theorem two {a b : IE} {P : D → D → (RV → Prop) → Prop} {σ : L2.St} {H : Hp} {Q : VK} {QQ : RK} {ρ : PEnv} {F : Hp} (rel : Rel k ρ σ F H) (wp : wpE C a ρ fun x ρ1 => wpE C b ρ1 fun y ρ2 => P x.toD y.toD fun r => QQ r ρ2)
    (fin : ∀ r ρ' v F' H', EPost k ρ σ F H r v ρ' F' H' → QQ r ρ' → Q v H') : tOp (r2P k P) (tE C k a) (tE C k b) σ H Q := by
  refine ⟨ρ, F, _, rel, wp, fun r1 ρ1 v1 F1 H1 p1 q1 => ⟨ρ1, F1, _, p1.rel, q1, fun r2 ρ2 v2 F2 H2 p2 q2 => ?_⟩⟩
  exact ⟨ρ2, σ, F2, _, _, _, p2.rel, p1.lent.tr p2.tr p2.rel, p2.lent, q2, fun r v F' H' p3 q3 => fin r ρ2 v F' H' (p1.then (p2.then p3)) q3⟩
def opOf : Op2 → Operator
  | .add => .Add
  | .sub => .Sub
  | .mul => .Mult
  | .fdiv => .FloorDiv
  | .mod => .Mod
  | .pow => .Pow
theorem newT {ρ : PEnv} {σ : L2.St} {F H : Hp} {vs : List V} {ds : List D} {Q : VK} (rel : Rel k ρ σ F H) (r : Rs k F vs ds) (fin : ∀ v F' H', EPost k ρ σ F H (.val (.tup ds)) v ρ F' H' → Q v H') : NewT vs H Q := fun p o hn hd =>
  fin _ _ _ (.newF rel .refl hn (.tup (.inl ⟨o, upd_same, hd⟩) (r.mono (Same.upd_new (rel.fnone hn)))))
theorem rs_nil' {F : Hp} {ds : List D} (r : Rs k F [] ds) : ds = [] := by cases r; rfl
theorem op_bin (hX : XOk X k) (o : Op2) : OpR X (binaryOp (opOf o)) (r2P k (binP o)) := by
  intro pins s σ H x y v u Q I rx ry ⟨ρ, σ', F, d, e, QQ, rel, bx, by', wp, fin⟩
  have hK := hX.K
  have int : ∀ {n : Int}, QQ (.val (.int n)) → Q (.int n) H := fun q => fin _ _ _ _ (.flat rel .refl (.int _)) q
  cases o <;> cases d <;> cases e <;> first | exact (show False from wp).elim | skip
  · -- int + int
    cases bx.int; cases by'.int
    exact op_add pins s σ H _ _ v u Q I rx ry ⟨_, _, rfl, rfl, int wp⟩
  · cases bx.str; cases by'.str
    obtain ⟨hz, q⟩ := wp
    exact op_add_str pins s σ H _ _ v u Q I rx ry ⟨_, _, rfl, rfl, hz, fin _ _ _ _ (.flat rel .refl (.str _)) q⟩
  · rename_i xs ys
    obtain ⟨a, vs, rfl, ta, ra⟩ := bx.tup
    obtain ⟨b, ws, rfl, tb, rb⟩ := by'.tup
    obtain ⟨hz, q⟩ := wp
    have sq1 := (ta.mono rel.sub).sq
    have sq2 := (tb.mono rel.sub).sq
    rw [hK] at sq1 sq2
    refine op_catF pins s σ H _ _ v u Q I rx ry ⟨a, b, vs, ws, rfl, rfl, sq1, sq2, by rw [ra.length, rb.length]; exact hz, fun z => ?_, fun _ z => ?_, fun _ _ => newT rel (ra.append rb) fun v F' H' p => fin _ _ _ _ p q⟩
    · subst z
      have := rs_nil' ra
      subst this
      exact fin _ _ _ _ (.flat rel .refl (.tup tb rb)) q
    · subst z
      have := rs_nil' rb
      subst this
      rw [List.append_nil] at q
      exact fin _ _ _ _ (.flat rel .refl (.tup ta ra)) q
  · rename_i xs ys
    obtain ⟨a, vs, rfl, ta, ra⟩ := bx.lst rel.sub
    obtain ⟨b, ws, rfl, tb, rb⟩ := by'.lst rel.sub
    obtain ⟨hz, q⟩ := wp
    exact op_cat pins s σ H _ _ v u Q I rx ry ⟨a, b, vs, ws, rfl, rfl, ta, tb, by rw [ra.length, rb.length]; exact hz, fun p hn => fin _ _ _ _ (.newL rel .refl hn (ra.append rb)) q⟩
  · cases bx.int; cases by'.int
    exact op_sub pins s σ H _ _ v u Q I rx ry ⟨_, _, rfl, rfl, int wp⟩
  · cases bx.int; cases by'.int
    exact op_mul pins s σ H _ _ v u Q I rx ry ⟨_, _, rfl, rfl, wp.1, int wp.2⟩
  · rename_i xs n
    obtain ⟨a, vs, rfl, ta, ra⟩ := bx.tup
    cases by'.int
    obtain ⟨⟨h2, h3, h4⟩, q⟩ := wp
    have sq1 := (ta.mono rel.sub).sq
    rw [hK] at sq1
    refine op_repF pins s σ H _ _ v u Q I rx ry ⟨a, n, vs, rfl, rfl, sq1, h2, h3, by rw [ra.length]; exact h4, fun z => ?_, fun _ => newT rel (ra.flat _) fun v F' H' p => fin _ _ _ _ p q⟩
    have e : (List.replicate n.toNat xs).flatten = xs := by
      rcases z with rfl | z
      · simp
      · subst z
        rw [rs_nil' ra]; simp
    rw [e] at q
    exact fin _ _ _ _ (.flat rel .refl (.tup ta ra)) q
  · rename_i xs n
    obtain ⟨a, vs, rfl, ta, ra⟩ := bx.lst rel.sub
    cases by'.int
    obtain ⟨⟨h1, h2, h3⟩, q⟩ := wp
    exact op_rep pins s σ H _ _ v u Q I rx ry ⟨a, n, vs, rfl, rfl, ta, h1, h2, by rw [ra.length]; exact h3, fun p hn => fin _ _ _ _ (.newL rel .refl hn (ra.flat _)) q⟩
  · cases bx.int; cases by'.int
    exact op_fdivN pins s σ H _ _ v u Q I rx ry ⟨_, _, rfl, rfl, wp.1, int wp.2⟩
  · cases bx.int; cases by'.int
    exact op_modN pins s σ H _ _ v u Q I rx ry ⟨_, _, rfl, rfl, wp.1, int wp.2⟩
  · cases bx.int; cases by'.int
    exact op_pow pins s σ H _ _ v u Q I rx ry ⟨_, _, rfl, rfl, wp.1, int wp.2⟩
theorem qe_bin (hX : XOk X k) {o : Op2} {a b : Expr} {ia ib : IE} {pos : Pos} (ha : PE X a (tE C k ia)) (hb : PE X b (tE C k ib)) : PE X (.BinOp a (opOf o) b pos) (tE C k (.bin o ia ib)) :=
  weak (pe_op (op_bin hX o) ha hb) fun σ H Q ⟨ρ, F, QQ, rel, wp, fin⟩ => two (P := binP o) rel wp fin
end
end PL
namespace PL
open PySem PySem.Spec PyProof.Rows L2
mutual
theorem deq_nk : ∀ (a b : D) (n m : NestedKey), nk a = some n → nk b = some m → PyData.eqv a.py b.py = NestedKey.beq n m
  | .int i, .int j, n, m, h1, h2 => by
    simp only [nk, Option.some.injEq] at h1 h2
    subst h1; subst h2
    simp only [D.py, PyData.eqv, NestedKey.beq]
    exact Bool.beq_eq_decide_eq ..
  | .str i, .str j, n, m, h1, h2 => by
    simp only [nk, Option.some.injEq] at h1 h2
    subst h1; subst h2
    simp only [D.py, PyData.eqv, NestedKey.beq]
    exact Bool.beq_eq_decide_eq ..
  | .tup xs, .tup ys, n, m, h1, h2 => by
    simp only [nk, Option.map_eq_some_iff] at h1 h2
    obtain ⟨ns, e1, rfl⟩ := h1
    obtain ⟨ms, e2, rfl⟩ := h2
    simp only [D.py, PyData.eqv, NestedKey.beq]
    exact deqs_nk xs ys ns ms e1 e2
  | .int i, .str j, n, m, h1, h2 => by
    simp only [nk, Option.some.injEq] at h1 h2
    subst h1; subst h2; rfl
  | .str i, .int j, n, m, h1, h2 => by
    simp only [nk, Option.some.injEq] at h1 h2
    subst h1; subst h2; rfl
  | .int i, .tup ys, n, m, h1, h2 => by
    simp only [nk, Option.some.injEq, Option.map_eq_some_iff] at h1 h2
    obtain ⟨ms, e2, rfl⟩ := h2
    subst h1; rfl
  | .str i, .tup ys, n, m, h1, h2 => by
    simp only [nk, Option.some.injEq, Option.map_eq_some_iff] at h1 h2
    obtain ⟨ms, e2, rfl⟩ := h2
    subst h1; rfl
  | .tup xs, .int i, n, m, h1, h2 => by
    simp only [nk, Option.some.injEq, Option.map_eq_some_iff] at h1 h2
    obtain ⟨ms, e2, rfl⟩ := h1
    subst h2; rfl
  | .tup xs, .str i, n, m, h1, h2 => by
    simp only [nk, Option.some.injEq, Option.map_eq_some_iff] at h1 h2
    obtain ⟨ms, e2, rfl⟩ := h1
    subst h2; rfl
  | .non, _, _, _, h, _ => by simp [nk] at h
  | .bl _, _, _, _, h, _ => by simp [nk] at h
  | .lst _, _, _, _, h, _ => by simp [nk] at h
  | .dct _, _, _, _, h, _ => by simp [nk] at h
  | .rng _ _, _, _, _, h, _ => by simp [nk] at h
  | .pool, _, _, _, h, _ => by simp [nk] at h
  | .int _, .non, _, _, _, h => by simp [nk] at h
  | .int _, .bl _, _, _, _, h => by simp [nk] at h
  | .int _, .lst _, _, _, _, h => by simp [nk] at h
  | .int _, .dct _, _, _, _, h => by simp [nk] at h
  | .int _, .rng _ _, _, _, _, h => by simp [nk] at h
  | .int _, .pool, _, _, _, h => by simp [nk] at h
  | .str _, .non, _, _, _, h => by simp [nk] at h
  | .str _, .bl _, _, _, _, h => by simp [nk] at h
  | .str _, .lst _, _, _, _, h => by simp [nk] at h
  | .str _, .dct _, _, _, _, h => by simp [nk] at h
  | .str _, .rng _ _, _, _, _, h => by simp [nk] at h
  | .str _, .pool, _, _, _, h => by simp [nk] at h
  | .tup _, .non, _, _, _, h => by simp [nk] at h
  | .tup _, .bl _, _, _, _, h => by simp [nk] at h
  | .tup _, .lst _, _, _, _, h => by simp [nk] at h
  | .tup _, .dct _, _, _, _, h => by simp [nk] at h
  | .tup _, .rng _ _, _, _, _, h => by simp [nk] at h
  | .tup _, .pool, _, _, _, h => by simp [nk] at h
theorem deqs_nk : ∀ (xs ys : List D) (n m : List NestedKey), nks xs = some n → nks ys = some m → PyData.eqvAll (D.pys xs) (D.pys ys) = NestedKey.beqAll n m
  | [], [], n, m, h1, h2 => by
    simp only [nks, Option.some.injEq] at h1 h2
    subst h1; subst h2; rfl
  | [], y :: ys, n, m, h1, h2 => by
    simp only [nks, Option.some.injEq, Option.bind_eq_some_iff, Option.map_eq_some_iff] at h1 h2
    obtain ⟨a, _, b, _, rfl⟩ := h2
    subst h1; rfl
  | x :: xs, [], n, m, h1, h2 => by
    simp only [nks, Option.some.injEq, Option.bind_eq_some_iff, Option.map_eq_some_iff] at h1 h2
    obtain ⟨a, _, b, _, rfl⟩ := h1
    subst h2; rfl
  | x :: xs, y :: ys, n, m, h1, h2 => by
    simp only [nks, Option.bind_eq_some_iff, Option.map_eq_some_iff] at h1 h2
    obtain ⟨a, e1, b, e2, rfl⟩ := h1
    obtain ⟨c, e3, d, e4, rfl⟩ := h2
    simp only [D.pys, PyData.eqvAll, NestedKey.beqAll]
    rw [deq_nk x y a c e1 e3, deqs_nk xs ys b d e2 e4]
end
theorem deq_key {a b : D} {n m : NestedKey} (h1 : nk a = some n) (h2 : nk b = some m) : deq a b = decide (n = m) := by
  unfold deq
  rw [deq_nk a b n m h1 h2, NestedKey.decide_eq]
mutual
theorem nIs {P : Program} {w : World} {k : RC} {F : Hp} {h : Heap} (kin : k.K.In h) (ok : HOk P w F h) : ∀ {v : V} {d : D} {n : NestedKey} {u : Value}, R k F v d → nk d = some n → RelV v u → NestedIs h n u
  | _, _, _, _, .non, e, _ => by simp [nk] at e
  | _, _, _, _, .bl _, e, _ => by simp [nk] at e
  | _, _, _, _, .int i, e, r => by
    simp only [nk, Option.some.injEq] at e
    subst e
    obtain ⟨t, rfl⟩ := r
    exact .int i t
  | _, _, _, _, .str i, e, r => by
    simp only [nk, Option.some.injEq] at e
    subst e
    obtain ⟨t, rfl⟩ := r
    exact .text i t
  | _, _, _, _, .tup t rs, e, r => by
    simp only [nk, Option.map_eq_some_iff] at e
    obtain ⟨ns, e, rfl⟩ := e
    cases r
    rcases t with ⟨o, ho, hd⟩ | ⟨o, its, m, h1, h2, h3, h4, h5, h6⟩
    · obtain ⟨q, hz, its, rv, ob, e1, e2, m, e3⟩ := ok _ _ ho
      rw [q] at e1
      cases e1
      exact .tup q e2 e3 (nIss kin ok rs e rv)
    · exact .tup (kin _ _ h1) h2 h4 (nIss kin ok rs e h6)
  | _, _, _, _, .lst _ _, e, _ => by simp [nk] at e
  | _, _, _, _, .dct _ _ _ _, e, _ => by simp [nk] at e
  | _, _, _, _, .rng _ _ _, e, _ => by simp [nk] at e
  | _, _, _, _, .pool _, e, _ => by simp [nk] at e
theorem nIss {P : Program} {w : World} {k : RC} {F : Hp} {h : Heap} (kin : k.K.In h) (ok : HOk P w F h) : ∀ {vs : List V} {ds : List D} {ns : List NestedKey} {us : List Value}, Rs k F vs ds → nks ds = some ns → Vals vs us → NestedAll h ns us
  | _, _, _, _, .nil, e, r => by
    simp only [nks, Option.some.injEq] at e
    subst e
    cases r
    exact .nil
  | _, _, _, _, .cons h1 hr, e, r => by
    simp only [nks, Option.bind_eq_some_iff, Option.map_eq_some_iff] at e
    obtain ⟨n, e1, ns, e2, rfl⟩ := e
    cases r with
    | cons r1 r2 => exact .cons (nIs kin ok h1 e1 r1) (nIss kin ok hr e2 r2)
end
def skey : D → Option Key
  | .int i => some (.inl i)
  | .str x => some (.inr x)
  | _ => none
inductive SX (k : RC) (F : Hp) : List (Key × Value) → List (D × D) → Prop where
  | nil : SX k F [] []
  | cons {c : Key} {u : Value} {ps : List (Key × Value)} {kd vd : D} {kvs : List (D × D)} {vv : V} : skey kd = some c → RelV vv u → R k F vv vd → SX k F ps kvs → SX k F ((c, u) :: ps) ((kd, vd) :: kvs)
inductive HX (k : RC) (F : Hp) : List (NestedKey × Addr × Value) → List (D × D) → Prop where
  | nil : HX k F [] []
  | cons {n : NestedKey} {q : Addr} {u : Value} {ps : List (NestedKey × Addr × Value)} {kd vd : D} {kvs : List (D × D)} {vv : V} : nk kd = some n → n.depth ≤ 8 → R k F (.ref q) kd → RelV vv u → R k F vv vd → HX k F ps kvs → HX k F ((n, q, u) :: ps) ((kd, vd) :: kvs)
def kN : Key → NestedKey
  | .inl i => .num i
  | .inr x => .text x
theorem skey_nk {d : D} {c : Key} (h : skey d = some c) : nk d = some (kN c) ∧ scal d = true := by
  cases d <;> simp only [skey, Option.some.injEq, reduceCtorEq] at h
  · subst h; exact ⟨rfl, rfl⟩
  · subst h; exact ⟨rfl, rfl⟩
theorem deq_skey {a b : D} {c e : Key} (h1 : skey a = some c) (h2 : skey b = some e) : deq a b = decide (c = e) := by
  rw [deq_key (skey_nk h1).1 (skey_nk h2).1]
  cases c <;> cases e <;> simp [kN]
theorem skey_of {d : D} (h : scal d = true) : ∃ c, skey d = some c := by
  cases d <;> first | exact ⟨_, rfl⟩ | (simp [scal] at h)
section
variable {k : RC} {F : Hp} {P : Program} {w : World}
theorem SX.len : ∀ {ps : List (Key × Value)} {kvs : List (D × D)}, SX k F ps kvs → ps.length = kvs.length
  | _, _, .nil => rfl
  | _, _, .cons _ _ _ r => by rw [List.length_cons, List.length_cons, r.len]
theorem HX.len : ∀ {ps : List (NestedKey × Addr × Value)} {kvs : List (D × D)}, HX k F ps kvs → ps.length = kvs.length
  | _, _, .nil => rfl
  | _, _, .cons _ _ _ _ _ r => by rw [List.length_cons, List.length_cons, r.len]
theorem SX.find {kd : D} {c : Key} (hc : skey kd = some c) : ∀ {ps : List (Key × Value)} {kvs : List (D × D)}, SX k F ps kvs →
    (match lookD kvs kd with | some vd => ∃ u vv, valueAt ps c = some u ∧ RelV vv u ∧ R k F vv vd | none => valueAt ps c = none) ∧ (kvs.any fun p => deq p.1 kd) = (valueAt ps c).isSome
  | _, _, .nil => ⟨rfl, rfl⟩
  | (e, u) :: ps, (kd', vd) :: kvs, .cons h1 h2 h3 r => by
    have ih := SX.find hc r
    have d := deq_skey h1 hc
    unfold lookD valueAt at ih ⊢
    by_cases q : e = c
    · subst q
      have d' : deq kd' kd = true := by rw [d]; simp
      simp only [List.find?_cons, d', decide_true, Option.map_some, List.any_cons, Bool.true_or, Option.isSome_some, and_true]
      exact ⟨u, _, rfl, h2, h3⟩
    · have d' : deq kd' kd = false := by rw [d]; simp [q]
      simp only [List.find?_cons, d', q, decide_false, List.any_cons, Bool.false_or]
      exact ih
theorem HX.find {kd : D} {n : NestedKey} (hc : nk kd = some n) : ∀ {ps : List (NestedKey × Addr × Value)} {kvs : List (D × D)}, HX k F ps kvs →
    (match lookD kvs kd with | some vd => ∃ p vv, atKey ps n = some p ∧ RelV vv p.2 ∧ R k F vv vd | none => atKey ps n = none) ∧ (kvs.any fun p => deq p.1 kd) = (atKey ps n).isSome
  | _, _, .nil => ⟨rfl, rfl⟩
  | (e, q, u) :: ps, (kd', vd) :: kvs, .cons h1 _ _ h2 h3 r => by
    have ih := HX.find hc r
    have d := deq_key h1 hc
    unfold lookD atKey at ih ⊢
    by_cases z : e = n
    · subst z
      have d' : deq kd' kd = true := by rw [d]; simp
      simp only [List.find?_cons, d', decide_true, Option.map_some, List.any_cons, Bool.true_or, Option.isSome_some, and_true]
      exact ⟨(q, u), _, rfl, h2, h3⟩
    · have d' : deq kd' kd = false := by rw [d]; simp [z]
      simp only [List.find?_cons, d', z, decide_false, List.any_cons, Bool.false_or]
      exact ih
theorem SX.append {ps qs : List (Key × Value)} {kvs lvs : List (D × D)} : SX k F ps kvs → SX k F qs lvs → SX k F (ps ++ qs) (kvs ++ lvs) := fun h h' => by
  induction h with
  | nil => exact h'
  | cons a b c _ ih => exact .cons a b c ih
theorem HX.append {ps qs : List (NestedKey × Addr × Value)} {kvs lvs : List (D × D)} : HX k F ps kvs → HX k F qs lvs → HX k F (ps ++ qs) (kvs ++ lvs) := fun h h' => by
  induction h with
  | nil => exact h'
  | cons a b c d e _ ih => exact .cons a b c d e ih
theorem SX.mapPut {kd vd : D} {c : Key} {u : Value} {vv : V} (hc : skey kd = some c) (hu : RelV vv u) (hv : R k F vv vd) {ps : List (Key × Value)} {kvs : List (D × D)} (h : SX k F ps kvs) :
    SX k F (ps.map fun kv => if kv.1 = c then (kv.1, u) else kv) (kvs.map fun p => if deq p.1 kd then (p.1, vd) else p) := by
  induction h with
  | nil => exact .nil
  | @cons c' u' ps' kd' vd' kvs' vv' a b e _ ih =>
    rw [List.map_cons, List.map_cons]
    have d := deq_skey a hc
    by_cases q : c' = c
    · have d' : deq kd' kd = true := by rw [d]; simp [q]
      simp only [q, d', if_true]
      exact .cons (by rw [a, q]) hu hv ih
    · have d' : deq kd' kd = false := by rw [d]; simp [q]
      simp only [q, d', if_false, Bool.false_eq_true]
      exact .cons a b e ih
theorem SX.put {kd vd : D} {c : Key} {u : Value} {vv : V} (hc : skey kd = some c) (hu : RelV vv u) (hv : R k F vv vd) {ps : List (Key × Value)} {kvs : List (D × D)} (h : SX k F ps kvs) : SX k F (stored ps c u) (putD kvs kd vd) := by
  have e : (ps.any fun kv => decide (kv.1 = c)) = kvs.any fun p => deq p.1 kd := by
    induction h with
    | nil => rfl
    | cons a b e _ ih => rw [List.any_cons, List.any_cons, ih, deq_skey a hc]
  unfold stored putD
  rw [e]
  split
  · exact h.mapPut hc hu hv
  · exact h.append (.cons hc hu hv .nil)
theorem HX.mapPut {kd vd : D} {n : NestedKey} {u : Value} {vv : V} (hc : nk kd = some n) (hu : RelV vv u) (hv : R k F vv vd) {ps : List (NestedKey × Addr × Value)} {kvs : List (D × D)} (h : HX k F ps kvs) :
    HX k F (ps.map (putAt n u)) (kvs.map fun p => if deq p.1 kd then (p.1, vd) else p) := by
  induction h with
  | nil => exact .nil
  | @cons c' q' u' ps' kd' vd' kvs' vv' a a1 a2 b e _ ih =>
    rw [List.map_cons, List.map_cons]
    have d := deq_key a hc
    have pe : putAt n u (c', q', u') = if c' = n then (c', q', u) else (c', q', u') := rfl
    rw [pe]
    by_cases z : c' = n
    · have d' : deq kd' kd = true := by rw [d]; simp [z]
      simp only [z, d', if_true]
      exact .cons (by rw [a, z]) (z ▸ a1) a2 hu hv ih
    · have d' : deq kd' kd = false := by rw [d]; simp [z]
      simp only [z, d', if_false, Bool.false_eq_true]
      exact .cons a a1 a2 b e ih
theorem HX.put {kd vd : D} {n : NestedKey} {q : Addr} {u : Value} {vv : V} (hc : nk kd = some n) (hd : n.depth ≤ 8) (hq : R k F (.ref q) kd) (hu : RelV vv u) (hv : R k F vv vd) {ps : List (NestedKey × Addr × Value)} {kvs : List (D × D)} (h : HX k F ps kvs) :
    HX k F (storedH ps n q u) (putD kvs kd vd) := by
  have e : (atKey ps n).isSome = kvs.any fun p => deq p.1 kd := (HX.find hc h).2.symm
  unfold storedH putD
  rw [e]
  split
  · exact h.mapPut hc hu hv
  · exact h.append (.cons hc hd hq hu hv .nil)
theorem rk_sx : ∀ {es : List DictEntry} {kvs : List (D × D)}, RKs k F es kvs → (∀ p ∈ kvs, scal p.1 = true) → ∃ ps, SX k F ps kvs ∧ Pairs (mixKind P k.w) es ps ∧ KeysOf (mixKind P k.w) es.toArray
  | _, _, .nil, _ => ⟨[], .nil, .nil, fun e he => by simp at he⟩
  | e :: es, (kd, vd) :: kvs, .cons r1 rk rv rr en ed eh rest, u => by
    obtain ⟨ps, h1, h2, h3⟩ := rk_sx rest fun p hp => u p (List.mem_cons_of_mem _ hp)
    obtain ⟨c, hc⟩ := skey_of (u (kd, vd) List.mem_cons_self)
    have key : keyIs c e.key = true ∧ e.hash = keyH k.w c := by
      have := (skey_nk hc).1
      rw [en] at this
      cases kd <;> simp only [skey, Option.some.injEq, reduceCtorEq] at hc
      · subst hc
        cases rk
        obtain ⟨t, q⟩ := r1
        simp only [Option.some.injEq] at this
        subst this
        exact ⟨by rw [q]; exact keyIs_int _ _, eh⟩
      · subst hc
        cases rk
        obtain ⟨t, q⟩ := r1
        simp only [Option.some.injEq] at this
        subst this
        exact ⟨by rw [q]; exact keyIs_str _ _, eh⟩
    refine ⟨(c, e.val) :: ps, .cons hc rv rr h1, .cons key.1 rfl h2, fun x hx => ?_⟩
    have hx : x = e ∨ x ∈ es := by simpa using hx
    rcases hx with rfl | hx
    · exact ⟨c, key.1, key.2⟩
    · exact h3 x (by simpa using hx)
theorem rk_hx : ∀ {es : List DictEntry} {kvs : List (D × D)}, RKs k F es kvs → (∀ p ∈ kvs, scal p.1 = false) → ∃ ps, HX k F ps kvs ∧ es = ps.map (entryOfKey (nestedKind P k.w))
  | _, _, .nil, _ => ⟨[], .nil, rfl⟩
  | e :: es, (kd, vd) :: kvs, .cons r1 rk rv rr en ed eh rest, u => by
    obtain ⟨ps, h1, h2⟩ := rk_hx rest fun p hp => u p (List.mem_cons_of_mem _ hp)
    have ref : ∃ q, e.key = .ref q ∧ R k F (.ref q) kd := by
      have us := u (kd, vd) List.mem_cons_self
      cases rk with
      | tup a b => exact ⟨_, r1, .tup a b⟩
      | int i => simp [scal] at us
      | str x => simp [scal] at us
      | _ => simp [nk] at en
    obtain ⟨q, eq, rq⟩ := ref
    rename_i n
    refine ⟨(n, q, e.val) :: ps, .cons en ed rq rv rr h1, ?_⟩
    rw [List.map_cons, ← h2]
    congr 1
    obtain ⟨eh', ek', ev'⟩ := e
    simp only at eq eh
    subst eq
    unfold entryOfKey
    rw [eh]
    rfl
theorem sx_rk {es : List DictEntry} : ∀ {ps : List (Key × Value)} {kvs : List (D × D)}, SX k F ps kvs → ∀ {es : List DictEntry}, Pairs (mixKind P k.w) es ps → KeysOf (mixKind P k.w) es.toArray → RKs k F es kvs ∧ ∀ p ∈ kvs, scal p.1 = true
  | _, _, .nil, _, .nil, _ => ⟨.nil, fun p hp => by simp at hp⟩
  | (c, u) :: ps, (kd, vd) :: kvs, .cons hc hu hv r, e :: es, .cons p1 p2 p3, ko => by
    obtain ⟨h1, h2⟩ := sx_rk (es := es) r p3 fun x hx => ko x (by simp at hx ⊢; exact .inr hx)
    obtain ⟨c', k1, k2⟩ := ko e (by simp)
    have := (mixKind P k.w).inj _ _ _ k1 p1
    subst this
    refine ⟨?_, fun p hp => (List.mem_cons.mp hp).elim (fun z => by rw [z]; exact (skey_nk hc).2) (h2 p)⟩
    cases kd <;> simp only [skey, Option.some.injEq, reduceCtorEq] at hc
    · subst hc
      rcases keyIs_shape ((mixKind_is P k.w _ _).symm.trans k1) with ⟨i, t, q1, q2⟩ | ⟨x, t, q1, q2⟩
      · cases q1
        exact .cons (kv := .int _) ⟨t, q2⟩ (.int _) (by rw [p2]; exact hu) hv rfl (Nat.zero_le _) k2 h1
      · cases q1
    · subst hc
      rcases keyIs_shape ((mixKind_is P k.w _ _).symm.trans k1) with ⟨i, t, q1, q2⟩ | ⟨x, t, q1, q2⟩
      · cases q1
      · cases q1
        exact .cons (kv := .str _) ⟨t, q2⟩ (.str _) (by rw [p2]; exact hu) hv rfl (Nat.zero_le _) k2 h1
theorem hx_rk : ∀ {ps : List (NestedKey × Addr × Value)} {kvs : List (D × D)}, HX k F ps kvs → RKs k F (ps.map (entryOfKey (nestedKind P k.w))) kvs
  | _, _, .nil => .nil
  | (n, q, u) :: ps, (kd, vd) :: kvs, .cons h1 h2 h3 h4 h5 r => .cons (kv := .ref q) rfl h3 h4 h5 h1 h2 rfl (hx_rk r)
theorem hx_scal : ∀ {ps : List (NestedKey × Addr × Value)} {kvs : List (D × D)}, HX k F ps kvs → ∀ p ∈ kvs, scal p.1 = false
  | _, _, .nil, p, hp => by simp at hp
  | (n, q, u) :: ps, (kd, vd) :: kvs, .cons h1 h2 h3 h4 h5 r, p, hp => by
    rcases List.mem_cons.mp hp with z | z
    · rw [z]
      cases h3 <;> rfl
    · exact hx_scal r p z
theorem sx_nodup : ∀ {ps : List (Key × Value)} {kvs : List (D × D)}, SX k F ps kvs → ((ps.map (·.1)).Nodup ↔ (kvs.map fun p => nk p.1).Nodup)
  | _, _, h => by
    have e : ∀ {ps : List (Key × Value)} {kvs : List (D × D)}, SX k F ps kvs → (kvs.map fun p => nk p.1) = ps.map fun p => some (kN p.1) := fun h => by
      induction h with
      | nil => rfl
      | cons a _ _ _ ih => simp only [List.map_cons, ih, (skey_nk a).1] <;> rfl
    rw [e h]
    rename_i ps kvs
    clear e h
    induction ps with
    | nil => simp
    | cons p ps ih =>
      rw [List.map_cons, List.map_cons, List.nodup_cons, List.nodup_cons]
      refine and_congr (not_congr ?_) ih
      simp only [List.mem_map, Option.some.injEq]
      constructor
      · rintro ⟨x, h1, h2⟩; exact ⟨x, h1, by rw [h2]⟩
      · rintro ⟨x, h1, h2⟩
        refine ⟨x, h1, ?_⟩
        revert h2
        cases x.1 <;> cases p.1 <;> simp [kN]
theorem hx_nodup {ps : List (NestedKey × Addr × Value)} {kvs : List (D × D)} (h : HX k F ps kvs) : (ps.map (·.1)).Nodup ↔ (kvs.map fun p => nk p.1).Nodup := by
  have e : (kvs.map fun p => nk p.1) = (ps.map (·.1)).map some := by
    induction h with
    | nil => rfl
    | cons a _ _ _ _ _ ih => rw [List.map_cons, List.map_cons, List.map_cons, ih, a]
  rw [e]
  generalize ps.map (·.1) = l
  induction l with
  | nil => simp
  | cons p ps ih =>
    rw [List.map_cons, List.nodup_cons, List.nodup_cons]
    refine and_congr (not_congr ?_) ih
    simp
end
end PL
namespace PL
open PySem PySem.Spec PyProof.Rows L2
section
variable {X : Cx} {k : RC} {pins : List (Addr × Obj)} {σ : L2.St} {F H : Hp} {s : Shared} {a : Addr} {es : List DictEntry} {kvs : List (D × D)} {y : V} {u : Value} {kd : D}
theorem dct_at (I : Inv X pins σ H s) (h : DctAt H a es) : ∃ o ep, s.heap.get? a = some o ∧ o.ExactDict ∧ o.data = .dict es.toArray ep ∧ (a == sysModules) = false ∧ es.length ≤ sizeLine := by
  obtain ⟨o, ep, h1, h2, h3, h4, h5⟩ := h
  have q : ObjOk X.prog X.w H s.heap a (exO a o) := I.hok a _ h1
  exact ⟨o, ep, q.1, h2, h3, h4, h5⟩
theorem keyOk_iff (h : keyOk kvs kd = true) : ∃ n, nk kd = some n ∧ n.depth ≤ 8 ∧ ∀ p ∈ kvs, scal p.1 = scal kd := by
  unfold keyOk at h
  rw [Bool.and_eq_true] at h
  obtain ⟨h1, h2⟩ := h
  cases e : nk kd with
  | none => rw [e] at h1; cases h1
  | some n =>
    rw [e] at h1
    exact ⟨n, rfl, of_decide_eq_true h1, fun p hp => eq_of_beq (List.all_eq_true.mp h2 p hp)⟩
theorem dv_s (hX : XOk X k) (I : Inv X pins σ H s) (da : DctAt H a es) (rk : RKs k F es kvs) (nd : (kvs.map fun p => nk p.1).Nodup) (un : ∀ p ∈ kvs, scal p.1 = true) :
    ∃ ps, s.heap.DictOf (mixKind X.prog X.w) a ps ∧ SX k F ps kvs := by
  obtain ⟨o, ep, h1, h2, h3, _⟩ := dct_at I da
  have hw := hX.w
  obtain ⟨ps, q1, q2, q3⟩ := rk_sx (P := X.prog) rk un
  rw [hw] at q2 q3
  exact ⟨ps, ⟨o, es.toArray, ep, h1, h2, h3, q3, q2, (sx_nodup q1).mpr nd⟩, q1⟩
theorem dv_h (hX : XOk X k) (I : Inv X pins σ H s) (sub : Same F H) (da : DctAt H a es) (rk : RKs k F es kvs) (nd : (kvs.map fun p => nk p.1).Nodup) (un : ∀ p ∈ kvs, scal p.1 = false) :
    ∃ ps, s.heap.DictOfH (nestedKind X.prog X.w) a ps ∧ HX k F ps kvs := by
  obtain ⟨o, ep, h1, h2, h3, _⟩ := dct_at I da
  have hw := hX.w
  obtain ⟨ps, q1, q2⟩ := rk_hx (P := X.prog) rk un
  rw [hw] at q2
  refine ⟨ps, ⟨o, es.toArray, ep, h1, h2, h3, q2, fun x hx => ?_, (hx_nodup q1).mpr nd⟩, q1⟩
  have kin : k.K.In s.heap := by rw [hX.K]; exact I.kIn
  clear q2 rk
  induction q1 with
  | nil => cases hx
  | cons e1 e2 e3 _ _ _ ih =>
    rcases List.mem_cons.mp hx with z | z
    · rw [z]; exact ⟨nIs kin I.hok (e3.mono sub) e1 rfl, e2⟩
    · exact ih (by simp only [List.map_cons, List.nodup_cons] at nd; exact nd.2) (fun p hp => un p (List.mem_cons_of_mem _ hp)) z
theorem dk_room (hX : XOk X k) : (nestedKind X.prog X.w).room X.A.in1 := by
  have := hX.room.un
  show X.A.units + 1 + 8 < cLine
  omega
theorem key_ref (hs : scal kd = false) {n : NestedKey} (hn : nk kd = some n) (r : R k F y kd) : ∃ q, y = .ref q := by
  cases r <;> first | exact ⟨_, rfl⟩ | (exfalso; simp [scal] at hs; done) | (exfalso; simp [nk] at hn; done)
theorem key_is {c : Key} (hc : skey kd = some c) (r : R k F y kd) (ry : RelV y u) (P : Program) (w : World) : (mixKind P w).is c u = true := by
  rw [mixKind_is]
  cases kd <;> simp only [skey, Option.some.injEq, reduceCtorEq] at hc
  · subst hc; cases r; obtain ⟨t, rfl⟩ := ry; exact keyIs_int _ _
  · subst hc; cases r; obtain ⟨t, rfl⟩ := ry; exact keyIs_str _ _
theorem d_in (hX : XOk X k) (I : Inv X pins σ H s) (sub : Same F H) (da : DctAt H a es) (rk : RKs k F es kvs) (nd : (kvs.map fun p => nk p.1).Nodup) (r : R k F y kd) (ry : RelV y u) (ok : keyOk kvs kd = true)
    {Q : Value → Shared → Prop} {E : Value → Shared → Prop} (h : ∀ s', Inv X pins σ H s' → Q (.bool (kvs.any fun p => deq p.1 kd)) s') : wpAny (model X.prog X.w) X.A (compareOp .In u (.ref a)) Q E s := by
  obtain ⟨_, _, _, _, _, hs, _⟩ := dct_at I da
  obtain ⟨n, h1, h2, h3⟩ := keyOk_iff ok
  cases e : scal kd with
  | true =>
    obtain ⟨c, hc⟩ := skey_of e
    obtain ⟨ps, q1, q2⟩ := dv_s hX I da rk nd fun p hp => (h3 p hp).trans e
    refine wpAny_in_of (key_is hc r ry _ _) hs q1.mapOf ?_
    rw [← (SX.find hc q2).2]
    exact h _ (I.tok _)
  | false =>
    obtain ⟨ps, q1, q2⟩ := dv_h hX I sub da rk nd fun p hp => (h3 p hp).trans e
    obtain ⟨q, rfl⟩ := key_ref e h1 r
    cases ry
    have kin : k.K.In s.heap := by rw [hX.K]; exact I.kIn
    refine wpAny_in_heap (dk_room hX) ⟨nIs kin I.hok (r.mono sub) h1 rfl, h2⟩ hs q1 ?_
    rw [← (HX.find h1 q2).2]
    exact h _ (I.tok _)
theorem d_notin (hX : XOk X k) (I : Inv X pins σ H s) (sub : Same F H) (da : DctAt H a es) (rk : RKs k F es kvs) (nd : (kvs.map fun p => nk p.1).Nodup) (r : R k F y kd) (ry : RelV y u) (ok : keyOk kvs kd = true)
    {Q : Value → Shared → Prop} {E : Value → Shared → Prop} (h : ∀ s', Inv X pins σ H s' → Q (.bool (!kvs.any fun p => deq p.1 kd)) s') : wpAny (model X.prog X.w) X.A (compareOp .NotIn u (.ref a)) Q E s := by
  obtain ⟨_, _, _, _, _, hs, _⟩ := dct_at I da
  obtain ⟨n, h1, h2, h3⟩ := keyOk_iff ok
  cases e : scal kd with
  | true =>
    obtain ⟨c, hc⟩ := skey_of e
    obtain ⟨ps, q1, q2⟩ := dv_s hX I da rk nd fun p hp => (h3 p hp).trans e
    refine wpAny_notIn_of (key_is hc r ry _ _) hs q1.mapOf ?_
    rw [← (SX.find hc q2).2]
    exact h _ (I.tok _)
  | false =>
    obtain ⟨ps, q1, q2⟩ := dv_h hX I sub da rk nd fun p hp => (h3 p hp).trans e
    obtain ⟨q, rfl⟩ := key_ref e h1 r
    cases ry
    have kin : k.K.In s.heap := by rw [hX.K]; exact I.kIn
    refine wpAny_notIn_heap (dk_room hX) ⟨nIs kin I.hok (r.mono sub) h1 rfl, h2⟩ hs q1 ?_
    rw [← (HX.find h1 q2).2]
    exact h _ (I.tok _)
theorem d_get (hX : XOk X k) (I : Inv X pins σ H s) (sub : Same F H) (da : DctAt H a es) (rk : RKs k F es kvs) (nd : (kvs.map fun p => nk p.1).Nodup) (r : R k F y kd) (ry : RelV y u) (ok : keyOk kvs kd = true) {vd : D} (hv : lookD kvs kd = some vd)
    {Q : Value → Shared → Prop} {E : Value → Shared → Prop} (h : ∀ s' vv w, Inv X pins σ H s' → RelV vv w → R k F vv vd → Q w s') : wpAny (model X.prog X.w) X.A (getItem (.ref a) u) Q E s := by
  obtain ⟨_, _, _, _, _, hs, _⟩ := dct_at I da
  obtain ⟨n, h1, h2, h3⟩ := keyOk_iff ok
  cases e : scal kd with
  | true =>
    obtain ⟨c, hc⟩ := skey_of e
    obtain ⟨ps, q1, q2⟩ := dv_s hX I da rk nd fun p hp => (h3 p hp).trans e
    have fd := (SX.find hc q2).1
    rw [hv] at fd
    obtain ⟨w, vv, f1, f2, f3⟩ := fd
    exact wpAny_getItem_of (key_is hc r ry _ _) q1.mapOf f1 (h _ vv w (I.tok _) f2 f3)
  | false =>
    obtain ⟨ps, q1, q2⟩ := dv_h hX I sub da rk nd fun p hp => (h3 p hp).trans e
    obtain ⟨q, rfl⟩ := key_ref e h1 r
    cases ry
    have kin : k.K.In s.heap := by rw [hX.K]; exact I.kIn
    have fd := (HX.find h1 q2).1
    rw [hv] at fd
    obtain ⟨p, vv, f1, f2, f3⟩ := fd
    exact wpAny_getItem_heap (dk_room hX) ⟨nIs kin I.hok (r.mono sub) h1 rfl, h2⟩ q1 f1 (h _ vv p.2 (I.tok _) f2 f3)
theorem d_set (hX : XOk X k) (I : Inv X pins σ H s) (sub : Same F H) (da : DctAt H a es) (rk : RKs k F es kvs) (nd : (kvs.map fun p => nk p.1).Nodup) (r : R k F y kd) (ry : RelV y u) (ok : keyOk kvs kd = true) (hz : kvs.length < sizeLine)
    {vd : D} {vv : V} {w : Value} (rw' : RelV vv w) (rv : R k F vv vd)
    {Q : Unit → Shared → Prop} {E : Value → Shared → Prop} (h : ∀ s' es' o', Inv X pins σ (upd H a (exO a o')) s' → DctAt (upd H a (exO a o')) a es' → RKs k F es' (putD kvs kd vd) → ((putD kvs kd vd).map fun p => nk p.1).Nodup → (∀ p ∈ putD kvs kd vd, ∀ q ∈ putD kvs kd vd, scal p.1 = scal q.1) → Q () s') :
    wpAny (model X.prog X.w) X.A (setItem (.ref a) u w) Q E s := by
  obtain ⟨o0, ep0, hob, hex, hdt, hs, hl⟩ := dct_at I da
  obtain ⟨n, h1, h2, h3⟩ := keyOk_iff ok
  have mu : Mut (H a) := by
    obtain ⟨o, ep, e1, _⟩ := id da
    rw [e1]; trivial
  have fin : ∀ {h' : Heap} {t : Nat} {es' : List DictEntry} {o' : Obj} {ep' : Nat}, h'.get? a = some o' → o'.ExactDict → o'.data = .dict es'.toArray ep' → es'.length ≤ sizeLine → Heap.SameBut a s.heap h' → RKs k F es' (putD kvs kd vd) → ((putD kvs kd vd).map fun p => nk p.1).Nodup →
      (∀ p ∈ putD kvs kd vd, ∀ q ∈ putD kvs kd vd, scal p.1 = scal q.1) → Q () { s with heap := h', toks := t } := fun {h' t es' o' ep'} e1 e2 e3 e4 sb e5 e6 e7 => by
    have J : Inv X pins σ (upd H a (exO a o')) { s with heap := h', toks := t } := by
      refine I.write mu (.inl rfl) (fun b ob hb e => (sb.2 b hb).trans e) ⟨o', e1⟩ ?_
      refine ⟨e1, ⟨o', e1⟩, fun g1 g2 q1 q2 => q2 _ q1⟩
    exact h _ es' o' J ⟨o', ep', upd_same, e2, e3, hs, e4⟩ e5 e6 e7
  have hlen : ∀ {κ : Type} [DecidableEq κ] {n m : Nat}, n ≤ m + 1 → m < sizeLine → n ≤ sizeLine := fun a b => by omega
  cases e : scal kd with
  | true =>
    obtain ⟨c, hc⟩ := skey_of e
    have un : ∀ p ∈ kvs, scal p.1 = true := fun p hp => (h3 p hp).trans e
    obtain ⟨ps, q1, q2⟩ := dv_s hX I da rk nd un
    have hps : ps.length = kvs.length := q2.len
    refine wpAny_setItem_pairs (hsz := by rw [hps]; omega) (key_is hc r ry _ _) q1 fun h' hd sb => ?_
    obtain ⟨o', esA, ep', g1, g2, g3, g4, g5, g6⟩ := hd
    have sx := q2.put hc rw' rv
    have hw := hX.w
    rw [← hw] at g4 g5
    obtain ⟨x1, x2⟩ := sx_rk (es := []) (P := X.prog) sx g5 (by simpa using g4)
    have l1 : esA.toList.length = (stored ps c w).length := g5.length
    have l2 := stored_length_le ps c w
    exact fin (es' := esA.toList) g1 g2 (by simpa using g3) (by omega) sb x1 ((sx_nodup sx).mp g6) fun p hp q hq => (x2 p hp).trans (x2 q hq).symm
  | false =>
    have un : ∀ p ∈ kvs, scal p.1 = false := fun p hp => (h3 p hp).trans e
    obtain ⟨ps, q1, q2⟩ := dv_h hX I sub da rk nd un
    obtain ⟨q, rfl⟩ := key_ref e h1 r
    cases ry
    have kin : k.K.In s.heap := by rw [hX.K]; exact I.kIn
    have hps : ps.length = kvs.length := q2.len
    refine wpAny_setItem_heap (hsz := by rw [hps]; omega) (dk_room hX) ⟨nIs kin I.hok (r.mono sub) h1 rfl, h2⟩ q1 fun h' hd sb => ?_
    obtain ⟨o', esA, ep', g1, g2, g3, g4, g5, g6⟩ := hd
    have hx := q2.put h1 h2 r rw' rv
    have x1 := hx_rk (P := X.prog) hx
    have hw := hX.w
    rw [hw, ← g4] at x1
    have l1 : esA.toList.length = (storedH ps n q w).length := by rw [g4, List.length_map]
    have l2 : (storedH ps n q w).length ≤ ps.length + 1 := by
      unfold storedH
      split
      · rw [List.length_map]; omega
      · rw [List.length_append]; simp
    have x2 := hx_scal hx
    exact fin (es' := esA.toList) g1 g2 (by simpa using g3) (by omega) sb x1 ((hx_nodup hx).mp g6) fun p hp q hq => (x2 p hp).trans (x2 q hq).symm
end
end PL
namespace PL
open PySem PySem.Spec PyProof.Rows L2
theorem pys_get : ∀ (xs : List D) (j : Nat), (D.pys xs)[j]? = (xs[j]?).map D.py
  | [], j => by simp [D.pys]
  | x :: xs, 0 => by simp [D.pys]
  | x :: xs, j + 1 => by simp [D.pys, pys_get xs j]
theorem pys_len : ∀ xs : List D, (D.pys xs).length = xs.length
  | [] => rfl
  | x :: xs => by simp [D.pys, pys_len xs]
theorem canLay_mem : ∀ {xs : List D} {j : Nat} {x : D}, PyData.canLayAll0 (D.pys xs) = true → xs[j]? = some x → x.py.canLay0 = true
  | [], _, _, _, e => by simp at e
  | y :: xs, 0, x, h, e => by
    simp only [D.pys, PyData.canLayAll0, Bool.and_eq_true] at h
    simp at e; subst e; exact h.1
  | y :: xs, j + 1, x, h, e => by
    simp only [D.pys, PyData.canLayAll0, Bool.and_eq_true] at h
    exact canLay_mem (xs := xs) (j := j) h.2 (by simpa using e)
theorem depth_mem : ∀ {xs : List D} {j : Nat} {x : D}, xs[j]? = some x → x.py.depth ≤ PyData.depthAll (D.pys xs)
  | [], _, _, e => by simp at e
  | y :: xs, 0, x, e => by
    simp at e; subst e
    simp only [D.pys, PyData.depthAll]
    exact Nat.le_max_left _ _
  | y :: xs, j + 1, x, e => by
    have := depth_mem (xs := xs) (j := j) (x := x) (by simpa using e)
    simp only [D.pys, PyData.depthAll]
    exact Nat.le_trans this (Nat.le_max_right _ _)
theorem lex_shift (e r : Nat → Bool) (z : Bool) : ∀ n i, Ob.lexAt e r z (i + 1) n = Ob.lexAt (fun j => e (j + 1)) (fun j => r (j + 1)) z i n
  | 0, i => rfl
  | n + 1, i => by rw [Ob.lexAt_succ, Ob.lexAt_succ, lex_shift e r z n (i + 1)]
theorem lt_lex : ∀ {xs ys : List D} {b : Bool}, ltDs xs ys = some b → Ob.lexAt (fun j => deq (xs.getD j .non) (ys.getD j .non)) (fun j => ltB (xs.getD j .non) (ys.getD j .non)) (decide (xs.length < ys.length)) 0 (min xs.length ys.length) = b
  | [], [], b, h => by simp [ltDs] at h; subst h; rfl
  | [], y :: ys, b, h => by simp [ltDs] at h; subst h; rfl
  | x :: xs, [], b, h => by simp [ltDs] at h; subst h; rfl
  | x :: xs, y :: ys, b, h => by
    have hm : min (x :: xs).length (y :: ys).length = min xs.length ys.length + 1 := by simp only [List.length_cons]; omega
    rw [hm, Ob.lexAt_succ, lex_shift]
    simp only [ltDs] at h
    cases e : ltDs xs ys with
    | none => rw [e] at h; cases h
    | some r =>
      rw [e] at h
      have ih := lt_lex e
      simp only at h
      by_cases q : deq x y = true
      · rw [if_pos q] at h
        cases h
        rw [if_pos (by simpa using q)]
        simpa using ih
      · rw [if_neg q] at h
        rw [if_neg (by simpa using q)]
        simp only [List.getD_cons_zero]
        unfold ltB
        rw [h]
        rfl
theorem lt_some : ∀ {xs ys : List D} {b : Bool}, ltDs xs ys = some b → ∀ (j : Nat) (x y : D), xs[j]? = some x → ys[j]? = some y → deq x y = false → ltD x y = some (ltB x y)
  | [], _, _, _, _, _, _, e, _, _ => by simp at e
  | _ :: _, [], _, _, _, _, _, _, e, _ => by simp at e
  | x :: xs, y :: ys, b, h, j, x', y', e1, e2, hd => by
    simp only [ltDs] at h
    cases e : ltDs xs ys with
    | none => rw [e] at h; cases h
    | some r =>
      rw [e] at h
      cases j with
      | zero =>
        simp at e1 e2
        subst e1; subst e2
        simp only [hd, Bool.false_eq_true, if_false] at h
        unfold ltB
        rw [h]; rfl
      | succ j => exact lt_some e j x' y' (by simpa using e1) (by simpa using e2) hd
section
variable {X : Cx} {k : RC} {pins : List (Addr × Obj)} {σ : L2.St} {H : Hp} {s : Shared}
theorem rc_lt (hK : k.K = X.K) (I : Inv X pins σ H s) : ∀ (n : Nat) (d e : D) (x y : V) (u w : Value) (A : Around) (b : Bool), d.py.depth ≤ n → R k H x d → R k H y e → RelV x u → RelV y w → d.py.canLay0 = true → e.py.canLay0 = true →
    A.units + d.py.depth + 1 < cLine → ltD d e = some b → Ob.RcOp .Lt A s u w b := by
  intro n
  induction n with
  | zero =>
    intro d e x y u w A b hn r1 r2 v1 v2 c1 c2 hu h
    cases d <;> cases e <;> simp only [ltD, Option.some.injEq, reduceCtorEq] at h
    · subst h; cases r1; cases r2
      obtain ⟨t, rfl⟩ := v1
      obtain ⟨t', rfl⟩ := v2
      exact Ob.RcOp.lt_int _ _ _ _
    · subst h; cases r1; cases r2
      obtain ⟨t, rfl⟩ := v1
      obtain ⟨t', rfl⟩ := v2
      exact fun _ _ _ _ h => PyProof.Rows.lt_str h
    · simp only [D.py, PyData.depth] at hn
      omega
  | succ n ih =>
    intro d e x y u w A b hn r1 r2 v1 v2 c1 c2 hu h
    cases d <;> cases e <;> simp only [ltD, Option.some.injEq, reduceCtorEq] at h
    · subst h; cases r1; cases r2
      obtain ⟨t, rfl⟩ := v1
      obtain ⟨t', rfl⟩ := v2
      exact Ob.RcOp.lt_int _ _ _ _
    · subst h; cases r1; cases r2
      obtain ⟨t, rfl⟩ := v1
      obtain ⟨t', rfl⟩ := v2
      exact fun _ _ _ _ h => PyProof.Rows.lt_str h
    · rename_i xs ys
      cases r1 with
      | tup t1 q1 =>
      cases r2 with
      | tup t2 q2 =>
      cases v1
      cases v2
      have s1 := t1.sq
      have s2 := t2.sq
      rw [hK] at s1 s2
      obtain ⟨its, g1, p1, _⟩ := I.tuple s1
      obtain ⟨its2, g2, p2, _⟩ := I.tuple s2
      have l1 : its.length = xs.length := by rw [← g1.length, q1.length]
      have l2 : its2.length = ys.length := by rw [← g2.length, q2.length]
      simp only [D.py, PyData.canLay0] at c1 c2
      simp only [D.py, PyData.depth] at hn hu
      have at1 : ∀ j (h1 : j < its.toArray.size), ∃ d v, xs[j]? = some d ∧ R k H v d ∧ RelV v its.toArray[j] := fun j h1 => by
        have hj : j < xs.length := by simp at h1; omega
        obtain ⟨v, a1, a2⟩ := q1.get (i := j) (d := xs[j]) (by simp [hj])
        obtain ⟨u, a3, a4⟩ := g1.get a1
        refine ⟨_, v, by simp [hj], a2, ?_⟩
        have : its[j]? = some its.toArray[j] := by simp at h1; simp [h1]
        rw [a3] at this; cases this; exact a4
      have at2 : ∀ j (h1 : j < its2.toArray.size), ∃ d v, ys[j]? = some d ∧ R k H v d ∧ RelV v its2.toArray[j] := fun j h1 => by
        have hj : j < ys.length := by simp at h1; omega
        obtain ⟨v, a1, a2⟩ := q2.get (i := j) (d := ys[j]) (by simp [hj])
        obtain ⟨u, a3, a4⟩ := g2.get a1
        refine ⟨_, v, by simp [hj], a2, ?_⟩
        have : its2[j]? = some its2.toArray[j] := by simp at h1; simp [h1]
        rw [a3] at this; cases this; exact a4
      have gd : ∀ {l : List D} {j : Nat} {d : D}, l[j]? = some d → l.getD j .non = d := fun {l j d} e => by rw [List.getD_eq_getElem?_getD, e]; rfl
      have key := Ob.RcOp.tuples_lt (A := A) (s := s) (e := fun j => deq (xs.getD j .non) (ys.getD j .non)) (r := fun j => ltB (xs.getD j .non) (ys.getD j .non)) p1 p2 (by omega)
        (fun j h1 h2 => by
          obtain ⟨d, v, a1, a2, a3⟩ := at1 j h1
          obtain ⟨d', v', b1, b2, b3⟩ := at2 j h2
          simp only [gd a1, gd b1]
          have cl := canLay_mem c1 a1
          have cl' := canLay_mem c2 b1
          have dp := a2.dp cl
          have dp' := b2.dp cl'
          rw [hK] at dp dp'
          obtain ⟨as, ra⟩ := Dp.reads I _ _ _ dp a3
          obtain ⟨bs, rb⟩ := Dp.reads I _ _ _ dp' b3
          refine SeqAt.eqAt_reads _ _ A.in1 s _ _ _ _ ra rb cl cl' ?_
          have := depth_mem a1
          show A.units + 1 + min d.py.depth d'.py.depth < cLine
          have := Nat.min_le_left d.py.depth d'.py.depth
          omega)
        (fun j h1 h2 he => by
          obtain ⟨d, v, a1, a2, a3⟩ := at1 j h1
          obtain ⟨d', v', b1, b2, b3⟩ := at2 j h2
          simp only [gd a1, gd b1] at he ⊢
          have := depth_mem a1
          exact ih d d' v v' _ _ A.in1 _ (by omega) a2 b2 a3 b3 (canLay_mem c1 a1) (canLay_mem c2 b1) (by show A.units + 1 + d.py.depth + 1 < cLine; omega) (lt_some h j d d' a1 b1 he))
      have e1 : its.toArray.size = xs.length := by simp [l1]
      have e2 : its2.toArray.size = ys.length := by simp [l2]
      rw [e1, e2, lt_lex h] at key
      exact key
end
section
variable {X : Cx} {k : RC} {C : PC}
def r2B (k : RC) (P : D → D → (Bool → Prop) → Prop) : R2 := fun x y H Q => ∃ ρ σ F d e QQ, Rel k ρ σ F H ∧ BR k F H x d ∧ BR k F H y e ∧ P d e QQ ∧ ∀ b, QQ b → Q (.bl b) H
def cmOf : Cm → CmpOp
  | .eq => .Eq
  | .ne => .NotEq
  | .lt => .Lt
  | .le => .LtE
  | .gt => .Gt
  | .ge => .GtE
  | .isin => .In
  | .notin => .NotIn
  | .is => .Is
  | .isnot => .IsNot
theorem op_eqP (hX : XOk X k) : OpR X (compareOp .Eq) (r2B k eqP) := by
  intro pins s σ H x y v u Q I rx ry ⟨ρ, σ', F, d, e, QQ, rel, bx, by', wp, fin⟩
  have hK := hX.K
  have hu : X.A.units + 64 < cLine := hX.room.units
  have gen : (shp d = true ∧ shp e = true) ∧ QQ (deq d e) → wpAny (model X.prog X.w) X.A (compareOp .Eq v u) (EP X pins σ Q) X.xe s := fun ⟨⟨h1, h2⟩, q⟩ => by
    have d1 := bx.dp rel.sub h1
    have d2 := by'.dp rel.sub h2
    rw [hK] at d1 d2
    exact op_eqD hu pins s σ H x y v u Q I rx ry ⟨_, _, d1, d2, h1, h2, fin _ q⟩
  have sc : ∀ b, L2.scal x y = true → decide (x = y) = b → QQ b → wpAny (model X.prog X.w) X.A (compareOp .Eq v u) (EP X pins σ Q) X.xe s := fun b h1 h2 q =>
    op_eq pins s σ H x y v u Q I rx ry ⟨h1, by rw [h2]; exact fin b q⟩
  cases d <;> cases e <;> first
    | exact gen wp
    | (cases bx.int; cases by'.int; exact sc _ rfl (by simp) wp)
    | (cases bx.str; cases by'.str; exact sc _ rfl (by simp) wp)
    | (cases bx.bl; cases by'.bl; exact sc _ rfl (by simp) wp)
    | (cases bx.non; cases by'.non; exact sc _ rfl (by simp) wp)
    | (cases bx.non; cases by'.int; exact sc _ rfl (by simp) wp)
    | (cases bx.int; cases by'.non; exact sc _ rfl (by simp) wp)
theorem op_neP (hX : XOk X k) : OpR X (compareOp .NotEq) (r2B k fun a b Q => eqP a b fun r => Q (!r)) := by
  intro pins s σ H x y v u Q I rx ry ⟨ρ, σ', F, d, e, QQ, rel, bx, by', wp, fin⟩
  have hK := hX.K
  have hu : X.A.units + 64 < cLine := hX.room.units
  have gen : (shp d = true ∧ shp e = true) ∧ QQ (!deq d e) → wpAny (model X.prog X.w) X.A (compareOp .NotEq v u) (EP X pins σ Q) X.xe s := fun ⟨⟨h1, h2⟩, q⟩ => by
    have d1 := bx.dp rel.sub h1
    have d2 := by'.dp rel.sub h2
    rw [hK] at d1 d2
    exact op_neD hu pins s σ H x y v u Q I rx ry ⟨_, _, d1, d2, h1, h2, fin _ q⟩
  have sc : ∀ b, L2.scal x y = true → decide (x = y) = b → QQ (!b) → wpAny (model X.prog X.w) X.A (compareOp .NotEq v u) (EP X pins σ Q) X.xe s := fun b h1 h2 q =>
    op_ne pins s σ H x y v u Q I rx ry ⟨h1, by rw [h2]; exact fin _ q⟩
  cases d <;> cases e <;> first
    | exact gen wp
    | (cases bx.int; cases by'.int; exact sc _ rfl (by simp) wp)
    | (cases bx.str; cases by'.str; exact sc _ rfl (by simp) wp)
    | (cases bx.bl; cases by'.bl; exact sc _ rfl (by simp) wp)
    | (cases bx.non; cases by'.non; exact sc _ rfl (by simp) wp)
    | (cases bx.non; cases by'.int; exact sc _ rfl (by simp) wp)
    | (cases bx.int; cases by'.non; exact sc _ rfl (by simp) wp)
theorem op_inP (hX : XOk X k) : OpR X (compareOp .In) (r2B k inP) := by
  intro pins s σ H x y v u Q I rx ry ⟨ρ, σ', F, d, e, QQ, rel, bx, by', wp, fin⟩
  have hK := hX.K
  have hu : X.A.units + 65 < cLine := by have := hX.room.un; omega
  cases e with
  | lst xs =>
    obtain ⟨⟨h1, h2⟩, q⟩ := wp
    have d1 := bx.dp rel.sub h1
    have d2 := by'.dp rel.sub h2
    rw [hK] at d1 d2
    simp only [D.py] at d2
    exact op_inD hu pins s σ H x y v u Q I rx ry ⟨_, _, d1, d2, h1, by simpa only [shp, D.py] using h2, by rw [any_pys]; exact fin _ q⟩
  | tup xs =>
    obtain ⟨⟨h1, h2⟩, q⟩ := wp
    have d1 := bx.dp rel.sub h1
    have d2 := by'.dp rel.sub h2
    rw [hK] at d1 d2
    simp only [D.py] at d2
    have h2' : SeqAt.shaped (.tuple (D.pys xs)) = true := by simpa only [shp, D.py] using h2
    obtain ⟨as, r1⟩ := Dp.reads I _ _ _ d1 rx
    obtain ⟨bs, r2⟩ := Dp.reads I _ _ _ d2 ry
    exact SeqAt.in_tuple_reads r2 r1 (SeqAt.canLay_of_shaped h2') (SeqAt.canLay_of_shaped h1) (room_in_shaped h1 hu) ⟨.bl _, H, I, rfl, by rw [any_pys]; exact fin _ q⟩
  | dct kvs =>
    obtain ⟨ok, q⟩ := wp
    obtain ⟨a, es, rfl, h1, h2, h3, h4⟩ := by'.dct rel.sub
    have ky : R k F x d := by
      rcases bx with b | ⟨_, _, _, rfl, _⟩ | ⟨_, _, _, rfl, _⟩
      · exact b
      · obtain ⟨n, hn, _⟩ := keyOk_iff ok
        simp [nk] at hn
      · obtain ⟨n, hn, _⟩ := keyOk_iff ok
        simp [nk] at hn
    cases ry
    exact d_in hX I rel.sub h1 h2 h3 ky rx ok fun s' I' => ⟨.bl _, H, I', rfl, fin _ q⟩
  | str z =>
    cases d <;> first | exact (show False from wp).elim | skip
    cases bx.str; cases by'.str
    exact op_in_str pins s σ H _ _ v u Q I rx ry ⟨_, _, rfl, rfl, fin _ wp⟩
  | _ => exact (show False from wp).elim
theorem op_notinP (hX : XOk X k) : OpR X (compareOp .NotIn) (r2B k fun a b Q => inP a b fun r => Q (!r)) := by
  intro pins s σ H x y v u Q I rx ry ⟨ρ, σ', F, d, e, QQ, rel, bx, by', wp, fin⟩
  have hK := hX.K
  have hu : X.A.units + 65 < cLine := by have := hX.room.un; omega
  cases e with
  | lst xs =>
    obtain ⟨⟨h1, h2⟩, q⟩ := wp
    have d1 := bx.dp rel.sub h1
    have d2 := by'.dp rel.sub h2
    rw [hK] at d1 d2
    simp only [D.py] at d2
    exact op_notInD hu pins s σ H x y v u Q I rx ry ⟨_, _, d1, d2, h1, by simpa only [shp, D.py] using h2, by rw [any_pys]; exact fin _ q⟩
  | tup xs =>
    obtain ⟨⟨h1, h2⟩, q⟩ := wp
    have d1 := bx.dp rel.sub h1
    have d2 := by'.dp rel.sub h2
    rw [hK] at d1 d2
    simp only [D.py] at d2
    have h2' : SeqAt.shaped (.tuple (D.pys xs)) = true := by simpa only [shp, D.py] using h2
    obtain ⟨as, r1⟩ := Dp.reads I _ _ _ d1 rx
    obtain ⟨bs, r2⟩ := Dp.reads I _ _ _ d2 ry
    exact SeqAt.notIn_tuple_reads r2 r1 (SeqAt.canLay_of_shaped h2') (SeqAt.canLay_of_shaped h1) (room_in_shaped h1 hu) ⟨.bl _, H, I, rfl, by rw [any_pys]; exact fin _ q⟩
  | dct kvs =>
    obtain ⟨ok, q⟩ := wp
    obtain ⟨a, es, rfl, h1, h2, h3, h4⟩ := by'.dct rel.sub
    have ky : R k F x d := by
      rcases bx with b | ⟨_, _, _, rfl, _⟩ | ⟨_, _, _, rfl, _⟩
      · exact b
      · obtain ⟨n, hn, _⟩ := keyOk_iff ok
        simp [nk] at hn
      · obtain ⟨n, hn, _⟩ := keyOk_iff ok
        simp [nk] at hn
    cases ry
    exact d_notin hX I rel.sub h1 h2 h3 ky rx ok fun s' I' => ⟨.bl _, H, I', rfl, fin _ q⟩
  | str z =>
    cases d <;> first | exact (show False from wp).elim | skip
    cases bx.str; cases by'.str
    exact op_notin_str pins s σ H _ _ v u Q I rx ry ⟨_, _, rfl, rfl, fin _ wp⟩
  | _ => exact (show False from wp).elim
theorem op_ordP (hX : XOk X k) (c : Cm) : OpR X (compareOp (cmOf c)) (r2B k (ordP c)) := by
  intro pins s σ H x y v u Q I rx ry ⟨ρ, σ', F, d, e, QQ, rel, bx, by', wp, fin⟩
  have hK := hX.K
  have gen : c = .lt → ((shp d = true ∧ shp e = true) ∧ (ltD d e).isSome = true) ∧ QQ ((ltD d e).getD false) → wpAny (model X.prog X.w) X.A (compareOp (cmOf c) v u) (EP X pins σ Q) X.xe s := fun hc ⟨⟨⟨h1, h2⟩, h3⟩, q⟩ => by
    subst hc
    obtain ⟨b, hb⟩ := Option.isSome_iff_exists.mp h3
    rw [hb] at q
    have c1 := SeqAt.canLay_of_shaped h1
    have c2 := SeqAt.canLay_of_shaped h2
    have un := hX.room.un
    have dp : d.py.depth ≤ 64 := SeqAt.depth_of_shaped h1
    have seen : ∀ {z f}, BR k F H z f → f.py.canLay0 = true → (∃ b', ltD d f = some b' ∨ ltD f e = some b') → R k H z f := fun {z f} h _ hl => by
      rcases h with h | ⟨_, _, _, rfl, _⟩ | ⟨_, _, _, rfl, _⟩
      · exact h.mono rel.sub
      · obtain ⟨b', hl | hl⟩ := hl
        · cases d <;> simp [ltD] at hl
        · cases e <;> simp [ltD] at hl
      · obtain ⟨b', hl | hl⟩ := hl
        · cases d <;> simp [ltD] at hl
        · cases e <;> simp [ltD] at hl
    have rc := rc_lt hK I 64 d e x y v u X.A b dp (seen bx c1 ⟨b, .inr hb⟩) (seen by' c2 ⟨b, .inl hb⟩) rx ry c1 c2 (by omega) hb
    exact rc X.prog X.w _ _ ⟨.bl b, H, I, rfl, fin _ q⟩
  cases d <;> cases e <;> first
    | (cases c <;> first | exact (show False from wp).elim | exact gen rfl wp)
    | skip
  cases bx.int; cases by'.int
  cases c <;> first
    | exact (show False from wp).elim
    | exact op_lt pins s σ H _ _ v u Q I rx ry ⟨_, _, rfl, rfl, fin _ wp⟩
    | exact op_le pins s σ H _ _ v u Q I rx ry ⟨_, _, rfl, rfl, fin _ wp⟩
    | exact op_gt pins s σ H _ _ v u Q I rx ry ⟨_, _, rfl, rfl, fin _ wp⟩
    | exact op_ge pins s σ H _ _ v u Q I rx ry ⟨_, _, rfl, rfl, fin _ wp⟩
theorem br_none {F H : Hp} {x : V} {d : D} (h : BR k F H x d) : decide (x = .non) = isNon d := by
  rcases h with h | ⟨_, _, rfl, rfl, _⟩ | ⟨_, _, rfl, rfl, _⟩
  · cases h <;> simp [isNon]
  · simp [isNon]
  · simp [isNon]
theorem op_cmp (hX : XOk X k) (c : Cm) : OpR X (compareOp (cmOf c)) (r2B k (cmpP c)) := by
  cases c with
  | eq => exact op_eqP hX
  | ne => exact op_neP hX
  | isin => exact op_inP hX
  | notin => exact op_notinP hX
  | lt => exact op_ordP hX .lt
  | le => exact op_ordP hX .le
  | gt => exact op_ordP hX .gt
  | ge => exact op_ordP hX .ge
  | is =>
    intro pins s σ H x y v u Q I rx ry ⟨ρ, σ', F, d, e, QQ, rel, bx, by', wp, fin⟩
    cases e with
    | non =>
      cases by'.non
      refine op_isN pins s σ H _ _ v u Q I rx ry ⟨rfl, ?_⟩
      rw [br_none bx]
      exact fin _ wp
    | bl j =>
      cases d <;> first | exact (show False from wp).elim | skip
      cases bx.bl; cases by'.bl
      exact op_is_bl pins s σ H _ _ v u Q I rx ry ⟨_, _, rfl, rfl, fin _ wp⟩
    | _ => exact (show False from wp).elim
  | isnot =>
    intro pins s σ H x y v u Q I rx ry ⟨ρ, σ', F, d, e, QQ, rel, bx, by', wp, fin⟩
    cases e with
    | non =>
      cases by'.non
      refine op_notN pins s σ H _ _ v u Q I rx ry ⟨rfl, ?_⟩
      rw [br_none bx]
      exact fin _ wp
    | bl j =>
      cases d <;> first | exact (show False from wp).elim | skip
      cases bx.bl; cases by'.bl
      exact op_isnot_bl pins s σ H _ _ v u Q I rx ry ⟨_, _, rfl, rfl, fin _ wp⟩
    | _ => exact (show False from wp).elim
theorem twoB {a b : IE} {P : D → D → (Bool → Prop) → Prop} {σ : L2.St} {H : Hp} {Q : VK} {QQ : RK} {ρ : PEnv} {F : Hp} (rel : Rel k ρ σ F H) (wp : wpE C a ρ fun x ρ1 => wpE C b ρ1 fun y ρ2 => P x.toD y.toD fun r => QQ (.val (.bl r)) ρ2)
    (fin : ∀ r ρ' v F' H', EPost k ρ σ F H r v ρ' F' H' → QQ r ρ' → Q v H') : tOp (r2B k P) (tE C k a) (tE C k b) σ H Q := by
  refine ⟨ρ, F, _, rel, wp, fun r1 ρ1 v1 F1 H1 p1 q1 => ⟨ρ1, F1, _, p1.rel, q1, fun r2 ρ2 v2 F2 H2 p2 q2 => ?_⟩⟩
  exact ⟨ρ2, σ, F2, _, _, _, p2.rel, p1.lent.tr p2.tr p2.rel, p2.lent, q2, fun r q3 => fin _ ρ2 _ F2 H2 (p1.then (p2.then (.flat p2.rel .refl (.bl r)))) q3⟩
theorem qe_cmp (hX : XOk X k) {c : Cm} {a b : Expr} {ia ib : IE} {pos : Pos} (ha : PE X a (tE C k ia)) (hb : PE X b (tE C k ib)) (hm : behindInMarks (cmOf c) b = false) : PE X (.Compare a [cmOf c] [b] pos) (tE C k (.cmp c ia ib)) :=
  weak (pe_cmpR (op_cmp hX c) ha hb hm) fun σ H Q ⟨ρ, F, QQ, rel, wp, fin⟩ => twoB (P := cmpP c) rel wp fin
theorem qt_cmp (hX : XOk X k) {c : Cm} {a b : Expr} {ia ib : IE} {pos : Pos} (ha : PE X a (tE C k ia)) (hb : PE X b (tE C k ib)) (hm : behindInMarks (cmOf c) b = false) : PT X (.Compare a [cmOf c] [b] pos) (tT C k (.cmp c ia ib)) := by
  refine weakT (pt_cmpR (op_cmp hX c) ha hb hm) fun σ H Q ⟨ρ, F, QQ, rel, wp, fin⟩ => ?_
  show tOp _ _ _ σ H _
  refine ⟨ρ, F, _, rel, wp, fun r1 ρ1 v1 F1 H1 p1 q1 => ⟨ρ1, F1, _, p1.rel, q1, fun r2 ρ2 v2 F2 H2 p2 q2 => ?_⟩⟩
  exact ⟨ρ2, σ, F2, _, _, _, p2.rel, p1.lent.tr p2.tr p2.rel, p2.lent, q2, fun r q3 => ⟨r, rfl, fin r ρ2 F2 H2 p2.rel (p1.tr.trans p2.tr) q3⟩⟩
end
end PL
namespace PL
open PySem PySem.Spec PyProof.Rows L2
section
variable {X : Cx} {k : RC} {C : PC}
theorem chainB {a b d : IE} {P P' : D → D → (Bool → Prop) → Prop} {σ : L2.St} {H : Hp} {Q : VK} {QQ : RK} {ρ : PEnv} {F : Hp} (rel : Rel k ρ σ F H)
    (wp : wpE C a ρ fun x ρ1 => wpE C b ρ1 fun y ρ2 => P x.toD y.toD fun r => brn r (wpE C d ρ2 fun z ρ3 => P' y.toD z.toD fun r' => QQ (.val (.bl r')) ρ3) (QQ (.val (.bl false)) ρ2))
    (fin : ∀ r ρ' v F' H', EPost k ρ σ F H (.val (.bl r)) v ρ' F' H' → v = .bl r → QQ (.val (.bl r)) ρ' → Q v H') : tChain (r2B k P) (r2B k P') (tE C k a) (tE C k b) (tE C k d) σ H Q := by
  refine ⟨ρ, F, _, rel, wp, fun r1 ρ1 v1 F1 H1 p1 q1 => ⟨ρ1, F1, _, p1.rel, q1, fun r2 ρ2 v2 F2 H2 p2 q2 => ?_⟩⟩
  refine ⟨ρ2, σ, F2, _, _, _, p2.rel, p1.lent.tr p2.tr p2.rel, p2.lent, q2, fun r q3 => ⟨r, rfl, ?_⟩⟩
  cases r with
  | false =>
    rw [brn_ite, if_neg Bool.false_ne_true] at q3; rw [if_neg Bool.false_ne_true]
    exact fin _ ρ2 _ F2 H2 (p1.then (p2.then (.flat p2.rel .refl (.bl _)))) rfl q3
  | true =>
    rw [brn_ite, if_pos rfl] at q3; rw [if_pos rfl]
    refine ⟨ρ2, F2, _, p2.rel, q3, fun r3 ρ3 v3 F3 H3 p3 q4 => ?_⟩
    exact ⟨ρ3, σ, F3, _, _, _, p3.rel, p2.lent.tr p3.tr p3.rel, p3.lent, q4, fun r' q5 => fin _ ρ3 _ F3 H3 (p1.then (p2.then (p3.then (.flat p3.rel .refl (.bl _))))) rfl q5⟩
theorem qe_cmp2 (hX : XOk X k) {c c' : Cm} {a b d : Expr} {ia ib id : IE} {pos : Pos} (ha : PE X a (tE C k ia)) (hb : PE X b (tE C k ib)) (hd : PE X d (tE C k id)) (hm : lastMarks [cmOf c, cmOf c'] [b, d] = false) :
    PE X (.Compare a [cmOf c, cmOf c'] [b, d] pos) (tE C k (.cmp2 c c' ia ib id)) :=
  weak (pe_chain (op_cmp hX c) (op_cmp hX c') ha hb hd hm) fun σ H Q ⟨ρ, F, QQ, rel, wp, fin⟩ => chainB (P := cmpP c) (P' := cmpP c') rel wp fun r ρ' v F' H' p _ q => fin _ _ _ _ _ p q
theorem qt_cmp2 (hX : XOk X k) {c c' : Cm} {a b d : Expr} {ia ib id : IE} {pos : Pos} (ha : PE X a (tE C k ia)) (hb : PE X b (tE C k ib)) (hd : PE X d (tE C k id)) (hm : lastMarks [cmOf c, cmOf c'] [b, d] = false) :
    PT X (.Compare a [cmOf c, cmOf c'] [b, d] pos) (tT C k (.cmp2 c c' ia ib id)) :=
  weakT (pt_chain (op_cmp hX c) (op_cmp hX c') ha hb hd hm) fun σ H Q ⟨ρ, F, QQ, rel, wp, fin⟩ => by
    show tChain _ _ _ _ _ σ H _
    exact chainB (P := cmpP c) (P' := cmpP c') rel wp fun r ρ' v F' H' p e q => ⟨r, e, fin r ρ' F' H' p.rel p.tr q⟩
theorem tru_of {ρ : PEnv} {σ : L2.St} {F H : Hp} {v : V} {d : D} {b : Bool} (hK : k.K = X.K) (rel : Rel k ρ σ F H) (br : BR k F H v d) (h : truthD d = some b) : TruV X.K v H b := by
  cases d <;> simp only [truthD, Option.some.injEq, reduceCtorEq] at h <;> subst h
  · cases br.non; rfl
  · cases br.bl; rfl
  · cases br.int; rfl
  · obtain ⟨a, vs, rfl, t, r⟩ := br.tup
    have sq := (t.mono rel.sub).sq
    rw [hK] at sq
    refine .inr (.inl ⟨vs, sq, ?_⟩)
    cases r <;> rfl
  · obtain ⟨a, vs, rfl, t, r⟩ := br.lst rel.sub
    refine .inl ⟨vs, .of t, ?_⟩
    cases r <;> rfl
theorem qt_tst (hX : XOk X k) {a : Expr} {ia : IE} (ha : PE X a (tE C k ia)) (he : ∀ whole, isTrue a X.env whole = (do let v ← whole; standAt a.pos; holding [v] (truthy v))) : PT X a (tT C k (.tst ia)) :=
  weakT (pt_truth ha he) fun σ H Q ⟨ρ, F, QQ, rel, wp, fin⟩ => ⟨ρ, F, _, rel, wp, fun r ρ' v F' H' p ⟨b, hb, q⟩ => ⟨b, tru_of hX.K p.rel p.lent hb, fin b ρ' F' H' p.rel p.tr q⟩⟩
theorem bl_of {F' H H' : Hp} {v : V} {b : Bool} (h : RR k H F' H' v (.val (.bl b))) : v = .bl b := by
  have q : R k F' v (.bl b) := h
  cases q; rfl
theorem qt_and {a b : Expr} {ia ib : IE} {rest : List Expr} {pos : Pos} (ha : PT X a (tT C k ia)) (hb : PW X (.BoolOp .And (b :: rest) pos) (tT C k ib)) : PW X (.BoolOp .And (a :: b :: rest) pos) (tT C k (.and ia ib)) := by
  refine ⟨fun wh pins s σ H Q I h => (pw_and ha hb).run wh pins s σ H Q I ?_⟩
  obtain ⟨ρ, F, QQ, rel, wp, fin⟩ := h
  refine ⟨ρ, F, _, rel, wp, fun b1 ρ1 F1 H1 rel1 tr1 q1 => ?_⟩
  obtain ⟨c, ec, q1⟩ := q1
  cases ec
  cases b1 with
  | true =>
    rw [brn_ite, if_pos rfl] at q1; rw [if_pos rfl]
    exact ⟨ρ1, F1, _, rel1, q1, fun b2 ρ2 F2 H2 rel2 tr2 q2 => fin b2 ρ2 F2 H2 rel2 (tr1.trans tr2) q2⟩
  | false =>
    rw [brn_ite, if_neg Bool.false_ne_true] at q1; rw [if_neg Bool.false_ne_true]
    exact fin false ρ1 F1 H1 rel1 tr1 q1
theorem qt_or {a b : Expr} {ia ib : IE} {rest : List Expr} {pos : Pos} (ha : PT X a (tT C k ia)) (hb : PW X (.BoolOp .Or (b :: rest) pos) (tT C k ib)) : PW X (.BoolOp .Or (a :: b :: rest) pos) (tT C k (.or ia ib)) := by
  refine ⟨fun wh pins s σ H Q I h => (pw_or ha hb).run wh pins s σ H Q I ?_⟩
  obtain ⟨ρ, F, QQ, rel, wp, fin⟩ := h
  refine ⟨ρ, F, _, rel, wp, fun b1 ρ1 F1 H1 rel1 tr1 q1 => ?_⟩
  obtain ⟨c, ec, q1⟩ := q1
  cases ec
  cases b1 with
  | true =>
    rw [brn_ite, if_pos rfl] at q1; rw [if_pos rfl]
    exact fin true ρ1 F1 H1 rel1 tr1 q1
  | false =>
    rw [brn_ite, if_neg Bool.false_ne_true] at q1; rw [if_neg Bool.false_ne_true]
    exact ⟨ρ1, F1, _, rel1, q1, fun b2 ρ2 F2 H2 rel2 tr2 q2 => fin b2 ρ2 F2 H2 rel2 (tr1.trans tr2) q2⟩
theorem qt_not {a : Expr} {ia : IE} {pos : Pos} (ha : PT X a (tT C k ia)) : PT X (.UnaryOp .Not a pos) (tT C k (.not ia)) :=
  weakT (pt_not ha) fun σ H Q ⟨ρ, F, QQ, rel, wp, fin⟩ => ⟨ρ, F, _, rel, wp, fun b ρ' F' H' rel' tr' q => by
    obtain ⟨c, ec, q⟩ := q
    cases ec
    exact fin _ ρ' F' H' rel' tr' q⟩
theorem qe_and {a b : Expr} {ia ib : IE} {rest : List Expr} {pos : Pos} (ha : PE X a (tE C k ia)) (hb : PE X (.BoolOp .And (b :: rest) pos) (tE C k ib)) : PE X (.BoolOp .And (a :: b :: rest) pos) (tE C k (.and ia ib)) :=
  weak (pe_and ha hb) fun σ H Q ⟨ρ, F, QQ, rel, wp, fin⟩ => ⟨ρ, F, _, rel, wp, fun r1 ρ1 v1 F1 H1 p1 q1 => by
    obtain ⟨c, rfl, q1⟩ := q1
    refine ⟨c, bl_of p1.res, ?_⟩
    cases c with
    | true =>
      rw [brn_ite, if_pos rfl] at q1; rw [if_pos rfl]
      exact ⟨ρ1, F1, _, p1.rel, q1, fun r2 ρ2 v2 F2 H2 p2 q2 => fin _ _ _ _ _ (p1.then p2) q2⟩
    | false =>
      rw [brn_ite, if_neg Bool.false_ne_true] at q1; rw [if_neg Bool.false_ne_true]
      exact fin _ _ _ _ _ (p1.then (.flat p1.rel .refl (.bl _))) q1⟩
theorem qe_or {a b : Expr} {ia ib : IE} {rest : List Expr} {pos : Pos} (ha : PE X a (tE C k ia)) (hb : PE X (.BoolOp .Or (b :: rest) pos) (tE C k ib)) : PE X (.BoolOp .Or (a :: b :: rest) pos) (tE C k (.or ia ib)) :=
  weak (pe_or ha hb) fun σ H Q ⟨ρ, F, QQ, rel, wp, fin⟩ => ⟨ρ, F, _, rel, wp, fun r1 ρ1 v1 F1 H1 p1 q1 => by
    obtain ⟨c, rfl, q1⟩ := q1
    refine ⟨c, bl_of p1.res, ?_⟩
    cases c with
    | true =>
      rw [brn_ite, if_pos rfl] at q1; rw [if_pos rfl]
      exact fin _ _ _ _ _ (p1.then (.flat p1.rel .refl (.bl _))) q1
    | false =>
      rw [brn_ite, if_neg Bool.false_ne_true] at q1; rw [if_neg Bool.false_ne_true]
      exact ⟨ρ1, F1, _, p1.rel, q1, fun r2 ρ2 v2 F2 H2 p2 q2 => fin _ _ _ _ _ (p1.then p2) q2⟩⟩
theorem qe_not {a : Expr} {ia : IE} {pos : Pos} (ha : PE X a (tE C k ia)) : PE X (.UnaryOp .Not a pos) (tE C k (.not ia)) :=
  weak (pe_not ha) fun σ H Q ⟨ρ, F, QQ, rel, wp, fin⟩ => ⟨ρ, F, _, rel, wp, fun r1 ρ1 v1 F1 H1 p1 q1 => by
    obtain ⟨c, rfl, q1⟩ := q1
    exact ⟨c, bl_of p1.res, fin _ _ _ _ _ (p1.then (.flat p1.rel .refl (.bl _))) q1⟩⟩
theorem qe_ite {c a b : Expr} {ic ia ib : IE} {pos : Pos} (hc : PT X c (tT C k ic)) (ha : PE X a (tE C k ia)) (hb : PE X b (tE C k ib)) : PE X (.IfExp c a b pos) (tE C k (.ite ic ia ib)) :=
  weak (pe_ifExp hc ha hb) fun σ H Q ⟨ρ, F, QQ, rel, wp, fin⟩ => ⟨ρ, F, _, rel, wp, fun b1 ρ1 F1 H1 rel1 tr1 q1 => by
    obtain ⟨c, ec, q1⟩ := q1
    cases ec
    have p1 : EPost k ρ σ F H (.val (.bl b1)) (.bl b1) ρ1 F1 H1 := ⟨rel1, tr1, .bl _⟩
    cases b1 with
    | true =>
      rw [brn_ite, if_pos rfl] at q1; rw [if_pos rfl]
      exact ⟨ρ1, F1, _, rel1, q1, fun r2 ρ2 v2 F2 H2 p2 q2 => fin _ _ _ _ _ (p1.then p2) q2⟩
    | false =>
      rw [brn_ite, if_neg Bool.false_ne_true] at q1; rw [if_neg Bool.false_ne_true]
      exact ⟨ρ1, F1, _, rel1, q1, fun r2 ρ2 v2 F2 H2 p2 q2 => fin _ _ _ _ _ (p1.then p2) q2⟩⟩
theorem qe_neg {a : Expr} {ia : IE} {pos : Pos} (ha : PE X a (tE C k ia)) : PE X (.UnaryOp .USub a pos) (tE C k (.neg ia)) :=
  weak (pe_un un_neg ha) fun σ H Q ⟨ρ, F, QQ, rel, wp, fin⟩ => ⟨ρ, F, _, rel, wp, fun r1 ρ1 v1 F1 H1 p1 ⟨i, e, q⟩ => by
    have l := p1.lent
    rw [e] at l
    exact ⟨i, l.int, fin _ _ _ _ _ (p1.then (.flat p1.rel .refl (.int _))) q⟩⟩
theorem qa_nil {b : Bool} : PA X [] (tA C k b .anil) := weakA pa_nil fun σ H Q ⟨ρ, F, QQ, rel, wp, fin⟩ => fin [] ρ [] F H rel .refl (by unfold ARel; split; exact .nil; exact .nil) wp
theorem qa_cons {b : Bool} {e : Expr} {es : List Expr} {ie ies : IE} (he : PE X e (tE C k ie)) (hr : PA X es (tA C k b ies)) (hs : starEach (e :: es) X.env = (false, eval e X.env) :: starEach es X.env) : PA X (e :: es) (tA C k b (.acons ie ies)) := by
  refine weakA (pa_cons he hr hs) fun σ H Q ⟨ρ, F, QQ, rel, wp, fin⟩ => ?_
  refine ⟨ρ, F, _, rel, wp, fun r1 ρ1 v1 F1 H1 p1 q1 => ?_⟩
  cases b with
  | true =>
    refine ⟨ρ1, F1, _, p1.rel, q1, fun ds ρ2 vs F2 H2 rel2 tr2 a2 q2 => ?_⟩
    exact fin _ ρ2 _ F2 H2 rel2 (p1.tr.trans tr2) (BRs.cons (p1.lent.tr tr2 rel2) a2) q2
  | false =>
    obtain ⟨d, F1', q1, e1, rd, rel1, tr1⟩ := p1.keep rel q1
    refine ⟨ρ1, F1', _, rel1, q1, fun ds ρ2 vs F2 H2 rel2 tr2 a2 q2 => ?_⟩
    exact fin _ ρ2 _ F2 H2 rel2 (tr1.trans tr2) (Rs.cons (rd.mono tr2.sub) a2) q2
theorem qe_tup {es : List Expr} {ies : IE} {x1 : Nat} {pos : Pos} (h : PA X es (tA C k false ies)) : PE X (.Tuple es x1 pos) (tE C k (.tup ies)) :=
  weak (pe_tupF h) fun σ H Q ⟨ρ, F, QQ, rel, wp, fin⟩ => ⟨ρ, F, _, rel, wp, fun ds ρ1 vs F1 H1 rel1 tr1 a1 ⟨hz, q⟩ => by
    have a1 : Rs k F1 vs ds := a1
    refine ⟨by rw [a1.length]; exact hz, newT rel1 a1 fun v F' H' p => ?_⟩
    exact fin (.val (.tup ds)) _ _ _ _ ⟨p.rel, tr1.trans p.tr, (p.res : R k F' v (.tup ds))⟩ q⟩
theorem qe_lst {es : List Expr} {ies : IE} {pos : Pos} (h : PA X es (tA C k false ies)) : PE X (.List es pos) (tE C k (.lst ies)) :=
  weak (pe_lst h) fun σ H Q ⟨ρ, F, QQ, rel, wp, fin⟩ => ⟨ρ, F, _, rel, wp, fun ds ρ1 vs F1 H1 rel1 tr1 a1 ⟨hz, q⟩ => by
    have a1 : Rs k F1 vs ds := a1
    exact ⟨by rw [a1.length]; exact hz, fun p hn => fin _ _ _ _ _ (.newL rel1 tr1 hn a1) q⟩⟩
theorem atI_rs {F : Hp} {vs : List V} {ds : List D} {i : Int} {d : D} (r : Rs k F vs ds) (h : atI ds i = some d) : ∃ v, atI vs i = some v ∧ R k F v d := by
  unfold atI at h ⊢
  rw [r.length]
  cases e : ixN ds.length i with
  | none => rw [e] at h; cases h
  | some j => rw [e] at h; exact r.get h
theorem ix_P (hX : XOk X k) : IxR X (fun x y H Q => ∃ ρ σ F d e QQ, Rel k ρ σ F H ∧ BR k F H x d ∧ BR k F H y e ∧ idxP d e QQ ∧ ∀ v d, R k F v d → QQ d → Q v H) := by
  intro value slice pins s σ H x y v u Q I rx ry ⟨ρ, σ', F, d, e, QQ, rel, bx, by', wp, fin⟩ hs
  have hK := hX.K
  cases d with
  | lst xs =>
    cases e <;> first | exact (show False from wp).elim | skip
    obtain ⟨d, h1, h2⟩ := wp
    obtain ⟨a, vs, rfl, t, r⟩ := bx.lst rel.sub
    cases by'.int
    obtain ⟨w, e1, e2⟩ := atI_rs r h1
    exact ix_list value slice pins s σ H _ _ v u Q I rx ry ⟨a, vs, _, w, rfl, rfl, .of t, e1, fin _ _ e2 h2⟩ hs
  | tup xs =>
    cases e <;> first | exact (show False from wp).elim | skip
    obtain ⟨d, h1, h2⟩ := wp
    obtain ⟨a, vs, rfl, t, r⟩ := bx.tup
    cases by'.int
    obtain ⟨w, e1, e2⟩ := atI_rs r h1
    have sq := (t.mono rel.sub).sq
    rw [hK] at sq
    exact ix_tup value slice pins s σ H _ _ v u Q I rx ry ⟨a, vs, _, w, rfl, rfl, sq, e1, fin _ _ e2 h2⟩ hs
  | str z =>
    cases e <;> first | exact (show False from wp).elim | skip
    obtain ⟨hz, c, h1, h2⟩ := wp
    cases bx.str; cases by'.int
    exact ix_str value slice pins s σ H _ _ v u Q I rx ry ⟨z, _, c, rfl, rfl, hz, h1, fin _ _ (.str _) h2⟩ hs
  | dct kvs =>
    obtain ⟨ok, vd, h1, h2⟩ := wp
    obtain ⟨a, es, rfl, g1, g2, g3, g4⟩ := bx.dct rel.sub
    have ky : R k F y e := by
      rcases by' with b | ⟨_, _, _, rfl, _⟩ | ⟨_, _, _, rfl, _⟩
      · exact b
      · obtain ⟨n, hn, _⟩ := keyOk_iff ok
        simp [nk] at hn
      · obtain ⟨n, hn, _⟩ := keyOk_iff ok
        simp [nk] at hn
    cases rx
    obtain ⟨o, ep, q1, q2, q3, _⟩ := dct_at I g1
    exact tail_any ⟨o, q1, q2.1⟩ PySem.F.slot_dict_getitem.lookup (d_get hX I rel.sub g1 g2 g3 ky ry ok h1 fun s' vv w I' rw' rv => ⟨vv, H, I', rw', fin _ _ rv h2⟩) hs
  | _ => exact (show False from wp).elim
theorem qe_idx (hX : XOk X k) {a b : Expr} {ia ib : IE} {pos : Pos} (ha : PE X a (tE C k ia)) (hb : PE X b (tE C k ib)) (hs : PlainIx b) : PE X (.Subscript a b pos) (tE C k (.idx ia ib)) :=
  weak (pe_ix (ix_P hX) ha hb hs) fun σ H Q ⟨ρ, F, QQ, rel, wp, fin⟩ => ⟨ρ, F, _, rel, wp, fun r1 ρ1 v1 F1 H1 p1 q1 => ⟨ρ1, F1, _, p1.rel, q1, fun r2 ρ2 v2 F2 H2 p2 q2 =>
    ⟨ρ2, σ, F2, _, _, _, p2.rel, p1.lent.tr p2.tr p2.rel, p2.lent, q2, fun v d rv q => fin _ _ _ _ _ (p1.then (p2.then (.flat p2.rel .refl rv))) q⟩⟩⟩
def tO (C : PC) (k : RC) (e : IE) : TO := fun σ H Q => ∃ ρ F QQ, Rel k ρ σ F H ∧ optP (isMiss e) (wpE C e) ρ QQ ∧ ∀ o ρ' F' H', Rel k ρ' σ F' H' → ETr k ρ σ F H ρ' F' H' → QQ o ρ' → Q o H'
theorem po_no : PO X none (tO C k (.cst .non)) := ⟨fun pins s σ H Q I ⟨ρ, F, QQ, rel, wp, fin⟩ => po_none.run pins s σ H Q I (fin none ρ F H rel .refl wp)⟩
theorem po_yes {e : Expr} {ie : IE} (h : PE X e (tE C k ie)) (hm : isMiss ie = false) : PO X (some e) (tO C k ie) := ⟨fun pins s σ H Q I ⟨ρ, F, QQ, rel, wp, fin⟩ => by
  unfold optP at wp
  rw [hm, if_neg Bool.false_ne_true] at wp
  refine (po_some h).run pins s σ H Q I ⟨ρ, F, _, rel, wp, fun r ρ' v F' H' p ⟨i, e, q⟩ => ?_⟩
  have l := p.lent
  rw [e] at l
  exact ⟨i, l.int, fin _ _ _ _ p.rel p.tr q⟩⟩
theorem cut_rs {F : Hp} {vs : List V} {ds : List D} (r : Rs k F vs ds) (lo hi : Option Int) : Rs k F (cutV vs lo hi) (cutL ds lo hi) := by
  unfold cutV cutL
  rw [r.length]
  exact (r.drop _).take _
theorem sl_P (hX : XOk X k) : SlR X (fun x lo hi H Q => ∃ ρ σ F d QQ, Rel k ρ σ F H ∧ BR k F H x d ∧ slcP d lo hi QQ ∧ ∀ r v F' H', EPost k ρ σ F H r v ρ F' H' → QQ r → Q v H') := by
  intro pins s σ H x v vl vu lo hi sl Q I rx hs pl pu ⟨ρ, σ', F, d, QQ, rel, bx, wp, fin⟩
  have hK := hX.K
  cases d with
  | lst xs =>
    obtain ⟨a, vs, rfl, t, r⟩ := bx.lst rel.sub
    exact sl_list pins s σ H _ v vl vu lo hi sl Q I rx hs pl pu ⟨a, vs, rfl, .of t, fun p hn => fin _ _ _ _ (.newL rel .refl hn (cut_rs r lo hi)) wp⟩
  | tup xs =>
    obtain ⟨a, vs, rfl, t, r⟩ := bx.tup
    have sq := (t.mono rel.sub).sq
    rw [hK] at sq
    refine sl_tupF pins s σ H _ v vl vu lo hi sl Q I rx hs pl pu ⟨a, vs, rfl, sq, fun z => ?_, fun _ => newT rel (cut_rs r lo hi) fun v F' H' p => fin _ _ _ _ p wp⟩
    have e : cutL xs lo hi = xs := by
      unfold cutL
      rw [r.length] at z
      rw [z.1, z.2]
      simp
    have wp : QQ (.val (.tup (cutL xs lo hi))) := wp
    rw [e] at wp
    exact fin _ _ _ _ (.flat rel .refl (.tup t r)) wp
  | _ => exact (show False from wp).elim
theorem qe_slc (hX : XOk X k) {a : Expr} {lo hi : Option Expr} {ia il ih : IE} {p2 pos : Pos} (ha : PE X a (tE C k ia)) (hl : PO X lo (tO C k il)) (hh : PO X hi (tO C k ih)) : PE X (.Subscript a (.Slice lo hi none p2) pos) (tE C k (.slc ia il ih)) :=
  weak (pe_slice (sl_P hX) ha hl hh) fun σ H Q ⟨ρ, F, QQ, rel, wp, fin⟩ => ⟨ρ, F, _, rel, wp, fun r1 ρ1 v1 F1 H1 p1 q1 => ⟨ρ1, F1, _, p1.rel, q1, fun l ρ2 F2 H2 rel2 tr2 q2 => ⟨ρ2, F2, _, rel2, q2, fun h ρ3 F3 H3 rel3 tr3 q3 =>
    ⟨ρ3, σ, F3, _, _, rel3, (p1.lent.tr tr2 rel2).tr tr3 rel3, q3, fun r v F' H' p q => fin _ _ _ _ _ ((p1.then (⟨rel2, tr2, .non⟩ : EPost k ρ1 σ F1 H1 (.val .non) .non ρ2 F2 H2)).then ((⟨rel3, tr3, .non⟩ : EPost k ρ2 σ F2 H2 (.val .non) .non ρ3 F3 H3).then p)) q⟩⟩⟩⟩
def rBlt (k : RC) (P : List D → (RV → Prop) → Prop) : List V → Hp → VK → Prop := fun xs H Q => ∃ ρ σ F ds QQ, Rel k ρ σ F H ∧ BRs k F H xs ds ∧ P ds QQ ∧ ∀ r v F' H', EPost k ρ σ F H r v ρ F' H' → QQ r → Q v H'
theorem brs1 {F H : Hp} {xs : List V} {d : D} (h : BRs k F H xs [d]) : ∃ x, xs = [x] ∧ BR k F H x d := by
  cases h with
  | cons a b => cases b; exact ⟨_, rfl, a⟩
theorem brs2 {F H : Hp} {xs : List V} {d e : D} (h : BRs k F H xs [d, e]) : ∃ x y, xs = [x, y] ∧ BR k F H x d ∧ BR k F H y e := by
  cases h with
  | cons a b =>
    obtain ⟨y, rfl, c⟩ := brs1 b
    exact ⟨_, y, rfl, a, c⟩
theorem qe_blt {f : BI} {e : Expr} {es : List Expr} {ies : IE} {t : TA → TE} (h : ∀ ta, PA X es ta → PE X e (tCB (rBlt k (bltP f)) ta)) (ha : PA X es (tA C k true ies)) : PE X e (tE C k (.blt f ies)) :=
  weak (h _ ha) fun σ H Q ⟨ρ, F, QQ, rel, wp, fin⟩ => ⟨ρ, F, _, rel, wp, fun ds ρ1 vs F1 H1 rel1 tr1 a1 q1 =>
    ⟨ρ1, σ, F1, ds, _, rel1, a1, q1, fun r v F' H' p q => fin _ _ _ _ _ ((⟨rel1, tr1, .non⟩ : EPost k ρ σ F H (.val .non) .non ρ1 F1 H1).then p) q⟩⟩
theorem cb_len_dct (hX : XOk X k) {pins : List (Addr × Obj)} {s : Shared} {σ : L2.St} {F H : Hp} {a : Addr} {es : List DictEntry} {kvs : List (D × D)} {Q : Value → Shared → Prop} {E : Value → Shared → Prop} (I : Inv X pins σ H s) (sub : Same F H) (da : DctAt H a es)
    (rk : RKs k F es kvs) (nd : (kvs.map fun p => nk p.1).Nodup) (un : ∀ p ∈ kvs, ∀ q ∈ kvs, scal p.1 = scal q.1)
    (h : ∀ s' t, Inv X pins σ H s' → Q (.int kvs.length t) s') : wpAny (model X.prog X.w) X.A (call (.builtin "len") [.ref a]) Q E s := by
  obtain ⟨_, _, _, _, _, hs, hz⟩ := dct_at I da
  have hl := rk.length
  have hline := sizeLine_eq
  have c : (∀ p ∈ kvs, scal p.1 = true) ∨ ∀ p ∈ kvs, scal p.1 = false := by
    cases kvs with
    | nil => exact .inl fun p hp => by simp at hp
    | cons p ps =>
      cases e : scal p.1 with
      | true => exact .inl fun q hq => (un p List.mem_cons_self q hq).symm.trans e
      | false => exact .inr fun q hq => (un p List.mem_cons_self q hq).symm.trans e
  rcases c with c | c
  · obtain ⟨ps, q1, q2⟩ := dv_s hX I da rk nd c
    exact call_len_dict hs q1 (by rw [q2.len]; omega) (by rw [q2.len]; exact h _ _ (I.tok _))
  · obtain ⟨ps, q1, q2⟩ := dv_h hX I sub da rk nd c
    exact call_len_dictH hs q1 (by rw [q2.len]; omega) (by rw [q2.len]; exact h _ _ (I.tok _))
theorem cb_len (hX : XOk X k) : CallR X (.builtin "len") (rBlt k (bltP .len)) := by
  intro pins s σ H xs us Q I r ⟨ρ, σ', F, ds, QQ, rel, br, wp, fin⟩
  have hK := hX.K
  match ds, br, wp with
  | [.str z], br, wp =>
    obtain ⟨x, rfl, b⟩ := brs1 br
    cases b.str
    exact call_len pins s σ H _ us Q I r ⟨_, z.length, rfl, ⟨wp.1, rfl⟩, fin _ _ _ _ (.flat rel .refl (.int _)) wp.2⟩
  | [.lst xs], br, wp =>
    obtain ⟨x, rfl, b⟩ := brs1 br
    obtain ⟨a, vs, rfl, t, q⟩ := b.lst rel.sub
    exact call_len pins s σ H _ us Q I r ⟨_, vs.length, rfl, .inl ⟨vs, .of t, rfl⟩, by rw [q.length]; exact fin _ _ _ _ (.flat rel .refl (.int _)) wp⟩
  | [.tup xs], br, wp =>
    obtain ⟨x, rfl, b⟩ := brs1 br
    obtain ⟨a, vs, rfl, t, q⟩ := b.tup
    have sq := (t.mono rel.sub).sq
    rw [hK] at sq
    exact call_len pins s σ H _ us Q I r ⟨_, vs.length, rfl, .inr ⟨vs, sq, rfl⟩, by rw [q.length]; exact fin _ _ _ _ (.flat rel .refl (.int _)) wp⟩
  | [.dct kvs], br, wp =>
    obtain ⟨x, rfl, b⟩ := brs1 br
    obtain ⟨a, es, rfl, g1, g2, g3, g4⟩ := b.dct rel.sub
    obtain ⟨u, rfl, rx⟩ := vals1 r
    cases rx
    exact cb_len_dct hX I rel.sub g1 g2 g3 g4 fun s' t I' => ⟨.int _, H, I', ⟨t, rfl⟩, fin _ _ _ _ (.flat rel .refl (.int _)) wp⟩
end
end PL
namespace PL
open PySem PySem.Spec PyProof.Rows L2
section
variable {X : Cx} {k : RC} {C : PC}
theorem ints_vs {F : Hp} : ∀ {vs : List V} {ds : List D} {is : List Int}, Rs k F vs ds → ints? ds = some is → vs = is.map V.int
  | _, _, is, .nil, h => by simp only [ints?, Option.some.injEq] at h; subst h; rfl
  | _, .int i :: ds, is, .cons a r, h => by
    simp only [ints?, Option.map_eq_some_iff] at h
    obtain ⟨js, h1, rfl⟩ := h
    cases a
    rw [ints_vs r h1]; rfl
  | _, .non :: _, _, .cons _ _, h => by simp [ints?] at h
  | _, .bl _ :: _, _, .cons _ _, h => by simp [ints?] at h
  | _, .str _ :: _, _, .cons _ _, h => by simp [ints?] at h
  | _, .tup _ :: _, _, .cons _ _, h => by simp [ints?] at h
  | _, .lst _ :: _, _, .cons _ _, h => by simp [ints?] at h
  | _, .dct _ :: _, _, .cons _ _, h => by simp [ints?] at h
  | _, .rng _ _ :: _, _, .cons _ _, h => by simp [ints?] at h
  | _, .pool :: _, _, .cons _ _, h => by simp [ints?] at h
theorem bls_vs {F : Hp} : ∀ {vs : List V} {ds : List D} {is : List Bool}, Rs k F vs ds → bls? ds = some is → vs = is.map V.bl
  | _, _, is, .nil, h => by simp only [bls?, Option.some.injEq] at h; subst h; rfl
  | _, .bl i :: ds, is, .cons a r, h => by
    simp only [bls?, Option.map_eq_some_iff] at h
    obtain ⟨js, h1, rfl⟩ := h
    cases a
    rw [bls_vs r h1]; rfl
  | _, .non :: _, _, .cons _ _, h => by simp [bls?] at h
  | _, .int _ :: _, _, .cons _ _, h => by simp [bls?] at h
  | _, .str _ :: _, _, .cons _ _, h => by simp [bls?] at h
  | _, .tup _ :: _, _, .cons _ _, h => by simp [bls?] at h
  | _, .lst _ :: _, _, .cons _ _, h => by simp [bls?] at h
  | _, .dct _ :: _, _, .cons _ _, h => by simp [bls?] at h
  | _, .rng _ _ :: _, _, .cons _ _, h => by simp [bls?] at h
  | _, .pool :: _, _, .cons _ _, h => by simp [bls?] at h
theorem cb_sum (hX : XOk X k) : CallR X (.builtin "sum") (rBlt k (bltP .sum)) := by
  intro pins s σ H xs us Q I r ⟨ρ, σ', F, ds, QQ, rel, br, wp, fin⟩
  match ds, br, wp with
  | [.lst xs], br, wp =>
    obtain ⟨x, rfl, b⟩ := brs1 br
    obtain ⟨a, vs, rfl, t, q⟩ := b.lst rel.sub
    obtain ⟨is, h1, h2⟩ := wp
    cases ints_vs q h1
    exact cr_sum hX.calm pins s σ H _ us Q I r ⟨a, is, rfl, .of t, fin _ _ _ _ (.flat rel .refl (.int _)) h2⟩
theorem cb_any (hX : XOk X k) : CallR X (.builtin "any") (rBlt k (bltP .any)) := by
  intro pins s σ H xs us Q I r ⟨ρ, σ', F, ds, QQ, rel, br, wp, fin⟩
  match ds, br, wp with
  | [.lst xs], br, wp =>
    obtain ⟨x, rfl, b⟩ := brs1 br
    obtain ⟨a, vs, rfl, t, q⟩ := b.lst rel.sub
    obtain ⟨is, h1, h2⟩ := wp
    cases bls_vs q h1
    exact cr_any hX.calm pins s σ H _ us Q I r ⟨a, is, rfl, .of t, fin _ _ _ _ (.flat rel .refl (.bl _)) h2⟩
theorem cb_all (hX : XOk X k) : CallR X (.builtin "all") (rBlt k (bltP .all)) := by
  intro pins s σ H xs us Q I r ⟨ρ, σ', F, ds, QQ, rel, br, wp, fin⟩
  match ds, br, wp with
  | [.lst xs], br, wp =>
    obtain ⟨x, rfl, b⟩ := brs1 br
    obtain ⟨a, vs, rfl, t, q⟩ := b.lst rel.sub
    obtain ⟨is, h1, h2⟩ := wp
    cases bls_vs q h1
    exact cr_all hX.calm pins s σ H _ us Q I r ⟨a, is, rfl, .of t, fin _ _ _ _ (.flat rel .refl (.bl _)) h2⟩
theorem cb_abs (hX : XOk X k) : CallR X (.builtin "abs") (rBlt k (bltP .abs)) := by
  intro pins s σ H xs us Q I r ⟨ρ, σ', F, ds, QQ, rel, br, wp, fin⟩
  match ds, br, wp with
  | [.int i], br, wp =>
    obtain ⟨x, rfl, b⟩ := brs1 br
    cases b.int
    exact call_abs pins s σ H _ us Q I r ⟨i, rfl, fin _ _ _ _ (.flat rel .refl (.int _)) wp⟩
theorem cb_int (hX : XOk X k) : CallR X (.type "int") (rBlt k (bltP .int)) := by
  intro pins s σ H xs us Q I r ⟨ρ, σ', F, ds, QQ, rel, br, wp, fin⟩
  match ds, br, wp with
  | [.int i], br, wp =>
    obtain ⟨x, rfl, b⟩ := brs1 br
    cases b.int
    exact call_int1 pins s σ H _ us Q I r (.inl ⟨i, rfl, fin _ _ _ _ (.flat rel .refl (.int _)) wp⟩)
  | [.bl i], br, wp =>
    obtain ⟨x, rfl, b⟩ := brs1 br
    cases b.bl
    exact call_int1 pins s σ H _ us Q I r (.inr ⟨i, rfl, fin _ _ _ _ (.flat rel .refl (.int _)) wp⟩)
theorem cb_str (hX : XOk X k) : CallR X (.type "str") (rBlt k (bltP .str)) := by
  intro pins s σ H xs us Q I r ⟨ρ, σ', F, ds, QQ, rel, br, wp, fin⟩
  match ds, br, wp with
  | [.int i], br, wp =>
    obtain ⟨x, rfl, b⟩ := brs1 br
    cases b.int
    exact call_str_int pins s σ H _ us Q I r ⟨i, rfl, wp.1, fin _ _ _ _ (.flat rel .refl (.str _)) wp.2⟩
theorem ints_pys {ds : List D} : ∀ {is : List Int}, ints? ds = some is → D.pys ds = is.map .int := by
  induction ds with
  | nil => intro is h; simp only [ints?, Option.some.injEq] at h; subst h; rfl
  | cons d ds ih =>
    intro is h
    cases d <;> simp only [ints?, Option.map_eq_some_iff, reduceCtorEq] at h
    obtain ⟨js, h1, rfl⟩ := h
    simp only [D.pys, ih h1, List.map_cons, D.py]
theorem ints_mapD {ds : List D} : ∀ {is : List Int}, ints? ds = some is → ds = is.map D.int := by
  induction ds with
  | nil => intro is h; simp only [ints?, Option.some.injEq] at h; subst h; rfl
  | cons d ds ih =>
    intro is h
    cases d <;> simp only [ints?, Option.map_eq_some_iff, reduceCtorEq] at h
    obtain ⟨js, h1, rfl⟩ := h
    rw [ih h1]; rfl
theorem ints_unmap : ∀ is : List Int, ints? (is.map D.int) = some is
  | [] => rfl
  | a :: is => by simp only [List.map_cons, ints?, ints_unmap is, Option.map_some]
theorem pys_lay : ∀ {ds : List D}, (∀ d ∈ ds, shp d = true) → PyData.canLayAll0 (D.pys ds) = true ∧ PyData.depthAll (D.pys ds) ≤ 64
  | [], _ => ⟨rfl, Nat.zero_le _⟩
  | d :: ds, h => by
    obtain ⟨h1, h2⟩ := pys_lay fun e he => h e (List.mem_cons_of_mem _ he)
    have c := SeqAt.canLay_of_shaped (h d List.mem_cons_self)
    have e := SeqAt.depth_of_shaped (h d List.mem_cons_self)
    refine ⟨?_, ?_⟩
    · show (PyData.canLay0 d.py && PyData.canLayAll0 (D.pys ds)) = true
      rw [c, h1]; rfl
    · show max (PyData.depth d.py) (PyData.depthAll (D.pys ds)) ≤ 64
      exact Nat.max_le.mpr ⟨e, h2⟩
theorem pys_mem : ∀ {ds : List D} {x : PyData}, x ∈ D.pys ds → ∃ d ∈ ds, d.py = x
  | d :: ds, x, h => by
    have h : x ∈ d.py :: D.pys ds := h
    rcases List.mem_cons.mp h with rfl | h
    · exact ⟨d, List.mem_cons_self, rfl⟩
    · obtain ⟨e, h1, h2⟩ := pys_mem h
      exact ⟨e, List.mem_cons_of_mem _ h1, h2⟩
theorem pys_getD : ∀ {ds : List D} {i : Nat} {d : D}, ds[i]? = some d → (D.pys ds).getD i .none = d.py
  | e :: ds, 0, d, h => by
    obtain rfl : e = d := Option.some.inj h
    rfl
  | e :: ds, i + 1, d, h => by
    have := pys_getD (ds := ds) (i := i) (d := d) (by simpa using h)
    exact this
theorem sortable_alike {xs : List D} (h : sortable xs) : PySem.W.AlikeAll (D.pys xs) := by
  refine ⟨fun x hx y hy => ?_, fun x hx => ?_⟩
  · obtain ⟨a, ha, rfl⟩ := pys_mem hx
    obtain ⟨b, hb, rfl⟩ := pys_mem hy
    exact h.2 a ha b hb
  · obtain ⟨a, ha, rfl⟩ := pys_mem hx
    exact (h.1 a ha).2
theorem ints_sortable (is : List Int) : sortable (is.map D.int) := by
  refine ⟨fun x hx => ?_, fun x hx y hy => ?_⟩
  · obtain ⟨i, _, rfl⟩ := List.mem_map.mp hx
    exact ⟨rfl, fun z => by cases z⟩
  · obtain ⟨i, _, rfl⟩ := List.mem_map.mp hx
    obtain ⟨j, _, rfl⟩ := List.mem_map.mp hy
    rfl
theorem minP_data {xs : List D} {QQ : RV → Prop} (h : minP xs QQ) : sortable xs ∧ xs ≠ [] ∧ ∀ x ∈ xs, x.py = minY xs → QQ (.val x) := by
  rcases h with ⟨is, h1, h2, h3⟩ | h
  · cases ints_mapD h1
    refine ⟨ints_sortable is, by simpa using h2, fun x hx e => ?_⟩
    obtain ⟨i, _, rfl⟩ := List.mem_map.mp hx
    match is, h2 with
    | j :: is, _ =>
      have e : PyData.int i = PySem.W.minD (.int j) (D.pys (is.map D.int)) := e
      rw [ints_pys (ints_unmap is), PySem.W.minD_ints] at e
      injection e with e
      rw [e]; exact h3
  · exact h
theorem maxP_data {xs : List D} {QQ : RV → Prop} (h : maxP xs QQ) : sortable xs ∧ xs ≠ [] ∧ ∀ x ∈ xs, x.py = maxY xs → QQ (.val x) := by
  rcases h with ⟨is, h1, h2, h3⟩ | h
  · cases ints_mapD h1
    refine ⟨ints_sortable is, by simpa using h2, fun x hx e => ?_⟩
    obtain ⟨i, _, rfl⟩ := List.mem_map.mp hx
    match is, h2 with
    | j :: is, _ =>
      have e : PyData.int i = PySem.W.maxD (.int j) (D.pys (is.map D.int)) := e
      rw [ints_pys (ints_unmap is), PySem.W.maxD_ints] at e
      injection e with e
      rw [e]; exact h3
  · exact h
theorem seq_data {pins : List (Addr × Obj)} {s : Shared} {σ : L2.St} {F H : Hp} {x : V} {u : Value} {ds : List D} {isT : Bool} (hK : k.K = X.K) (I : Inv X pins σ H s) (sub : Same F H) (br : BR k F H x (if isT then .tup ds else .lst ds)) (ru : RelV x u)
    (hs : ∀ d ∈ ds, shp d = true) : ∃ a its vs as, u = .ref a ∧ (if isT then s.heap.IsTuple a its else s.heap.IsList a its) ∧ Vals vs its.toList ∧ Rs k F vs ds ∧ ReadsAll s.heap its.toList (D.pys ds) as := by
  have lay := (pys_lay hs).1
  cases isT with
  | false =>
    obtain ⟨a, vs, rfl, t, q⟩ := br.lst sub
    cases ru
    obtain ⟨its, r', pl, hz⟩ := I.list (.of t)
    have dp := (q.mono sub).dp lay
    rw [hK] at dp
    obtain ⟨as, ra⟩ := Dp.readsAll I _ _ its dp r'
    exact ⟨a, its.toArray, vs, as, rfl, pl.isList, by simpa using r', q, by simpa using ra⟩
  | true =>
    obtain ⟨a, vs, rfl, t, q⟩ := br.tup
    cases ru
    have sq := (t.mono sub).sq
    rw [hK] at sq
    obtain ⟨its, r', pl, hz⟩ := I.tuple sq
    have dp := (q.mono sub).dp lay
    rw [hK] at dp
    obtain ⟨as, ra⟩ := Dp.readsAll I _ _ its dp r'
    exact ⟨a, its.toArray, vs, as, rfl, pl, by simpa using r', q, by simpa using ra⟩
theorem pick_item {h0 h' : Heap} {F : Hp} {its : Array Value} {vs : List V} {ds : List D} {as bs : List Addr} {i : Nat} {v : Value} {d : PyData} (hs : ∀ d ∈ ds, shp d = true) (rv : Vals vs its.toList) (rs : Rs k F vs ds) (ra : ReadsAll h0 its.toList (D.pys ds) as)
    (kp : ∀ b o, h0.get? b = some o → h'.get? b = some o) (hi : its[i]? = some v) (rd : Reads h' v d bs) (hd : d ∈ D.pys ds) : ∃ x z, x ∈ ds ∧ x.py = d ∧ RelV z v ∧ R k F z x := by
  obtain ⟨bs', r1, hl, _⟩ := PySem.W.readsAll_atA ra i v hi
  rw [pys_len] at hl
  have e1 : ds[i]? = some ds[i] := List.getElem?_eq_getElem hl
  have hm : ds[i] ∈ ds := List.getElem_mem hl
  rw [pys_getD e1] at r1
  obtain ⟨z, z1, z2⟩ := rs.get e1
  obtain ⟨u, u1, u2⟩ := rv.get z1
  have : u = v := by
    have h2 : its.toList[i]? = some v := by simpa using hi
    rw [h2] at u1
    exact (Option.some.inj u1).symm
  subst this
  have r2 := PyProof.Rows.Reads.keeps kp r1
  have c1 := SeqAt.readOf_eq (SeqAt.canLay_of_shaped (hs _ hm)) r2
  obtain ⟨y, hy, rfl⟩ := pys_mem hd
  have c2 := SeqAt.readOf_eq (SeqAt.canLay_of_shaped (hs _ hy)) rd
  exact ⟨ds[i], z, hm, c1.symm.trans c2, u2, z2⟩
theorem minD_mem : ∀ {xs : List PyData} {x : PyData}, PySem.W.minD x xs ∈ x :: xs
  | [], x => List.mem_cons_self
  | y :: xs, x => by
    show PySem.W.minD (if PySem.W.dataLt y x then y else x) xs ∈ _
    have := minD_mem (xs := xs) (x := if PySem.W.dataLt y x then y else x)
    rcases List.mem_cons.mp this with e | e
    · rw [e]; split
      · exact List.mem_cons_of_mem _ List.mem_cons_self
      · exact List.mem_cons_self
    · exact List.mem_cons_of_mem _ (List.mem_cons_of_mem _ e)
theorem maxD_mem : ∀ {xs : List PyData} {x : PyData}, PySem.W.maxD x xs ∈ x :: xs
  | [], x => List.mem_cons_self
  | y :: xs, x => by
    have := maxD_mem (xs := xs) (x := if PySem.W.dataLt x y then y else x)
    have e0 : PySem.W.maxD x (y :: xs) = PySem.W.maxD (if PySem.W.dataLt x y then y else x) xs := rfl
    rw [e0]
    rcases List.mem_cons.mp this with e | e
    · rw [e]; split
      · exact List.mem_cons_of_mem _ List.mem_cons_self
      · exact List.mem_cons_self
    · exact List.mem_cons_of_mem _ (List.mem_cons_of_mem _ e)
theorem cb_min (hX : XOk X k) : CallR X (.builtin "min") (rBlt k (bltP .min)) := by
  intro pins s σ H xs us Q I r ⟨ρ, σ', F, ds, QQ, rel, br, wp, fin⟩
  have hh := I.ok.hd hX.calm
  have un := hX.room.un
  match ds, br, wp with
  | [.int i, .int j], br, wp =>
    obtain ⟨x, y, rfl, b, c⟩ := brs2 br
    cases b.int; cases c.int
    exact call_min2 hX.calm pins s σ H _ us Q I r ⟨i, j, rfl, fin _ _ _ _ (.flat rel .refl (.int _)) wp⟩
  | [.lst xs], br, wp =>
    obtain ⟨x, rfl, b⟩ := brs1 br
    obtain ⟨so, ne, q⟩ := minP_data wp
    have hs := fun d hd => (so.1 d hd).1
    obtain ⟨u, rfl, ru⟩ := vals1 r
    obtain ⟨a, its, vs, as, rfl, hl, rv, rs, ra⟩ := seq_data (isT := false) hX.K I rel.sub b ru hs
    match xs, ne with
    | y :: ys, _ =>
      have dp := (pys_lay hs).2
      refine PySem.W.min_list_data (x := y.py) (xs := D.pys ys) hh hl ra (sortable_alike so) (by show _ + PyData.depthAll (D.pys (y :: ys)) < _; omega) fun i v h' tk bs hi rd hk => ?_
      obtain ⟨x, z, m1, m2, m3, m4⟩ := pick_item hs rv rs ra hk hi rd minD_mem
      exact ⟨_, H, I.kept hk, m3, fin _ _ _ _ (.flat rel .refl m4) (q x m1 m2)⟩
  | [.tup xs], br, wp =>
    obtain ⟨x, rfl, b⟩ := brs1 br
    obtain ⟨so, ne, q⟩ := minP_data wp
    have hs := fun d hd => (so.1 d hd).1
    obtain ⟨u, rfl, ru⟩ := vals1 r
    obtain ⟨a, its, vs, as, rfl, hl, rv, rs, ra⟩ := seq_data (isT := true) hX.K I rel.sub b ru hs
    match xs, ne with
    | y :: ys, _ =>
      have dp := (pys_lay hs).2
      refine PySem.W.min_tuple_data (x := y.py) (xs := D.pys ys) hh hl ra (sortable_alike so) (by show _ + PyData.depthAll (D.pys (y :: ys)) < _; omega) fun i v h' tk bs hi rd hk => ?_
      obtain ⟨x, z, m1, m2, m3, m4⟩ := pick_item hs rv rs ra hk hi rd minD_mem
      exact ⟨_, H, I.kept hk, m3, fin _ _ _ _ (.flat rel .refl m4) (q x m1 m2)⟩
theorem cb_max (hX : XOk X k) : CallR X (.builtin "max") (rBlt k (bltP .max)) := by
  intro pins s σ H xs us Q I r ⟨ρ, σ', F, ds, QQ, rel, br, wp, fin⟩
  have hh := I.ok.hd hX.calm
  have un := hX.room.un
  match ds, br, wp with
  | [.int i, .int j], br, wp =>
    obtain ⟨x, y, rfl, b, c⟩ := brs2 br
    cases b.int; cases c.int
    exact call_max2 hX.calm pins s σ H _ us Q I r ⟨i, j, rfl, fin _ _ _ _ (.flat rel .refl (.int _)) wp⟩
  | [.lst xs], br, wp =>
    obtain ⟨x, rfl, b⟩ := brs1 br
    obtain ⟨so, ne, q⟩ := maxP_data wp
    have hs := fun d hd => (so.1 d hd).1
    obtain ⟨u, rfl, ru⟩ := vals1 r
    obtain ⟨a, its, vs, as, rfl, hl, rv, rs, ra⟩ := seq_data (isT := false) hX.K I rel.sub b ru hs
    match xs, ne with
    | y :: ys, _ =>
      have dp := (pys_lay hs).2
      refine PySem.W.max_list_data (x := y.py) (xs := D.pys ys) hh hl ra (sortable_alike so) (by show _ + PyData.depthAll (D.pys (y :: ys)) < _; omega) fun i v h' tk bs hi rd hk => ?_
      obtain ⟨x, z, m1, m2, m3, m4⟩ := pick_item hs rv rs ra hk hi rd maxD_mem
      exact ⟨_, H, I.kept hk, m3, fin _ _ _ _ (.flat rel .refl m4) (q x m1 m2)⟩
  | [.tup xs], br, wp =>
    obtain ⟨x, rfl, b⟩ := brs1 br
    obtain ⟨so, ne, q⟩ := maxP_data wp
    have hs := fun d hd => (so.1 d hd).1
    obtain ⟨u, rfl, ru⟩ := vals1 r
    obtain ⟨a, its, vs, as, rfl, hl, rv, rs, ra⟩ := seq_data (isT := true) hX.K I rel.sub b ru hs
    match xs, ne with
    | y :: ys, _ =>
      have dp := (pys_lay hs).2
      refine PySem.W.max_tuple_data (x := y.py) (xs := D.pys ys) hh hl ra (sortable_alike so) (by show _ + PyData.depthAll (D.pys (y :: ys)) < _; omega) fun i v h' tk bs hi rd hk => ?_
      obtain ⟨x, z, m1, m2, m3, m4⟩ := pick_item hs rv rs ra hk hi rd maxD_mem
      exact ⟨_, H, I.kept hk, m3, fin _ _ _ _ (.flat rel .refl m4) (q x m1 m2)⟩
def rMmd (k : RC) (mx : Bool) : List V → List V → Hp → VK → Prop := fun xs zs H Q => ∃ ρ σ F v z ds d QQ, xs = [v] ∧ zs = [z] ∧ Rel k ρ σ F H ∧ BR k F H v (.lst ds) ∧ R k F z d ∧ (ds = [] → QQ (.val d)) ∧ (ds ≠ [] → if mx = true then maxP ds QQ else minP ds QQ) ∧
  ∀ r v F' H', EPost k ρ σ F H r v ρ F' H' → QQ r → Q v H'
theorem ck_minD (hX : XOk X k) : CallRK X (.builtin "min") ["default"] (rMmd k false) := by
  intro pins s σ H xs zs us ws Q I r1 r2 ⟨ρ, σ', F, v, z, ds, d, QQ, e1, e2, rel, b, rz, q0, q1, fin⟩
  subst e1; subst e2
  have hh := I.ok.hd hX.calm
  have un := hX.room.un
  obtain ⟨u, rfl, ru⟩ := vals1 r1
  obtain ⟨w, rfl, rw'⟩ := vals1 r2
  show wpAny _ _ (call (.builtin "min") [u] [(Str.ofString "default", w)]) _ _ _
  have so : sortable ds := by
    by_cases e : ds = []
    · subst e; exact ⟨fun x h => by simp at h, fun x h => by simp at h⟩
    · exact (minP_data (q1 e)).1
  have hs := fun d hd => (so.1 d hd).1
  obtain ⟨a, its, vs, as, rfl, hl, rv, rs, ra⟩ := seq_data (isT := false) hX.K I rel.sub b ru hs
  have dp := (pys_lay hs).2
  refine PySem.W.min_list_default (xs := D.pys ds) hh hl ra (sortable_alike so) (by omega) (fun e h' tk hk => ?_) fun y ys i v h' tk bs e hi rd hk => ?_
  · have e : ds = [] := by cases ds with | nil => rfl | cons a b => cases e
    exact ⟨_, H, I.kept hk, rw', fin _ _ _ _ (.flat rel .refl rz) (q0 e)⟩
  · match ds, e with
    | g :: gs, e =>
      obtain ⟨rfl, rfl⟩ : g.py = y ∧ D.pys gs = ys := by
        have e : g.py :: D.pys gs = y :: ys := e
        injection e with e1 e2
        exact ⟨e1, e2⟩
      obtain ⟨x, z, m1, m2, m3, m4⟩ := pick_item hs rv rs ra hk hi rd minD_mem
      exact ⟨_, H, I.kept hk, m3, fin _ _ _ _ (.flat rel .refl m4) ((minP_data (q1 (by simp))).2.2 x m1 m2)⟩
theorem ck_maxD (hX : XOk X k) : CallRK X (.builtin "max") ["default"] (rMmd k true) := by
  intro pins s σ H xs zs us ws Q I r1 r2 ⟨ρ, σ', F, v, z, ds, d, QQ, e1, e2, rel, b, rz, q0, q1, fin⟩
  subst e1; subst e2
  have hh := I.ok.hd hX.calm
  have un := hX.room.un
  obtain ⟨u, rfl, ru⟩ := vals1 r1
  obtain ⟨w, rfl, rw'⟩ := vals1 r2
  show wpAny _ _ (call (.builtin "max") [u] [(Str.ofString "default", w)]) _ _ _
  have so : sortable ds := by
    by_cases e : ds = []
    · subst e; exact ⟨fun x h => by simp at h, fun x h => by simp at h⟩
    · exact (maxP_data (q1 e)).1
  have hs := fun d hd => (so.1 d hd).1
  obtain ⟨a, its, vs, as, rfl, hl, rv, rs, ra⟩ := seq_data (isT := false) hX.K I rel.sub b ru hs
  have dp := (pys_lay hs).2
  refine PySem.W.max_list_default (xs := D.pys ds) hh hl ra (sortable_alike so) (by omega) (fun e h' tk hk => ?_) fun y ys i v h' tk bs e hi rd hk => ?_
  · have e : ds = [] := by cases ds with | nil => rfl | cons a b => cases e
    exact ⟨_, H, I.kept hk, rw', fin _ _ _ _ (.flat rel .refl rz) (q0 e)⟩
  · match ds, e with
    | g :: gs, e =>
      obtain ⟨rfl, rfl⟩ : g.py = y ∧ D.pys gs = ys := by
        have e : g.py :: D.pys gs = y :: ys := e
        injection e with e1 e2
        exact ⟨e1, e2⟩
      obtain ⟨x, z, m1, m2, m3, m4⟩ := pick_item hs rv rs ra hk hi rd maxD_mem
      exact ⟨_, H, I.kept hk, m3, fin _ _ _ _ (.flat rel .refl m4) ((maxP_data (q1 (by simp))).2.2 x m1 m2)⟩
theorem qe_mmd (hX : XOk X k) {mx : Bool} {id : String} {x : Str} {e1 e2 : Expr} {i1 i2 : IE} {p kp pos : Pos} (hid : CallRK X (.builtin id) ["default"] (rMmd k mx)) (hg : Gl X x) (hm : X.mg x = none) (hv : bootBuiltins x = some (.builtin id)) (hn : x ≠ "__name__") (hdb : (x == ("__debug__" : Str)) = false)
    (h1 : PE X e1 (tE C k i1)) (h2 : PE X e2 (tE C k i2)) (hs : ∀ {env}, starEach [e1] env = [(false, eval e1 env)]) : PE X (.Call (.Name x p) [e1] [⟨some "default", e2, kp⟩] pos) (tE C k (.mmd mx i1 i2)) :=
  weak (pe_callBK hid hg hm hv (pa_cons h1 pa_nil hs) (pk_cons h2 pk_nil) hn hdb (by rw [hs]; rfl) (by rw [hs]; rfl) rfl rfl rfl) fun σ H Q ⟨ρ, F, QQ, rel, wp, fin⟩ => ⟨ρ, F, _, rel, wp, fun r1 ρ1 v1 F1 H1 p1 q1 => ⟨ρ1, F1, _, p1.rel, q1, fun r2 ρ2 v2 F2 H2 p2 q2 => by
    obtain ⟨d, F2', ⟨xs, ex, w0, w1⟩, _, rd, rel2, tr2⟩ := p2.keep p1.rel q2
    have l1 := p1.lent.tr tr2 rel2
    rw [ex] at l1
    refine ⟨ρ2, σ, F2', v1, v2, xs, d, _, rfl, rfl, rel2, l1, rd, w0, w1, fun r v F' H' p q => fin _ _ _ _ _ (p1.then ((⟨rel2, tr2, .non⟩ : EPost k ρ1 σ F1 H1 (.val .non) .non ρ2 F2' H2).then p)) q⟩⟩⟩
theorem rs_rng {F : Hp} (lo hi : Int) : Rs k F (rgV lo hi) (rngL lo hi) := by
  unfold rgV rngL
  induction List.range (hi - lo).toNat with
  | nil => exact .nil
  | cons n l ih => exact .cons (.int _) ih
theorem rng_at {pins : List (Addr × Obj)} {s : Shared} {σ : L2.St} {H : Hp} {a : Addr} {lo hi : Int} (I : Inv X pins σ H s) (h : H a = some (.rng lo hi)) : ∃ t u v, IsRange s.heap a lo hi 1 t u v := by
  obtain ⟨t, u, v, e⟩ : ObjOk X.prog X.w H s.heap a (.rng lo hi) := I.hok a _ h
  exact ⟨t, u, v, e⟩
theorem cb_tuple (hX : XOk X k) : CallR X (.type "tuple") (rBlt k (bltP .tuple)) := by
  intro pins s σ H xs us Q I r ⟨ρ, σ', F, ds, QQ, rel, br, wp, fin⟩
  have hK := hX.K
  match ds, br, wp with
  | [.lst xs], br, wp =>
    obtain ⟨x, rfl, b⟩ := brs1 br
    obtain ⟨a, vs, rfl, t, q⟩ := b.lst rel.sub
    exact tuple_ofF pins s σ H _ us Q I r ⟨a, vs, rfl, .inl ⟨.of t, newT rel q fun v F' H' p => fin _ _ _ _ p wp⟩⟩
  | [.tup xs], br, wp =>
    obtain ⟨x, rfl, b⟩ := brs1 br
    obtain ⟨a, vs, rfl, t, q⟩ := b.tup
    have sq := (t.mono rel.sub).sq
    rw [hK] at sq
    exact tuple_ofF pins s σ H _ us Q I r ⟨a, vs, rfl, .inr ⟨sq, fin _ _ _ _ (.flat rel .refl (.tup t q)) wp⟩⟩
  | [.rng lo hi], br, wp =>
    obtain ⟨x, rfl, b⟩ := brs1 br
    obtain ⟨a, rfl, t, ⟨l1, l2⟩, h1, h2⟩ := b.rng
    obtain ⟨u, rfl, ru⟩ := vals1 r
    cases ru
    obtain ⟨hn, q⟩ := wp
    obtain ⟨t1, t2, t3, hr⟩ := rng_at I (rel.sub _ _ t)
    refine call_tuple_range (n := (hi - lo).toNat) (I.ok.hd hX.calm) hr (small_one l1 l2 h1 h2) (rangeSize_nat lo hi) hn fun h' tk acc hk hi' => ?_
    have I2 : Inv X pins σ H { s with heap := h', toks := tk } := I.kept hk
    have hz : (rgV lo hi).length ≤ sizeLine := by rw [rgV_length, sizeLine_eq]; omega
    have I3 := laidT (t' := tk) I2 (vals_rg hi') hz
    have e : (acc.toList.toArray : Array Value) = acc := by simp
    unfold tupObj at I3
    rw [e] at I3
    exact ⟨.ref h'.objs.size, _, I3, rfl, newT rel (rs_rng lo hi) (fun v F' H' p => fin _ _ _ _ p q) _ _ (I2.hok.fresh (Nat.le_refl _)) rfl⟩
theorem rk_keys {F : Hp} : ∀ {es : List DictEntry} {kvs : List (D × D)}, RKs k F es kvs → ∃ vs, Rs k F vs (kvs.map (·.1)) ∧ Vals vs (es.map (·.key))
  | _, _, .nil => ⟨[], .nil, .nil⟩
  | _, _, .cons r1 r2 _ _ _ _ _ r => by
    obtain ⟨vs, h1, h2⟩ := rk_keys r
    exact ⟨_ :: vs, .cons r2 h1, .cons r1 h2⟩
theorem cb_list (hX : XOk X k) : CallR X (.type "list") (rBlt k (bltP .list)) := by
  intro pins s σ H xs us Q I r ⟨ρ, σ', F, ds, QQ, rel, br, wp, fin⟩
  have hK := hX.K
  match ds, br, wp with
  | [.lst xs], br, wp =>
    obtain ⟨x, rfl, b⟩ := brs1 br
    obtain ⟨a, vs, rfl, t, q⟩ := b.lst rel.sub
    exact call_list_of pins s σ H _ us Q I r ⟨a, vs, rfl, .inl (.of t), fun l hn => fin _ _ _ _ (.newL rel .refl hn q) wp⟩
  | [.tup xs], br, wp =>
    obtain ⟨x, rfl, b⟩ := brs1 br
    obtain ⟨a, vs, rfl, t, q⟩ := b.tup
    have sq := (t.mono rel.sub).sq
    rw [hK] at sq
    exact call_list_of pins s σ H _ us Q I r ⟨a, vs, rfl, .inr sq, fun l hn => fin _ _ _ _ (.newL rel .refl hn q) wp⟩
  | [.rng lo hi], br, wp =>
    obtain ⟨x, rfl, b⟩ := brs1 br
    obtain ⟨a, rfl, t, ⟨l1, l2⟩, h1, h2⟩ := b.rng
    obtain ⟨u, rfl, ru⟩ := vals1 r
    cases ru
    obtain ⟨hn, q⟩ := wp
    obtain ⟨t1, t2, t3, hr⟩ := rng_at I (rel.sub _ _ t)
    refine call_list_range (n := (hi - lo).toNat) (I.ok.hd hX.calm) hr (small_one l1 l2 h1 h2) (rangeSize_nat lo hi) hn fun h' tk acc c' hk e' hi' => ?_
    refine ⟨.ref s.heap.objs.size, upd H s.heap.objs.size (.lst (rgV lo hi)), I.laid hk (Nat.le_refl _) (show ObjOk X.prog X.w _ _ _ (.lst (rgV lo hi)) from ⟨?_, acc.toList, c', vals_rg hi', ?_⟩), rfl, fin _ _ _ _ (.newL rel .refl (I.hok.fresh (Nat.le_refl _)) (rs_rng lo hi)) q⟩
    · rw [rgV_length, sizeLine_eq]; omega
    · rw [Array.toArray_toList]; exact e'
  | [.dct kvs], br, wp =>
    obtain ⟨x, rfl, b⟩ := brs1 br
    obtain ⟨a, es, rfl, g1, g2, g3, g4⟩ := b.dct rel.sub
    obtain ⟨u, rfl, ru⟩ := vals1 r
    cases ru
    obtain ⟨o, ep, h1, h2, h3, h4, h5⟩ := dct_at I g1
    refine PySem.W.kdl_call (kdl_raw h4 h2 h3) (I.ok.hd hX.calm) h1 (by simpa using h5) fun h' tk acc' c' kp e it => ?_
    obtain ⟨vs, q1, q2⟩ := rk_keys g2
    have ea : acc'.toList = es.map (·.key) := by
      have hl : acc'.toList.length = es.length := by rw [Array.length_toList, it.1]; simp
      apply List.ext_getElem?
      intro j
      rw [List.getElem?_map]
      cases hj : acc'.toList[j]? with
      | none =>
        have := List.getElem?_eq_none_iff.mp hj
        rw [List.getElem?_eq_none (by omega)]
        rfl
      | some v =>
        obtain ⟨en, hen, hv⟩ := it.2 j v (by rw [← Array.getElem?_toList]; exact hj)
        have hen : es[j]? = some en := by simpa using hen
        rw [hen, hv]; rfl
    refine ⟨.ref s.heap.objs.size, upd H s.heap.objs.size (.lst vs), I.laid (t' := tk) kp (Nat.le_refl _) (show ObjOk X.prog X.w _ _ _ (.lst vs) from ⟨?_, acc'.toList, c', by rw [ea]; exact q2, ?_⟩), rfl, fin _ _ _ _ (.newL rel .refl (I.hok.fresh (Nat.le_refl _)) q1) wp⟩
    · rw [q1.length, List.length_map, ← g2.length]; exact h5
    · rw [Array.toArray_toList]; exact e
def tyName : Ty → String
  | .bool => "bool"
  | .int => "int"
  | .str => "str"
  | .tuple => "tuple"
  | .list => "list"
  | .dict => "dict"
def tyOfD : D → String
  | .bl _ => "bool"
  | .int _ => "int"
  | .str _ => "str"
  | .tup _ => "tuple"
  | .lst _ => "list"
  | _ => "NoneType"
theorem tyx_of {ρ : PEnv} {σ : L2.St} {F H : Hp} {x : V} {d : D} (hK : k.K = X.K) (rel : Rel k ρ σ F H) (b : BR k F H x d) (h : hasTy d = true) : TyX X.K H x (.type (tyOfD d)) := by
  cases d <;> first | (simp [hasTy] at h; done) | skip
  · cases b.non; exact .base .non
  · cases b.bl; exact .base (.bl _)
  · cases b.int; exact .base (.int _)
  · cases b.str; exact .base (.str _)
  · obtain ⟨a, vs, rfl, t, q⟩ := b.tup
    rcases t.mono rel.sub with ⟨o, ho, _⟩ | ⟨o, its, n, h1, h2, _⟩
    · exact .fTuple ho
    · rw [hK] at h1; exact .kTuple h1 h2
  · obtain ⟨a, vs, rfl, t, q⟩ := b.lst rel.sub
    exact .base (.lst t)
theorem kit_all (K : PySem.W.Frag) (d : D) (h : hasTy d = true) (t : Ty) : PySem.W.kitOne K (.type (tyOfD d)) (.type (tyName t)) = some (isTy t d) := by
  cases d <;> first | (simp [hasTy] at h; done) | skip
  all_goals cases t <;> (simp only [tyOfD, tyName, isTy]; exact kit_ty (by decide +kernel))
theorem cb_isi (hX : XOk X k) (t : Ty) : CallR X (.builtin "isinstance") (fun xs H Q => ∃ ρ σ F d x, Rel k ρ σ F H ∧ BR k F H x d ∧ xs = [x, .ty (tyName t)] ∧ hasTy d = true ∧ Q (.bl (isTy t d)) H) := by
  intro pins s σ H xs us Q I r ⟨ρ, σ', F, d, x, rel, br, e, ht, q⟩
  exact call_isi pins s σ H xs us Q I r ⟨x, .ty (tyName t), _, _, _, e, .ty _, tyx_of hX.K rel br ht, kit_all X.K d ht t, q⟩
end
end PL
namespace PL
open PySem PySem.Spec PyProof.Rows L2
structure CPost (k : RC) (F0 H0 : Hp) (r : RV) (dr : Nat) (v : V) (F H : Hp) : Prop where
  ins : Same F H
  sub : Same F0 F
  heap : SameX k H0 H
  there : ∀ a, H0 a ≠ none → H a ≠ none
  vis : ∀ a, H0 a ≠ none → F a = F0 a
  pool : PoolOk k F H dr
  res : RR k H0 F H v r
def lift (K : PySem.W.Frag) (w : World) (sp : Spec) : Sp := fun vs H Q _ => ∃ (P : Option (Addr × Addr × Addr)) (F : Hp) (ds : List D) (dr : Nat) (QQ : RV → Nat → Prop),
  Same F H ∧ PoolOk ⟨K, w, P⟩ F H dr ∧ Rs ⟨K, w, P⟩ F vs ds ∧ sp ds dr QQ (fun _ _ => False) ∧ ∀ r dr' v F' H', CPost ⟨K, w, P⟩ F H r dr' v F' H' → QQ r dr' → Q v H'
section
variable {X : Cx} {k : RC} {C : PC}
theorem qe_call (hX : XOk X k) {f i j : Nat} {x : Str} {e : Expr} {es : List Expr} {ies : IE} {p pos : Pos} (c : C8.Cal X.prog X.w X.K X.mg X.base i x (lift X.K X.w (C.sp f)) []) (hr : Room j X.A) (hij : i ≤ j) (hg : Gl X x) (hxe : C.xe = fun _ _ => False)
    (ha : PA X (e :: es) (tA C k false ies)) (hdb : (x == ("__debug__" : Str)) = false) (he : starEach (e :: es) X.env = (false, eval e X.env) :: starEach es X.env) (hpl : (backTo pos (starEach es X.env)).any (·.1) = false) :
    PE X (.Call (.Name x p) (e :: es) [] pos) (tE C k (.call f ies)) :=
  weak (C8.pe_c c hr hij hg ha hdb he hpl) fun σ H Q ⟨ρ, F, QQ, rel, wp, fin⟩ => ⟨ρ, F, _, rel, wp, fun ds ρ1 vs F1 H1 rel1 tr1 a1 q1 => by
    have hk : (⟨X.K, X.w, k.P⟩ : RC) = k := by rw [← hX.K, ← hX.w]
    have a1 : Rs k F1 vs ds := a1
    rw [hxe] at q1
    refine ⟨k.P, F1, ds, ρ1.dr, _, rel1.sub, ?_, ?_, q1, fun r dr' v F' H' cp q => ?_⟩
    · rw [hk]; exact rel1.pool
    · rw [hk, List.append_nil]; exact a1
    · rw [hk] at cp
      have rel2 : Rel k ⟨ρ1.sl, dr'⟩ σ F' H' := rel1.grow cp.sub cp.ins cp.heap cp.vis cp.pool
      have p2 : EPost k ρ1 σ F1 H1 r v ⟨ρ1.sl, dr'⟩ F' H' := ⟨rel2, .grow cp.sub cp.heap cp.there cp.vis, cp.res⟩
      exact fin _ _ _ _ _ ((⟨rel1, tr1, .non⟩ : EPost k ρ σ F H (.val .non) .non ρ1 F1 H1).then p2) q⟩
theorem pe_c0 {j kk : Nat} {x : Str} {sp : Sp} {dvs : List V} {p pos : Pos} (c : C8.Cal X.prog X.w X.K X.mg X.base kk x sp dvs) (hr : Room j X.A) (hk : kk ≤ j) (hg : Gl X x) (hdb : (x == ("__debug__" : Str)) = false) :
    PE X (.Call (.Name x p) [] [] pos) (tCall sp dvs C8.E0 tNil) := by
  obtain ⟨f, fd, ps, ds, F, hm, kp, b, d⟩ := c.ex
  exact pe_call0 F (hr.mono hk) hg hm kp b d C8.pass0 hdb
theorem qe_call0 (hX : XOk X k) {f i j : Nat} {x : Str} {p pos : Pos} (c : C8.Cal X.prog X.w X.K X.mg X.base i x (lift X.K X.w (C.sp f)) []) (hr : Room j X.A) (hij : i ≤ j) (hg : Gl X x) (hxe : C.xe = fun _ _ => False)
    (hdb : (x == ("__debug__" : Str)) = false) : PE X (.Call (.Name x p) [] [] pos) (tE C k (.call f .anil)) :=
  weak (pe_c0 c hr hij hg hdb) fun σ H Q ⟨ρ, F, QQ, rel, wp, fin⟩ => by
    have hk : (⟨X.K, X.w, k.P⟩ : RC) = k := by rw [← hX.K, ← hX.w]
    have q1 : C.sp f [] ρ.dr (fun r dr' => QQ r ⟨ρ.sl, dr'⟩) C.xe := wp
    rw [hxe] at q1
    refine ⟨k.P, F, [], ρ.dr, _, rel.sub, ?_, .nil, q1, fun r dr' v F' H' cp q => ?_⟩
    · rw [hk]; exact rel.pool
    · rw [hk] at cp
      have rel2 : Rel k ⟨ρ.sl, dr'⟩ σ F' H' := rel.grow cp.sub cp.ins cp.heap cp.vis cp.pool
      exact fin _ _ _ _ _ (⟨rel2, .grow cp.sub cp.heap cp.there cp.vis, cp.res⟩ : EPost k ρ σ F H r v ⟨ρ.sl, dr'⟩ F' H') q
end
section
variable {k : RC} {ρ ρ' ρ1 ρ2 : PEnv} {σ σ' : L2.St} {F F1 F' F0 H H1 H' H0 G : Hp} {v : V} {d : D} {r : RV} {a : Addr} {i : Nat} {s : SV}
theorem put_oob (hi : ¬ i < ρ.sl.length) : ρ.put i s = ρ := by
  cases ρ
  unfold PEnv.put
  rw [List.set_eq_of_length_le (by simpa using hi)]
theorem Rel.store (h : Rel k ρ σ F H) (hs : SlotR k F H (some (some v)) s) (hn : s.plain = false → ∀ a, v = .ref a → ∀ j, ¬ OwnAt ρ σ j a) :
    Rel k (ρ.put i s) (σ.set i (some v)) F H ∧ ∀ j a, OwnAt (ρ.put i s) (σ.set i (some v)) j a → OwnAt ρ σ j a ∨ (s.plain = false ∧ v = .ref a ∧ j = i) := by
  by_cases hi : i < ρ.sl.length
  · have hi' : i < σ.length := by rw [← h.len]; exact hi
    have gs : (σ.set i (some v))[i]? = some (some v) := List.getElem?_set_self hi'
    have gn : ∀ j, j ≠ i → (σ.set i (some v))[j]? = σ[j]? := fun j e => List.getElem?_set_ne (Ne.symm e)
    have ow : ∀ j a, OwnAt (ρ.put i s) (σ.set i (some v)) j a → OwnAt ρ σ j a ∨ (s.plain = false ∧ v = .ref a ∧ j = i) := fun j a ⟨z1, z2⟩ => by
      rw [get_put hi] at z1
      by_cases e : j = i
      · subst e
        rw [if_pos rfl] at z1
        rw [gs] at z2
        cases z2
        exact .inr ⟨z1, rfl, rfl⟩
      · rw [if_neg e] at z1
        rw [gn j e] at z2
        exact .inl ⟨z1, z2⟩
    refine ⟨⟨by rw [put_len, List.length_set]; exact h.len, h.sub, fun j => ?_, fun j l a x y => ?_, h.pool⟩, ow⟩
    · rw [get_put hi]
      by_cases e : j = i
      · subst e; rw [if_pos rfl, gs]; exact hs
      · rw [if_neg e, gn j e]; exact h.slot j
    · rcases ow j a x with x | ⟨x1, x2, x3⟩
      · rcases ow l a y with y | ⟨y1, y2, y3⟩
        · exact h.inj j l a x y
        · exact absurd x (hn y1 a y2 j)
      · rcases ow l a y with y | ⟨y1, y2, y3⟩
        · exact absurd y (hn x1 a x2 l)
        · rw [x3, y3]
  · have hi' : ¬ i < σ.length := by rw [← h.len]; exact hi
    rw [put_oob hi, List.set_eq_of_length_le (by omega)]
    exact ⟨h, fun _ _ z => .inl z⟩
theorem Rel.put (h : Rel k ρ σ F H) (q : R k F v d) : Rel k (ρ.put i (.val d)) (σ.set i (some v)) F H ∧ ∀ j a, OwnAt (ρ.put i (.val d)) (σ.set i (some v)) j a → OwnAt ρ σ j a := by
  obtain ⟨h1, h2⟩ := h.store (i := i) (s := .val d) (v := v) ⟨v, rfl, q⟩ (fun z => by cases z)
  exact ⟨h1, fun j a z => (h2 j a z).elim id fun z => by cases z.1⟩
theorem Rel.write {o : HO} (h : Rel k ρ σ F H) (q : OwnAt ρ σ i a) (fa : F a = none) (np : ¬ inP' k a) (hs : SlotR k F (upd H a o) (some (some (.ref a))) s) :
    Rel k (ρ.put i s) σ F (upd H a o) ∧ (∀ j b, OwnAt (ρ.put i s) σ j b → OwnAt ρ σ j b) := by
  have hi : i < ρ.sl.length := get_lt fun z => by have := q.1; rw [z] at this; cases this
  have ow : ∀ j b, OwnAt (ρ.put i s) σ j b → OwnAt ρ σ j b := fun j b ⟨z1, z2⟩ => by
    by_cases e : j = i
    · subst e
      have := q.2.symm.trans z2
      cases this
      exact q
    · rw [get_put hi, if_neg e] at z1
      exact ⟨z1, z2⟩
  refine ⟨⟨by rw [put_len]; exact h.len, fun b u e => ?_, fun j => ?_, fun j l b x y => h.inj j l b (ow j b x) (ow l b y), fun p r c e => ?_⟩, ow⟩
  · rw [upd_ne (ne_of_none e fa)]; exact h.sub b u e
  · rw [get_put hi]
    by_cases e : j = i
    · subst e
      rw [if_pos rfl, q.2]
      exact hs
    · rw [if_neg e]
      have z := h.slot j
      cases eg : ρ.get j with
      | no => trivial
      | val d => rw [eg] at z; exact z
      | own xs =>
        rw [eg] at z; obtain ⟨b, e1, vs, e2, e3⟩ := z
        have ne : b ≠ a := fun y => e (h.inj j i a ⟨by rw [eg]; rfl, y ▸ e1⟩ q)
        exact ⟨b, e1, vs, (upd_ne ne).trans e2, e3⟩
      | owd xs =>
        rw [eg] at z; obtain ⟨b, e1, es, ⟨ob, ep, e2, er⟩, e3⟩ := z
        have ne : b ≠ a := fun y => e (h.inj j i a ⟨by rw [eg]; rfl, y ▸ e1⟩ q)
        exact ⟨b, e1, es, ⟨ob, ep, (upd_ne ne).trans e2, er⟩, e3⟩
  · obtain ⟨f, n, h1, ⟨rows, hr, h2⟩, m, hm, hm', h3⟩ := h.pool p r c e
    have w : ∀ b, (b = p ∨ b = r ∨ b = c) → b ≠ a := fun b z y => np ⟨p, r, c, e, y ▸ z⟩
    exact ⟨f, n, (upd_ne (w p (.inl rfl))).trans h1, ⟨rows, hr, (upd_ne (w r (.inr (.inl rfl)))).trans h2⟩, m, hm, hm', (upd_ne (w c (.inr (.inr rfl)))).trans h3⟩
structure STr (k : RC) (F0 H0 G : Hp) (ρ : PEnv) (σ : L2.St) (F H : Hp) : Prop where
  sub : Same F0 F
  heap : SameX k H0 H
  there : ∀ a, H0 a ≠ none → H a ≠ none
  vis : ∀ a, H0 a ≠ none → F a = F0 a
  own : ∀ i a, OwnAt ρ σ i a → H0 a = none
  mid : Same G F
theorem STr.next (t : STr k F0 H0 G ρ σ F H) (e : ETr k ρ σ F H ρ' F' H') : STr k F0 H0 G ρ' σ F' H' where
  sub := fun b o h => e.sub b o (t.sub b o h)
  heap := t.heap.trans e.heap
  there := fun a h => e.there a (t.there a h)
  vis := fun a h => (e.vis a (t.there a h) fun i z => h (t.own i a z)).trans (t.vis a h)
  own := fun i a z => t.own i a (e.own i a z)
  mid := fun b o h => e.sub b o (t.mid b o h)
theorem STr.slots (t : STr k F0 H0 G ρ σ F H) (h : ∀ j a, OwnAt ρ' σ' j a → H0 a = none) : STr k F0 H0 G ρ' σ' F H := ⟨t.sub, t.heap, t.there, t.vis, h, t.mid⟩
theorem STr.write {o : HO} (t : STr k F0 H0 G ρ σ F H) (q : H0 a = none) (h : ∀ j b, OwnAt ρ' σ j b → OwnAt ρ σ j b) : STr k F0 H0 G ρ' σ F (upd H a o) := by
  refine ⟨t.sub, fun b u e n => ?_, fun b hb => ?_, t.vis, fun j b z => t.own j b (h j b z), t.mid⟩
  · rw [upd_ne (ne_of_none e q)]; exact t.heap b u e n
  · rw [upd_ne (fun z => hb (by rw [z]; exact q))]; exact t.there b hb
theorem STr.post {r : RV} {dr : Nat} (t : STr k F0 H0 G ρ σ F H) (ins : Same F H) (pool : PoolOk k F H dr) (res : RR k H0 F H v r) : CPost k F0 H0 r dr v F H := ⟨ins, t.sub, t.heap, t.there, t.vis, pool, res⟩
theorem EPost.slot {Q : SV → Prop} (h0 : Rel k ρ σ F H) (p : EPost k ρ σ F H r v ρ1 F1 H1) (h : r.slot Q) : ∃ s, Q s ∧ SlotR k F1 H1 (some (some v)) s ∧ (s.plain = false → ∀ a, v = .ref a → H a = none) := by
  have q := p.res
  cases r with
  | val d => exact ⟨_, h, ⟨v, rfl, q⟩, fun z => by cases z⟩
  | brw d => exact h.elim
  | own xs => obtain ⟨a, rfl, hn, o⟩ := q; exact ⟨_, h, ⟨a, rfl, o⟩, fun _ b e => by cases e; exact hn⟩
  | owd xs => obtain ⟨a, rfl, hn, o⟩ := q; exact ⟨_, h, ⟨a, rfl, o⟩, fun _ b e => by cases e; exact hn⟩
theorem EPost.store {i : Nat} {s : SV} (h0 : Rel k ρ σ F H) (t : STr k F0 H0 G ρ σ F H) (p : EPost k ρ σ F H r v ρ1 F1 H1) (hs : SlotR k F1 H1 (some (some v)) s) (hn : s.plain = false → ∀ a, v = .ref a → H a = none) :
    Rel k (ρ1.put i s) (σ.set i (some v)) F1 H1 ∧ STr k F0 H0 G (ρ1.put i s) (σ.set i (some v)) F1 H1 := by
  obtain ⟨x1, x2⟩ := p.rel.store (i := i) hs fun z a e j w => h0.ownH (p.tr.own j a w) (hn z a e)
  refine ⟨x1, (t.next p.tr).slots fun j a z => ?_⟩
  rcases x2 j a z with z | ⟨z1, z2, _⟩
  · exact (t.next p.tr).own j a z
  · exact none_back t.there (hn z1 a z2)
end
structure SEnds (k : RC) (F0 H0 G : Hp) (E : PEnds) (D : Ends) : Prop where
  nx : ∀ ρ σ F H, Rel k ρ σ F H → STr k F0 H0 G ρ σ F H → E.nx ρ → D.nx σ H
  bk : ∀ ρ σ F H, Rel k ρ σ F H → STr k F0 H0 G ρ σ F H → E.bk ρ → D.bk σ H
  ct : ∀ ρ σ F H, Rel k ρ σ F H → STr k F0 H0 G ρ σ F H → E.ct ρ → D.ct σ H
  rt : ∀ r dr v F H, CPost k F0 H0 r dr v F H → E.rt r dr → D.rt v H
def tS (C : PC) (k : RC) (b : IS) : TS := fun D σ H => ∃ ρ F F0 H0 G E, Rel k ρ σ F H ∧ STr k F0 H0 G ρ σ F H ∧ wpS C b ρ E ∧ SEnds k F0 H0 G E D
theorem weakS {X : Cx} {e : Stmt} {t t' : TS} (h : PS X e t) (w : ∀ D σ H, t' D σ H → t D σ H) : PS X e t' := ⟨fun pins s σ H D I q => h.run pins s σ H D I (w D σ H q)⟩
theorem weakSs {X : Cx} {e : List Stmt} {t t' : TS} (h : PSs X e t) (w : ∀ D σ H, t' D σ H → t D σ H) : PSs X e t' := ⟨fun pins s σ H D I q => h.run pins s σ H D I (w D σ H q)⟩
section
variable {X : Cx} {k : RC} {C : PC} {pos : Pos}
theorem qss_nil : PSs X [] (tS C k .skip) := weakSs pss_nil fun D σ H ⟨ρ, F, F0, H0, G, E, rel, tr, wp, en⟩ => en.nx _ _ _ _ rel tr wp
theorem qss_cons {st : Stmt} {rest : List Stmt} {a b : IS} (h1 : PS X st (tS C k a)) (h2 : PSs X rest (tS C k b)) : PSs X (st :: rest) (tS C k (.seq a b)) :=
  weakSs (pss_cons h1 h2) fun D σ H ⟨ρ, F, F0, H0, G, E, rel, tr, wp, en⟩ => ⟨ρ, F, F0, H0, G, _, rel, tr, wp, ⟨fun ρ' σ' F' H' rel' tr' wp' => ⟨ρ', F', F0, H0, G, E, rel', tr', wp', en⟩, en.bk, en.ct, en.rt⟩⟩
theorem qs_pass : PS X (.Pass pos) (tS C k .skip) := weakS ps_pass fun D σ H ⟨ρ, F, F0, H0, G, E, rel, tr, wp, en⟩ => en.nx _ _ _ _ rel tr wp
theorem qs_brk : PS X (.Break pos) (tS C k .brk) := weakS ps_break fun D σ H ⟨ρ, F, F0, H0, G, E, rel, tr, wp, en⟩ => en.bk _ _ _ _ rel tr wp
theorem qs_cnt : PS X (.Continue pos) (tS C k .cnt) := weakS ps_continue fun D σ H ⟨ρ, F, F0, H0, G, E, rel, tr, wp, en⟩ => en.ct _ _ _ _ rel tr wp
theorem qs_doc {x j pos pos'} : PS X (.Expr (.Constant (.str x) j pos) pos') (tS C k .skip) := weakS ps_doc fun D σ H ⟨ρ, F, F0, H0, G, E, rel, tr, wp, en⟩ => en.nx _ _ _ _ rel tr wp
theorem qs_ex {e : Expr} {ie : IE} (he : PE X e (tE C k ie)) (hs : swapsWith e none pos.line X.env = pure false) : PS X (.Expr e pos) (tS C k (.ex ie)) :=
  weakS (ps_expr he hs) fun D σ H ⟨ρ, F, F0, H0, G, E, rel, tr, wp, en⟩ => ⟨ρ, F, _, rel, wp, fun r ρ' v F' H' p q => en.nx _ _ _ _ p.rel (tr.next p.tr) q⟩
theorem qs_ret {e : Expr} {ie : IE} (he : PE X e (tE C k ie)) : PS X (.Return (some e) pos) (tS C k (.ret ie)) :=
  weakS (ps_ret he) fun D σ H ⟨ρ, F, F0, H0, G, E, rel, tr, wp, en⟩ => ⟨ρ, F, _, rel, wp, fun r ρ' v F' H' p q => by
    refine en.rt r _ v F' H' ((tr.next p.tr).post p.rel.sub p.rel.pool ?_) q
    have z := p.res
    cases r with
    | val d => exact z
    | brw d => exact z
    | own xs => obtain ⟨a, e, n, o⟩ := z; exact ⟨a, e, none_back tr.there n, o⟩
    | owd xs => obtain ⟨a, e, n, o⟩ := z; exact ⟨a, e, none_back tr.there n, o⟩⟩
theorem qs_ret0 : PS X (.Return none pos) (tS C k .ret0) :=
  weakS ps_retN fun D σ H ⟨ρ, F, F0, H0, G, E, rel, tr, wp, en⟩ => en.rt (.val .non) _ _ _ _ (tr.post rel.sub rel.pool (show R k F .non .non from .non)) wp
theorem qs_reto {e : Expr} {i : Nat} (he : PE X e (tVar i)) : PS X (.Return (some e) pos) (tS C k (.reto i)) :=
  weakS (ps_ret he) fun D σ H ⟨ρ, F, F0, H0, G, E, rel, tr, wp, en⟩ => by
    have wp : (match ρ.get i with | .own xs => E.rt (.own xs) ρ.dr | .owd kvs => E.rt (.owd kvs) ρ.dr | _ => False) := wp
    cases e : ρ.get i with
    | no => rw [e] at wp; exact wp.elim
    | val d => rw [e] at wp; exact wp.elim
    | own xs =>
      rw [e] at wp
      obtain ⟨a, h1, h2⟩ := slot_own rel e
      exact ⟨_, h1, en.rt _ _ _ _ _ (tr.post rel.sub rel.pool (show RR k H0 F H _ (.own xs) from ⟨a, rfl, tr.own i a ⟨by rw [e]; rfl, h1⟩, h2⟩)) wp⟩
    | owd xs =>
      rw [e] at wp
      obtain ⟨a, h1, h2⟩ := slot_owd rel e
      exact ⟨_, h1, en.rt _ _ _ _ _ (tr.post rel.sub rel.pool (show RR k H0 F H _ (.owd xs) from ⟨a, rfl, tr.own i a ⟨by rw [e]; rfl, h1⟩, h2⟩)) wp⟩
theorem qs_if {c : Expr} {a b : List Stmt} {ic : IE} {ia ib : IS} (hc : PT X c (tT C k ic)) (ha : PSs X a (tS C k ia)) (hb : PSs X b (tS C k ib)) : PS X (.If c a b pos) (tS C k (.ifs ic ia ib)) :=
  weakS (ps_if hc ha hb) fun D σ H ⟨ρ, F, F0, H0, G, E, rel, tr, wp, en⟩ => ⟨ρ, F, _, rel, wp, fun c ρ' F' H' rel' tr' q => by
    obtain ⟨c', ec, q⟩ := q
    cases ec
    cases c with
    | true => rw [brn_ite, if_pos rfl] at q; rw [if_pos rfl]; exact ⟨ρ', F', F0, H0, G, E, rel', tr.next tr', q, en⟩
    | false => rw [brn_ite, if_neg Bool.false_ne_true] at q; rw [if_neg Bool.false_ne_true]; exact ⟨ρ', F', F0, H0, G, E, rel', tr.next tr', q, en⟩⟩
theorem qs_set {i : Nat} {x : Str} {e : Expr} {ie : IE} {pos' : Pos} (hN : X.N.Nodup) (hi : X.N[i]? = some x) (hx : Loc X.env.scope x) (he : PE X e (tE C k ie)) (hs : swapsWith e (some (.Name x pos')) pos.line X.env = pure false) (hf : X.fn x = true ∨ X.env.scope.names.lookup x = some .local) :
    PS X (.Assign [.Name x pos'] e pos) (tS C k (.asg (.nm i) ie)) :=
  weakS (ps_set hN hi hx he hs hf) fun D σ H ⟨ρ, F, F0, H0, G, E, rel, tr, wp, en⟩ => ⟨ρ, F, _, rel, wp, fun r ρ' v F' H' p q => by
    obtain ⟨s, q1, q2, q3⟩ := p.slot rel q
    obtain ⟨x1, x2⟩ := p.store (i := i) rel tr q2 q3
    exact en.nx _ _ _ _ x1 x2 q1⟩
end
end PL
namespace PL
open PySem PySem.Spec PyProof.Rows L2
section
variable {X : Cx} {k : RC} {C : PC} {pos : Pos}
theorem own_before {ρ ρ1 : PEnv} {σ : L2.St} {F F1 H H1 : Hp} {i : Nat} (rel : Rel k ρ σ F H) (h : (ρ.get i).isO = true) : ∃ a xs vs, ρ.get i = .own xs ∧ σ[i]? = some (some (.ref a)) ∧ H a = some (.lst vs) := by
  cases e : ρ.get i with
  | own xs =>
    obtain ⟨a, h1, vs, h2, _⟩ := slot_own rel e
    exact ⟨a, xs, vs, rfl, h1, h2⟩
  | _ => rw [e] at h; cases h
theorem own_after {ρ1 : PEnv} {σ : L2.St} {F1 H1 : Hp} {i : Nat} {a : Addr} {xs : List D} (rel1 : Rel k ρ1 σ F1 H1) (hi : σ[i]? = some (some (.ref a))) (e : ρ1.get i = .own xs) : OwnAt ρ1 σ i a ∧ OwnL k F1 H1 a xs := by
  obtain ⟨b, h1, h2⟩ := slot_own rel1 e
  have := hi.symm.trans h1
  cases this
  exact ⟨⟨by rw [e]; rfl, hi⟩, h2⟩
theorem owd_after {ρ1 : PEnv} {σ : L2.St} {F1 H1 : Hp} {i : Nat} {a : Addr} {xs : List (D × D)} (rel1 : Rel k ρ1 σ F1 H1) (hi : σ[i]? = some (some (.ref a))) (e : ρ1.get i = .owd xs) : OwnAt ρ1 σ i a ∧ OwnDk k F1 H1 a xs := by
  obtain ⟨b, h1, h2⟩ := slot_owd rel1 e
  have := hi.symm.trans h1
  cases this
  exact ⟨⟨by rw [e]; rfl, hi⟩, h2⟩
theorem write_own {ρ : PEnv} {σ : L2.St} {F H F0 H0 G : Hp} {i : Nat} {a : Addr} {xs ys : List D} {ws : List V} (rel : Rel k ρ σ F H) (tr : STr k F0 H0 G ρ σ F H) (q : OwnAt ρ σ i a) (o : OwnL k F H a xs) (r : Rs k F ws ys) :
    Rel k (ρ.put i (.own ys)) σ F (upd H a (.lst ws)) ∧ STr k F0 H0 G (ρ.put i (.own ys)) σ F (upd H a (.lst ws)) ∧ OwnAt (ρ.put i (.own ys)) σ i a := by
  obtain ⟨vs, h1, h2, h3, h4⟩ := o
  have hi : i < ρ.sl.length := get_lt fun z => by have := q.1; rw [z] at this; cases this
  obtain ⟨x1, x2⟩ := rel.write (s := .own ys) (o := .lst ws) q h2 h3 ⟨a, rfl, ws, upd_same, h2, h3, r⟩
  exact ⟨x1, tr.write (tr.own i a q) x2, by rw [get_put hi, if_pos rfl]; rfl, q.2⟩
theorem write_owd {ρ : PEnv} {σ : L2.St} {F H F0 H0 G : Hp} {i : Nat} {a : Addr} {xs ys : List (D × D)} {es : List DictEntry} {o' : Obj} (rel : Rel k ρ σ F H) (tr : STr k F0 H0 G ρ σ F H) (q : OwnAt ρ σ i a) (o : OwnDk k F H a xs) (da : DctAt (upd H a (exO a o')) a es)
    (r : RKs k F es ys) (n : (ys.map fun p => nk p.1).Nodup) (u : ∀ p ∈ ys, ∀ q ∈ ys, scal p.1 = scal q.1) :
    Rel k (ρ.put i (.owd ys)) σ F (upd H a (exO a o')) ∧ STr k F0 H0 G (ρ.put i (.owd ys)) σ F (upd H a (exO a o')) := by
  obtain ⟨vs, h1, h2, h3, h4⟩ := o
  obtain ⟨x1, x2⟩ := rel.write (s := .owd ys) (o := exO a o') q h2 h3 ⟨a, rfl, es, da, h2, h3, r, n, u⟩
  exact ⟨x1, tr.write (tr.own i a q) x2⟩
theorem qs_app {i : Nat} {eo e : Expr} {ie : IE} {apos cpos : Pos} (ho : PE X eo (tVar i)) (he : PE X e (tE C k ie)) (hsw : swapsWith (.Call (.Attribute eo "append" apos) [e] [] cpos) none pos.line X.env = pure false)
    (hbase : attributeBase eo "append" X.env (eval eo X.env) = eval eo X.env)
    (hfew : ((backTo cpos (starEach [e] X.env)).all (fun x => !x.1) && (backToKw cpos (keywordEach [] X.env)).all (fun x => x.1.isSome)
      && decide ([e].length + ([] : List Keyword).length + (if ([] : List Keyword).isEmpty then 0 else 1) < 30)) = true)
    (hline : (apos.endLine == cpos.line) = true) (hs : starEach [e] X.env = (false, eval e X.env) :: starEach [] X.env) :
    PS X (.Expr (.Call (.Attribute eo "append" apos) [e] [] cpos) pos) (tS C k (.app i ie)) :=
  weakS (ps_expr (pe_bm (id := "list.append") F.plainAttrs_list F.slot_list_append F.type_list_append mt_append ho (pa_cons he pa_nil hs) hbase hfew hline hs rfl) hsw) fun D σ H ⟨ρ, F, F0, H0, G, E, rel, tr, ⟨w0, wp⟩, en⟩ => by
    obtain ⟨a, xs0, vs0, e0, hi, hv0⟩ := own_before (ρ1 := ρ) (F1 := F) (H1 := H) rel w0
    refine ⟨_, hi, .inl ⟨rfl, vs0, .of hv0⟩, ρ, F, _, rel, wp, fun r ρ1 v F1 H1 p q => ?_⟩
    obtain ⟨d, F2, q, e2, rd, rel2, tr2⟩ := p.keep rel q
    obtain ⟨xs, q1, q2, q3⟩ := q
    obtain ⟨o1, o2⟩ := own_after rel2 hi q1
    obtain ⟨vs, v1, v2, v3, v4⟩ := id o2
    refine ⟨a, vs, v, rfl, rfl, v1, by rw [v4.length]; exact q2, ?_⟩
    obtain ⟨x1, x2, _⟩ := write_own rel2 (tr.next tr2) o1 o2 (v4.append (.cons rd .nil))
    exact en.nx _ _ _ _ x1 x2 q3
def rSet (X : Cx) (k : RC) : TSet := fun o i v H Q => rSetL o i v H Q ∨ ∃ a es F kvs kd vd, o = .ref a ∧ Same F H ∧ DctAt H a es ∧ RKs k F es kvs ∧ (kvs.map fun p => nk p.1).Nodup ∧ R k F i kd ∧ keyOk kvs kd = true ∧ kvs.length < sizeLine ∧ R k F v vd ∧
  ∀ es' o', DctAt (upd H a (exO a o')) a es' → RKs k F es' (putD kvs kd vd) → ((putD kvs kd vd).map fun p => nk p.1).Nodup → (∀ p ∈ putD kvs kd vd, ∀ q ∈ putD kvs kd vd, scal p.1 = scal q.1) → Q (upd H a (exO a o'))
theorem set_any (hX : XOk X k) : PSet X (rSet X k) := by
  intro pins s σ H o i v ov iv u Q I ro ri rv h
  rcases h with h | ⟨a, es, F, kvs, kd, vd, rfl, sub, da, rk, nd, rkd, ok, hz, rvd, fin⟩
  · exact set_list pins s σ H o i v ov iv u Q I ro ri rv h
  · cases ro
    exact d_set hX I sub da rk nd rkd ri ok hz rv rvd fun s' es' o' I' d1 d2 d3 d4 => ⟨_, I', fin es' o' d1 d2 d3 d4⟩
theorem qs_asgS (hX : XOk X k) {i : Nat} {eo ek e : Expr} {ik ie : IE} {tp : Pos} (ho : PE X eo (tVar i)) (hk : PE X ek (tE C k ik)) (he : PE X e (tE C k ie))
    (ha : ∀ v, assign (.Subscript eo ek tp) X.env v = (do
      let ov ← holding [v] (eval eo X.env)
      let iv ← holding [v, ov] (eval ek X.env)
      standAt tp
      holding [v, ov, iv] (setItem ov iv v)
      release [v, ov, iv] []))
    (hs : swapsWithSole [.Subscript eo ek tp] e pos.line X.env = pure false) (hw : swappedStores [.Subscript eo ek tp] e X.env = pure none) (h1 : (assignEach [.Subscript eo ek tp] X.env).map (·.2) = [assign (.Subscript eo ek tp) X.env]) :
    PS X (.Assign [.Subscript eo ek tp] e pos) (tS C k (.asgS i ik ie)) :=
  weakS (ps_asg he (pg_sub ho hk (set_any hX) ha) hs hw h1) fun D σ H ⟨ρ, F, F0, H0, G, E, rel, tr, wp, en⟩ => ⟨ρ, F, _, rel, wp, fun r ρ1 v F1 H1 p q => by
    obtain ⟨d, F2, q, e2, rd, rel2, tr2⟩ := p.keep rel q
    -- the slot holds its own thing all along
    have key : ∃ o, σ[i]? = some (some o) ∧ tE C k ik σ H1 (fun i' H2 => rSet X k o i' v H2 fun H3 => D.nx σ H3) := by
      have hh : ∀ o, σ[i]? = some (some o) → tE C k ik σ H1 (fun i' H2 => rSet X k o i' v H2 fun H3 => D.nx σ H3) := fun o ho => by
        refine ⟨ρ1, F2, _, rel2, q.2, fun kr ρ2 kv F3 H2 pk q => ?_⟩
        cases e : ρ2.get i with
        | no => rw [e] at q; exact q.elim
        | val d => rw [e] at q; exact q.elim
        | own xs =>
          rw [e] at q
          obtain ⟨n, j, q1, q2, q3⟩ := q
          obtain ⟨a, h1, _⟩ := slot_own pk.rel e
          have := ho.symm.trans h1
          cases this
          obtain ⟨o1, o2⟩ := own_after pk.rel h1 e
          obtain ⟨vs, v1, v2, v3, v4⟩ := id o2
          have l := pk.lent
          rw [q1] at l
          obtain ⟨x1, x2, _⟩ := write_own pk.rel ((tr.next tr2).next pk.tr) o1 o2 (v4.set j (rd.mono pk.tr.sub))
          exact .inl ⟨a, vs, n, j, rfl, l.int, v1, by rw [v4.length]; exact q2, en.nx _ _ _ _ x1 x2 q3⟩
        | owd kvs =>
          rw [e] at q
          obtain ⟨kd, F4, ⟨q1, q2, q3⟩, e5, rk, rel4, tr4⟩ := pk.keep rel2 q
          obtain ⟨a, h1, _⟩ := slot_owd rel4 e
          have := ho.symm.trans h1
          cases this
          obtain ⟨o1, o2⟩ := owd_after rel4 h1 e
          obtain ⟨es, d1, d2, d3, d4, d5, d6⟩ := id o2
          refine .inr ⟨a, es, F4, kvs, kd, d, rfl, rel4.sub, d1, d4, d5, rk, q1, q2, rd.mono tr4.sub, fun es' o' g1 g2 g3 g4 => ?_⟩
          obtain ⟨x1, x2⟩ := write_owd rel4 ((tr.next tr2).next tr4) o1 o2 g1 g2 g3 g4
          exact en.nx _ _ _ _ x1 x2 q3
      obtain ⟨m, hm⟩ : ∃ m, σ[i]? = some (some m) := by
        obtain ⟨b, h1, _⟩ := SlotR.here (x := none) (rel2.slot i) q.1
        exact ⟨_, h1⟩
      exact ⟨m, hm, hh m hm⟩
    exact key⟩
theorem qs_popT {i j : Nat} {x : Str} {ek eo e : Expr} {ie : IE} {px bp tp apos cpos : Pos} {kk : Nat} (hX : XOk X k) (hN : X.N.Nodup) (hj : X.N[j]? = some x) (hx : Loc X.env.scope x) (hf : X.fn x = true ∨ X.env.scope.names.lookup x = some .local)
    (hk : PE X ek (tVar j)) (ho : PE X eo (tVar i)) (he : PE X e (tE C k ie))
    (hsw : swapsWith (.BinOp ek .Add (.Tuple [.Call (.Attribute eo "pop" apos) [e] [] cpos] kk tp) bp) (some (.Name x px)) pos.line X.env = pure false)
    (hbase : attributeBase eo "pop" X.env (eval eo X.env) = eval eo X.env)
    (hfew : ((backTo cpos (starEach [e] X.env)).all (fun x => !x.1) && (backToKw cpos (keywordEach [] X.env)).all (fun x => x.1.isSome)
      && decide ([e].length + ([] : List Keyword).length + (if ([] : List Keyword).isEmpty then 0 else 1) < 30)) = true)
    (hline : (apos.endLine == cpos.line) = true) (hs : starEach [e] X.env = (false, eval e X.env) :: starEach [] X.env)
    (hs2 : starEach [.Call (.Attribute eo "pop" apos) [e] [] cpos] X.env = (false, eval (.Call (.Attribute eo "pop" apos) [e] [] cpos) X.env) :: starEach [] X.env) :
    PS X (.Assign [.Name x px] (.BinOp ek .Add (.Tuple [.Call (.Attribute eo "pop" apos) [e] [] cpos] kk tp) bp) pos) (tS C k (.popT j i ie)) :=
  weakS (ps_set hN hj hx (pe_op (op_catF) hk (pe_tupF (pa_cons (pe_bm (id := "list.pop") F.plainAttrs_list F.slot_list_pop F.type_list_pop mt_popAt ho (pa_cons he pa_nil hs) hbase hfew hline hs rfl) pa_nil hs2))) hsw hf)
    fun D σ H ⟨ρ, F, F0, H0, G, E, rel, tr, ⟨ts, et, w0, wp⟩, en⟩ => by
    obtain ⟨tv, ht, rt⟩ := slot_val rel et
    obtain ⟨a, xs0, vs0, e0, hi, hv0⟩ := own_before (ρ1 := ρ) (F1 := F) (H1 := H) rel w0
    refine ⟨tv, ht, _, hi, .inl ⟨rfl, vs0, .of hv0⟩, ρ, F, _, rel, wp, fun r ρ1 v F1 H1 p q => ?_⟩
    obtain ⟨xs, n, m, d, q1, q2, q3, q4, q5, q6, q7⟩ := q
    obtain ⟨o1, o2⟩ := own_after p.rel hi q1
    obtain ⟨vs, v1, v2, v3, v4⟩ := id o2
    have l := p.lent
    rw [q2] at l
    have hseq := (ixN_seq q4).1
    rw [← v4.length] at hseq
    obtain ⟨y, y1, y2⟩ := v4.get q5
    obtain ⟨x1, x2, x3⟩ := write_own p.rel (tr.next p.tr) o1 o2 (v4.eraseIdx m)
    obtain ⟨b1, b2⟩ := q3
    refine ⟨a, vs, n, m, y, rfl, by rw [l.int], v1, by omega, by omega, hseq, y1, ?_⟩
    refine ⟨by show 1 ≤ sizeLine; decide, newT x1 (.cons y2 .nil) fun w F3 H3 p3 => ?_⟩
    have rt3 : R k F3 tv (.tup ts) := (rt.mono p.tr.sub).mono p3.tr.sub
    have rw3 : R k F3 w (.tup [d]) := p3.res
    have tr3 := x2.next p3.tr
    have hK := hX.K
    cases rt3 with
    | tup ta ra =>
      cases rw3 with
      | tup tb rb =>
        have sq1 := (ta.mono p3.rel.sub).sq
        have sq2 := (tb.mono p3.rel.sub).sq
        rw [hK] at sq1 sq2
        have fin : ∀ {v F' H'}, EPost k (ρ1.put i (.own (xs.eraseIdx m))) σ F3 H3 (.val (.tup (ts ++ [d]))) v (ρ1.put i (.own (xs.eraseIdx m))) F' H' → gName j v σ H' D.nx := fun {v F' H'} p4 => by
          obtain ⟨z1, z2⟩ := p4.rel.put (i := j) (p4.res : R k F' v (.tup (ts ++ [d])))
          exact en.nx _ _ _ _ z1 ((tr3.next p4.tr).slots fun j a z => (tr3.next p4.tr).own j a (z2 j a z)) q7
        refine ⟨_, _, _, _, rfl, rfl, sq1, sq2, by rw [ra.length, rb.length]; exact q6, fun z => ?_, fun _ z => ?_, fun _ _ => newT p3.rel (ra.append rb) fun v F' H' p => fin p⟩
        · subst z
          have := rs_nil' ra
          subst this
          exact fin (.flat p3.rel .refl (.tup tb rb))
        · subst z
          have := rs_nil' rb
          cases this
end
def TgV (k : RC) (F H : Hp) (t : Tg) (v : V) (d : D) : Prop := R k F v d ∨ ∃ is T vs ds, t = .tp is ∧ v = .ref T ∧ d = .tup ds ∧ H T = some (.tup vs) ∧ Rs k F vs ds
structure TgTr (t : Tg) (ρ : PEnv) (σ : L2.St) (ρ' : PEnv) (σ' : L2.St) : Prop where
  own : ∀ i a, OwnAt ρ' σ' i a → OwnAt ρ σ i a
  wp : ∀ vs, (∀ i ∈ t.slots, i ∈ vs) → L2.wipe σ' vs = L2.wipe σ vs
  wr : ∀ vs, (∀ i ∈ t.slots, i ∈ vs) → ρ'.wipe vs = ρ.wipe vs
  dr : ρ'.dr = ρ.dr
def tG (k : RC) (t : Tg) : TG := fun v σ H Q => ∃ ρ F d QQ, Rel k ρ σ F H ∧ TgV k F H t v d ∧ tgP t d ρ QQ ∧ ∀ ρ' σ', Rel k ρ' σ' F H → TgTr t ρ σ ρ' σ' → QQ ρ' → Q σ' H
theorem weakG {X : Cx} {e : Expr} {t t' : TG} (h : PG X e t) (w : ∀ v σ H Q, t' v σ H Q → t v σ H Q) : PG X e t' := ⟨fun pins s σ H v u Q I r q => h.run pins s σ H v u Q I r (w v σ H Q q)⟩
theorem wipe_get {σ : L2.St} {j : Nat} : ∀ {vs : List Nat}, (L2.wipe σ vs)[j]? = if j ∈ vs then (if j < σ.length then some none else none) else σ[j]?
  | [] => by simp [L2.wipe]
  | v :: vs => by
    unfold L2.wipe
    have ih := @wipe_get σ j vs
    by_cases e : v = j
    · subst e
      rw [if_pos List.mem_cons_self]
      by_cases h : v < σ.length
      · rw [if_pos h, List.getElem?_set_self (by rw [wipe_length]; exact h)]
      · rw [if_neg h, List.getElem?_eq_none (by rw [List.length_set, wipe_length]; omega)]
    · rw [List.getElem?_set_ne e, ih]
      have : (j ∈ v :: vs) ↔ j ∈ vs := by simp [Ne.symm e]
      simp only [this]
theorem wipe_set {σ : L2.St} {i : Nat} {x : Option V} {vs : List Nat} (h : i ∈ vs) : L2.wipe (σ.set i x) vs = L2.wipe σ vs := by
  apply List.ext_getElem?
  intro j
  rw [wipe_get, wipe_get, List.length_set]
  by_cases e : j ∈ vs
  · rw [if_pos e, if_pos e]
  · rw [if_neg e, if_neg e, List.getElem?_set_ne (show i ≠ j from fun z => e (by rw [← z]; exact h))]
theorem pwipe_get {l : List SV} {j : Nat} : ∀ {vs : List Nat} {l : List SV}, (vs.foldl (fun l i => l.set i SV.no) l)[j]? = if j ∈ vs then (if j < l.length then some .no else none) else l[j]?
  | [], l => by simp
  | v :: vs, l => by
    rw [List.foldl_cons, @pwipe_get l j vs (l.set v .no), List.length_set]
    by_cases e : v = j
    · subst e
      by_cases m : v ∈ vs
      · rw [if_pos m, if_pos List.mem_cons_self]
      · rw [if_neg m, if_pos List.mem_cons_self]
        by_cases h : v < l.length
        · rw [if_pos h, List.getElem?_set_self h]
        · rw [if_neg h, List.getElem?_eq_none (by rw [List.length_set]; omega)]
    · have : (j ∈ v :: vs) ↔ j ∈ vs := by simp [Ne.symm e]
      simp only [this, List.getElem?_set_ne e]
theorem pwipe_put {ρ : PEnv} {i : Nat} {x : SV} {vs : List Nat} (h : i ∈ vs) : (ρ.put i x).wipe vs = ρ.wipe vs := by
  unfold PEnv.wipe PEnv.put
  congr 1
  apply List.ext_getElem?
  intro j
  rw [pwipe_get (l := []), pwipe_get (l := []), List.length_set]
  by_cases e : j ∈ vs
  · rw [if_pos e, if_pos e]
  · rw [if_neg e, if_neg e, List.getElem?_set_ne (show i ≠ j from fun z => e (by rw [← z]; exact h))]
section
variable {X : Cx} {k : RC} {pos : Pos}
theorem qg_nm {i : Nat} {x : Str} (hN : X.N.Nodup) (hi : X.N[i]? = some x) (hx : Loc X.env.scope x) (hf : X.fn x = true ∨ X.env.scope.names.lookup x = some .local) : PG X (.Name x pos) (tG k (.nm i)) :=
  weakG (pg_name hN hi hx hf) fun v σ H Q ⟨ρ, F, d, QQ, rel, tv, wp, fin⟩ => by
    rcases tv with r | ⟨_, _, _, _, e, _⟩
    · obtain ⟨x1, x2⟩ := rel.put (i := i) r
      exact fin _ _ x1 ⟨x2, fun vs h => wipe_set (h i (by simp [Tg.slots])), fun vs h => pwipe_put (h i (by simp [Tg.slots])), rfl⟩ wp
    · cases e
inductive NmAll (X : Cx) : List Expr → List Nat → Prop
  | nil : NmAll X [] []
  | cons {x : Str} {p : Pos} {i : Nat} {es : List Expr} {is : List Nat} : X.N[i]? = some x → Loc X.env.scope x → (X.fn x = true ∨ X.env.scope.names.lookup x = some .local) → NmAll X es is → NmAll X (.Name x p :: es) (i :: is)
def gAll : List Nat → TGs
  | [] => gNil
  | i :: is => gCons (gName i) (gAll is)
theorem pgs_all (hN : X.N.Nodup) : ∀ {es : List Expr} {is : List Nat}, NmAll X es is → PGs X es (gAll is)
  | _, _, .nil => pgs_nil
  | _, _, .cons h1 h2 h3 r => pgs_cons (pg_name hN h1 h2 h3) (pgs_all hN r)
theorem nm_len : ∀ {es : List Expr} {is : List Nat}, NmAll X es is → (assignEach es X.env).length = is.length ∧ (assignEach es X.env).findIdx? (·.1) = none
  | _, _, .nil => ⟨rfl, rfl⟩
  | _, _, .cons (x := x) (p := p) (es := es) h1 h2 h3 r => by
    obtain ⟨a, b⟩ := nm_len r
    have e : assignEach (.Name x p :: es) X.env = (false, assign (.Name x p) X.env) :: assignEach es X.env := rfl
    rw [e]
    refine ⟨by rw [List.length_cons, List.length_cons, a], ?_⟩
    rw [List.findIdx?_cons, if_neg (by simp), b]
    rfl
theorem gall_ok {F H : Hp} : ∀ {is : List Nat} {ρ : PEnv} {σ : L2.St} {vs : List V} {ds : List D} {ρ' : PEnv} {Q : L2.St → Hp → Prop}, Rel k ρ σ F H → Rs k F vs ds → putAll ρ is ds = some ρ' →
    (∀ σ', Rel k ρ' σ' F H → TgTr (.tp is) ρ σ ρ' σ' → Q σ' H) → gAll is vs σ H Q
  | [], ρ, σ, _, _, ρ', Q, rel, .nil, e, fin => by
    simp only [putAll, Option.some.injEq] at e
    subst e
    exact ⟨rfl, fin σ rel ⟨fun _ _ z => z, fun _ _ => rfl, fun _ _ => rfl, rfl⟩⟩
  | [], _, _, _, _, _, _, _, .cons _ _, e, _ => by simp [putAll] at e
  | _ :: _, _, _, _, _, _, _, _, .nil, e, _ => by simp [putAll] at e
  | i :: is, ρ, σ, _, _, ρ', Q, rel, .cons (v := v) (vs := vs) (d := d) (ds := ds) r rr, e, fin => by
    have e : putAll (ρ.put i (.val d)) is ds = some ρ' := e
    obtain ⟨x1, x2⟩ := rel.put (i := i) r
    refine ⟨v, vs, rfl, gall_ok x1 rr e fun σ' rel' tr' => fin σ' rel' ⟨fun j a z => x2 j a (tr'.own j a z), fun ws h => ?_, fun ws h => ?_, tr'.dr⟩⟩
    · rw [tr'.wp ws fun j hj => h j (by simp only [Tg.slots, List.mem_cons]; exact .inr hj), wipe_set (h i (by simp [Tg.slots]))]
    · rw [tr'.wr ws fun j hj => h j (by simp only [Tg.slots, List.mem_cons]; exact .inr hj), pwipe_put (h i (by simp [Tg.slots]))]
theorem put_len_eq : ∀ {is : List Nat} {ds : List D} {ρ ρ' : PEnv}, putAll ρ is ds = some ρ' → ds.length = is.length
  | [], [], _, _, _ => rfl
  | [], _ :: _, _, _, e => by simp [putAll] at e
  | _ :: _, [], _, _, e => by simp [putAll] at e
  | i :: is, d :: ds, ρ, ρ', e => by
    have e : putAll (ρ.put i (.val d)) is ds = some ρ' := e
    rw [List.length_cons, List.length_cons, put_len_eq e]
theorem qg_tp (hX : XOk X k) {es : List Expr} {is : List Nat} {kk : Nat} (hN : X.N.Nodup) (h : NmAll X es is) : PG X (.Tuple es kk pos) (tG k (.tp is)) :=
  weakG (pg_tup hX.calm (pgs_all hN h) (nm_len h).1 (nm_len h).2) fun v σ H Q ⟨ρ, F, d, QQ, rel, tv, wp, fin⟩ => by
    obtain ⟨xs, ρ', rfl, e, q⟩ := wp
    have hl := put_len_eq e
    have hK := hX.K
    rcases tv with r | ⟨is', T, vs, ds, e1, rfl, e2, hT, rs⟩
    · cases r with
      | tup ta ra =>
        have sq := (ta.mono rel.sub).sq
        rw [hK] at sq
        exact ⟨_, _, rfl, sq, by rw [ra.length]; exact hl, gall_ok rel ra e fun σ' rel' tr' => fin _ _ rel' tr' q⟩
    · cases e1; cases e2
      exact ⟨_, _, rfl, .of hT, by rw [rs.length]; exact hl, gall_ok rel rs e fun σ' rel' tr' => fin _ _ rel' tr' q⟩
end
end PL
namespace PL
open PySem PySem.Spec PyProof.Rows L2
def ItemOk (k : RC) (tp : Bool) (F H : Hp) (v : V) (d : D) : Prop := R k F v d ∨ (tp = true ∧ ∃ T vs ds, v = .ref T ∧ d = .tup ds ∧ H T = some (.tup vs) ∧ Rs k F vs ds)
def ItOk (k : RC) (S : Hp → Hp → Prop) (tp : Bool) (J : It) (ds : List D) : Prop := ∀ F H, S F H → ∀ i, (i = ds.length → J.stop i H) ∧ ∀ d, ds[i]? = some d → J.go i H ∧ ∀ x H', J.yld i H x H' → Same H H' ∧ ItemOk k tp F H' x d
def Stay (k : RC) (b : Bool) (F0 H0 : Hp) : Hp → Hp → Prop := fun F H => Same F0 F ∧ (b = true → SameX k H0 H) ∧ Same F H
def tI (C : PC) (k : RC) (b tp : Bool) (ie : IE) : TI := fun σ H Rr => ∃ ρ F QQ, Rel k ρ σ F H ∧ wpI C b ie ρ QQ ∧ ∀ ds ρ' F' H' J, Rel k ρ' σ F' H' → ETr k ρ σ F H ρ' F' H' → ItOk k (Stay k b F' H') tp J ds → QQ ds ρ' → Rr J H'
def Itx (d : Addr) (o : Obj) (es : List DictEntry) : It :=
  ⟨fun i H => H d = some (exO d o) ∧ i < es.length, fun i H x H' => H' = H ∧ ∃ e : DictEntry, es[i]? = some e ∧ RelV x e.key, fun i H => H d = some (exO d o) ∧ es.length ≤ i⟩
theorem exO_get {X : Cx} {pins : List (Addr × Obj)} {σ : L2.St} {H : Hp} {s : Shared} {d : Addr} {o : Obj} (I : Inv X pins σ H s) (h : H d = some (exO d o)) : s.heap.get? d = some o := (I.hok d _ h).1
theorem turn_x {P : Program} {w : World} {K : PySem.W.Frag} {tg : Expr} {d : Addr} {o : Obj} {es : List DictEntry} {ep : Nat} (it : Addr) (hod : o.data = .dict es.toArray ep) (hv : ∀ e ∈ es, ∃ x, RelV x e.key) :
    Turn P w K tg (Itx d o es) [it] it (fun i h => h.IsKeyIter it d i es.toArray.size ep) where
  mem := by simp
  obj := fun i h st b hb => by
    have e : b = it := by simpa using hb
    subst e
    obtain ⟨oi, e, c, dd⟩ := st
    exact ⟨oi, e, fun v z => by rw [dd] at z; cases z⟩
  keep := fun i h h' st k => st.at fun oi e => k it (by simp) oi e
  item := by
    intro X hP hw hK hc i pins s σ H E I hf st hg
    subst hP hw hK
    obtain ⟨hd, hi⟩ := hg
    obtain ⟨f0, f1, f2, f3, f4, f5⟩ := hf it (by simp)
    have ho := exO_get I hd
    have hx : es.toArray[i]? = some es[i] := by rw [List.getElem?_toArray]; exact List.getElem?_eq_getElem hi
    refine next_key_item st ho hod rfl hx fun h' st' sb => ?_
    have I1 : Inv X pins σ H { s with heap := h' } := I.turned (t' := s.toks) (fun b ob hb e => (sb.2 b hb).trans e) f0 f1 f3 f4 f5
    obtain ⟨oi, e, c, dd⟩ := id st'
    obtain ⟨x, rx⟩ := hv es[i] (List.getElem_mem hi)
    exact ⟨_, rfl, go_of (s := { s with heap := h' }) e c dd (by decide) ⟨x, H, I1, rx, ⟨rfl, _, List.getElem?_eq_getElem hi, rx⟩, st', fun b hb => (hf b hb).1⟩⟩
  done := by
    intro X hP hw hK hc i pins s σ H E I hf st hg
    subst hP hw hK
    obtain ⟨hd, hi⟩ := hg
    obtain ⟨f0, f1, f2, f3, f4, f5⟩ := hf it (by simp)
    exact next_key_end (I.ok.hd hc) st (exO_get I hd) hod rfl (by simpa using hi) fun h' eb => ⟨rfl, I.turned (t' := s.toks) (fun b ob hb e => eb b ob hb e) f0 f1 f3 f4 f5⟩
  self := fun A i s Q E st h => wpAny_pyIter_keyiter st h
theorem rk_get {k : RC} {F : Hp} : ∀ {es : List DictEntry} {kvs : List (D × D)} {i : Nat} {e : DictEntry}, RKs k F es kvs → es[i]? = some e → ∃ p v, kvs[i]? = some p ∧ RelV v e.key ∧ R k F v p.1
  | _, _, _, _, .nil, h => by simp at h
  | _, _, 0, _, .cons h1 h2 _ _ _ _ _ _, h => by simp at h; subst h; exact ⟨_, _, rfl, h1, h2⟩
  | _, _, i + 1, e, .cons _ _ _ _ _ _ _ r, h => by
    obtain ⟨p, v, h1, h2⟩ := rk_get (i := i) (e := e) r (by simpa using h)
    exact ⟨p, v, by simpa using h1, h2⟩
section
variable {X : Cx} {k : RC} {C : PC} {pos : Pos} {tg : Expr}
theorem seq_len (hX : XOk X k) {pins : List (Addr × Obj)} {σ : L2.St} {F H : Hp} {s : Shared} {x : V} {d : D} {xs : List D} (I : Inv X pins σ H s) (sub : Same F H) (br : BR k F H x d) (hd : seqD d = some xs) : xs.length ≤ sizeLine := by
  have hK := hX.K
  cases d with
  | lst ys =>
    cases hd
    obtain ⟨a, vs, rfl, t, r⟩ := br.lst sub
    obtain ⟨its, rv, p, hz⟩ := I.list (.of t)
    have e := r.length; have e2 := rv.length; have e3 := hz; omega
  | tup ys =>
    cases hd
    obtain ⟨a, vs, rfl, t, r⟩ := br.tup
    have sq := (t.mono sub).sq
    rw [hK] at sq
    obtain ⟨its, rv, p, hz⟩ := I.tuple sq
    have e := r.length; have e2 := rv.length; have e3 := hz; omega
  | _ => cases hd
theorem it_any (hX : XOk X k) {pins : List (Addr × Obj)} {σ : L2.St} {F H : Hp} {s : Shared} {x : V} {u : Value} {d : D} {xs : List D} {b : Bool} {Rr : It → Hp → Prop} (I : Inv X pins σ H s) (rx : RelV x u) (sub : Same F H) {dr : Nat} (pool : PoolOk k F H dr) (br : BR k F H x d) (hb : b = false → R k F x d) (hd : itemsD d = some xs)
    (h : (isRng d = false → xs.length ≤ sizeLine) → ∀ J, ItOk k (Stay k b F H) false J xs → Rr J H) : wpAny (model X.prog X.w) X.A (pyIter u) (PIE X pins σ tg Rr) X.xe s := by
  have stay : ∀ F' H', Stay k b F H F' H' → BR k F' H' x d ∧ Same F' H' := fun F' H' ⟨a1, a2, a3⟩ => by
    refine ⟨?_, a3⟩
    cases b with
    | false => exact .inl ((hb rfl).mono a1)
    | true => exact br.grow a1 (a2 rfl) a3
  have hK := hX.K
  cases d with
  | lst ys =>
    cases hd
    obtain ⟨a, vs, rfl, t, r⟩ := br.lst sub
    cases rx
    obtain ⟨its, rv, p, hz⟩ := I.list (.of t)
    refine wpAny_pyIter_list p.isList (pi_one (tk := s.toks) I _ (turn_list a _) ⟨_, Heap.get?_push_size _ rfl, rfl, rfl⟩ (h (fun _ => by have e := r.length; have e2 := rv.length; have e3 := hz; omega) _ fun F' H' st i => ?_))
    obtain ⟨b', sub'⟩ := stay F' H' st
    obtain ⟨a', vs', e', t', r'⟩ := b'.lst sub'
    cases e'
    refine ⟨fun hi => ⟨vs', .of t', by rw [r'.length]; exact Nat.le_of_eq hi.symm⟩, fun d hd => ?_⟩
    obtain ⟨w, w1, w2⟩ := r'.get hd
    refine ⟨⟨vs', w, .of t', w1⟩, fun y H'' ⟨e1, e2⟩ => ?_⟩
    subst e1
    have := (e2 vs' (.of t')).symm.trans w1
    cases this
    exact ⟨fun _ _ z => z, .inl w2⟩
  | tup ys =>
    cases hd
    obtain ⟨a, vs, rfl, t, r⟩ := br.tup
    cases rx
    have sq := (t.mono sub).sq
    rw [hK] at sq
    obtain ⟨its, rv, p, hz⟩ := I.tuple sq
    refine wpAny_pyIter_tuple (show s.heap.IsTuple a its.toArray from p) (pi_one (tk := s.toks) I _ (turn_tuple a _) ⟨_, Heap.get?_push_size _ rfl, rfl, rfl⟩ (h (fun _ => by have e := r.length; have e2 := rv.length; have e3 := hz; omega) _ fun F' H' st i => ?_))
    obtain ⟨b', sub'⟩ := stay F' H' st
    obtain ⟨a', vs', e', t', r'⟩ := b'.tup
    cases e'
    have sq' := (t'.mono sub').sq
    rw [hK] at sq'
    refine ⟨fun hi => ⟨vs', sq', by rw [r'.length]; exact Nat.le_of_eq hi.symm⟩, fun d hd => ?_⟩
    obtain ⟨w, w1, w2⟩ := r'.get hd
    refine ⟨⟨vs', w, sq', w1⟩, fun y H'' ⟨e1, e2⟩ => ?_⟩
    subst e1
    have := (e2 vs' sq').symm.trans w1
    cases this
    exact ⟨fun _ _ z => z, .inl w2⟩
  | dct kvs =>
    cases hd
    obtain ⟨a, es, rfl, ⟨o, ep, g1, g2, g3, g4, g5⟩, r, nd, un⟩ := br.dct sub
    cases rx
    have ho := exO_get I g1
    refine iter_keys g4 ho g2 g3 (pi_one (tk := s.toks) I _ (turn_x (es := es) _ g3 fun e he => ?_) ⟨_, Heap.get?_push_size _ rfl, rfl, rfl⟩ (h (fun _ => by rw [List.length_map, ← r.length]; exact g5) _ fun F' H' st i => ?_))
    · obtain ⟨i, hi⟩ := List.mem_iff_getElem?.mp he
      obtain ⟨p, v, _, h2, _⟩ := rk_get r hi
      exact ⟨v, h2⟩
    · -- the same object all along
      obtain ⟨a1, a2, a3⟩ := st
      have same : H' a = some (exO a o) := by
        cases b with
        | true =>
          refine a2 rfl _ _ g1 fun ⟨p, q, z⟩ => ?_
          obtain ⟨_, _, _, _, m, _, _, c1⟩ := pool p q a z
          have := c1.symm.trans g1
          cases this
        | false =>
          have hbr := hb rfl
          cases hbr with
          | dct da _ _ _ =>
            obtain ⟨oF, epF, f1, _⟩ := da
            have e1 := exO_get I (sub _ _ f1)
            have e2 := ho.symm.trans e1
            cases e2
            exact a3 _ _ (a1 _ _ f1)
      refine ⟨fun hi => ⟨same, by rw [r.length]; rw [List.length_map] at hi; exact Nat.le_of_eq hi.symm⟩, fun d hd => ?_⟩
      rw [List.getElem?_map] at hd
      obtain ⟨q, hq, rfl⟩ := Option.map_eq_some_iff.mp hd
      have hlt : i < es.length := by
        rw [r.length]; exact (List.getElem?_eq_some_iff.mp hq).1
      refine ⟨⟨same, hlt⟩, fun y H'' ⟨e1, e, e2, e3⟩ => ?_⟩
      subst e1
      obtain ⟨p, v, p1, p2, p3⟩ := rk_get r e2
      have := p1.symm.trans hq
      cases this
      have := e3.inj p2
      subst this
      exact ⟨fun _ _ z => z, .inl (p3.mono a1)⟩
  | rng lo hi =>
    cases hd
    obtain ⟨a, rfl, t, ⟨l1, l2⟩, h1, h2⟩ := br.rng
    cases rx
    obtain ⟨t1, t2, t3, hr⟩ := rng_at I (sub _ _ t)
    refine wpAny_pyIter_range hr (small_one l1 l2 h1 h2) (pi_one (tk := s.toks) I _ (turn_range _ lo (hi - lo).toNat) ?_ (h (fun z => by cases z) _ fun F' H' st i => ?_))
    · have e1 : lo + ((0 : Nat) : Int) * 1 = lo := by simp
      have e2 : (((hi - lo).toNat : Nat) : Int) - ((0 : Nat) : Int) = Builtin.Range.rangeSize lo hi 1 := by rw [rangeSize_one]; split <;> omega
      show IsRangeIter _ _ (lo + ((0 : Nat) : Int) * 1) ((((hi - lo).toNat : Nat) : Int) - ((0 : Nat) : Int)) 1
      rw [e1, e2]
      exact Heap.get?_push_size _ rfl
    · have hl : (rngL lo hi).length = (hi - lo).toNat := by unfold rngL; simp
      refine ⟨fun hi' => by rw [hl] at hi'; exact Nat.le_of_eq hi'.symm, fun d hd => ?_⟩
      have hlt : i < (hi - lo).toNat := by
        have := (List.getElem?_eq_some_iff.mp hd).1
        rw [hl] at this; exact this
      refine ⟨hlt, fun y H'' ⟨e1, e2⟩ => ?_⟩
      subst e1 e2
      unfold rngL at hd
      rw [List.getElem?_map, List.getElem?_range hlt] at hd
      cases hd
      exact ⟨fun _ _ z => z, .inl (.int _)⟩
  | _ => cases hd
theorem come {b : Bool} {ρ ρ1 : PEnv} {σ : L2.St} {F F1 H H1 : Hp} {r : RV} {v : V} {K : D → Prop} (rel : Rel k ρ σ F H) (p : EPost k ρ σ F H r v ρ1 F1 H1) (q : (if b = true then (fun K : D → Prop => K r.toD) else r.kept) K) :
    ∃ d F2, K d ∧ BR k F2 H1 v d ∧ (b = false → R k F2 v d) ∧ Rel k ρ1 σ F2 H1 ∧ ETr k ρ σ F H ρ1 F2 H1 := by
  cases b with
  | true => exact ⟨r.toD, F1, q, p.lent, fun z => Bool.noConfusion z, p.rel, p.tr⟩
  | false =>
    obtain ⟨d, F2, q1, _, rd, rel2, tr2⟩ := p.keep rel q
    exact ⟨d, F2, q1, .inl rd, fun _ => rd, rel2, tr2⟩
theorem qi_seq (hX : XOk X k) {b : Bool} {e : Expr} {ie : IE} (he : PE X e (tE C k ie)) : PI X tg e (tI C k b false (.itSeq ie)) := by
  refine ⟨fun pins s σ H Rr I ⟨ρ, F, QQ, rel, wp, fin⟩ => ?_⟩
  refine thn (he.run pins s σ H (fun v H1 => ∃ ρ1 F1 r, EPost k ρ σ F H r v ρ1 F1 H1 ∧ (if b = true then (fun K : D → Prop => K r.toD) else r.kept) fun d => ∃ xs, itemsD d = some xs ∧ ((isRng d = false → xs.length ≤ sizeLine) → QQ xs ρ1)) I ⟨ρ, F, _, rel, wp, fun r ρ1 v F1 H1 p q => ⟨ρ1, F1, r, p, q⟩⟩) fun u s1 ⟨x, H1, I1, rx, ρ1, F1, r, p, q⟩ => ?_
  obtain ⟨d, F2, ⟨xs, q1, q2⟩, br, hb, rel2, tr2⟩ := come rel p q
  exact it_any hX I1 rx rel2.sub rel2.pool br hb q1 fun hl J hJ => fin xs ρ1 F2 H1 J rel2 tr2 hJ (q2 hl)
theorem itr_ok {S : Hp → Hp → Prop} {lo hi : Int} : ItOk k S false (Itr lo (hi - lo).toNat) (rngL lo hi) := fun F' H' st i => by
  have hl : (rngL lo hi).length = (hi - lo).toNat := by unfold rngL; simp
  refine ⟨fun hi' => by rw [hl] at hi'; exact Nat.le_of_eq hi'.symm, fun d hd => ?_⟩
  have hlt : i < (hi - lo).toNat := by
    have := (List.getElem?_eq_some_iff.mp hd).1
    rw [hl] at this; exact this
  refine ⟨hlt, fun y H'' ⟨e1, e2⟩ => ?_⟩
  subst e1 e2
  unfold rngL at hd
  rw [List.getElem?_map, List.getElem?_range hlt] at hd
  cases hd
  exact ⟨fun _ _ z => z, .inl (.int _)⟩
theorem qi_rng1 {b : Bool} {a : Expr} {ia : IE} {p : Pos} (hg : Gl X "range") (hm : X.mg "range" = none) (ha : PE X a (tE C k ia)) (hs1 : starEach [a] X.env = (false, eval a X.env) :: starEach [] X.env) (hs : starEach [a] X.env = [(false, eval a X.env)]) : PI X tg (.Call (.Name "range" p) [a] [] pos) (tI C k b false (.itR1 ia)) := by
  refine ⟨fun pins s σ H Rr I ⟨ρ, F, QQ, rel, wp, fin⟩ => ?_⟩
  refine (pi_range1 hg hm (pa_cons ha pa_nil hs1) hs).run pins s σ H Rr I ⟨ρ, F, _, rel, wp, fun r ρ1 v F1 H1 p ⟨j, e, ⟨h1, h2⟩, q⟩ => ?_⟩
  have l := p.lent
  rw [e] at l
  have := itr_ok (k := k) (S := Stay k b F1 H1) (lo := 0) (hi := j)
  rw [Int.sub_zero] at this
  exact ⟨j, by rw [l.int], h1, h2, fin _ _ _ _ _ p.rel p.tr this q⟩
theorem qi_rng2 {b : Bool} {a c : Expr} {ia ic : IE} {p : Pos} (hg : Gl X "range") (hm : X.mg "range" = none) (ha : PE X a (tE C k ia)) (hc : PE X c (tE C k ic)) (hs1 : starEach [a, c] X.env = (false, eval a X.env) :: starEach [c] X.env) (hs3 : starEach [c] X.env = (false, eval c X.env) :: starEach [] X.env) (hs : starEach [a, c] X.env = [(false, eval a X.env), (false, eval c X.env)]) (hs2 : starEach [c] X.env = [(false, eval c X.env)]) : PI X tg (.Call (.Name "range" p) [a, c] [] pos) (tI C k b false (.itR2 ia ic)) := by
  refine ⟨fun pins s σ H Rr I ⟨ρ, F, QQ, rel, wp, fin⟩ => ?_⟩
  refine (pi_range2 hg hm (pa_cons ha (pa_cons hc pa_nil hs3) hs1) hs hs2).run pins s σ H Rr I ⟨ρ, F, _, rel, wp, fun r ρ1 v F1 H1 p q => ⟨ρ1, F1, _, p.rel, q, fun r2 ρ2 v2 F2 H2 p2 ⟨i, j, e1, e2, ⟨⟨h1, h2⟩, h3, h4⟩, q⟩ => ?_⟩⟩
  have l := p.lent
  rw [e1] at l
  have l2 := p2.lent
  rw [e2] at l2
  exact ⟨i, j, by rw [l.int, l2.int], ⟨h1, h2, h3, h4⟩, fin _ _ _ _ _ p2.rel (p.tr.trans p2.tr) itr_ok q⟩
theorem STr.keepH {ρ : PEnv} {σ : L2.St} {F0 H0 G F H H' : Hp} (t : STr k F0 H0 G ρ σ F H) (s : Same H H') : STr k F0 H0 G ρ σ F H' := t.next (ETr.keepH s)
theorem STr.since {ρ : PEnv} {σ : L2.St} {F0 H0 G G' F H : Hp} (t : STr k F0 H0 G ρ σ F H) (h : Same G' F) : STr k F0 H0 G' ρ σ F H := ⟨t.sub, t.heap, t.there, t.vis, t.own, h⟩
theorem SEnds.loop {F0 H0 G F1 : Hp} {E : PEnds} {D : Ends} {Nx : PEnv → Prop} {N : L2.St → Hp → Prop} (en : SEnds k F0 H0 G E D) (h1 : Same G F1) (h : ∀ ρ σ F H, Rel k ρ σ F H → STr k F0 H0 F1 ρ σ F H → Nx ρ → N σ H) :
    SEnds k F0 H0 F1 ⟨Nx, E.rt, E.nx, Nx⟩ { D with nx := N, ct := N, bk := D.nx } :=
  ⟨h, fun ρ σ F H rel tr q => en.nx ρ σ F H rel (tr.since fun b o e => tr.mid b o (h1 b o e)) q, h, en.rt⟩
theorem qs_for (hX : XOk X k) {tp : Bool} {tgt : Tg} {iter : Expr} {body : List Stmt} {ii : IE} {ib : IS} (hp : PassesOwn (model X.prog X.w) X.A X.env X.xe) (hi : PI X tg iter (tI C k false tp ii)) (hg : PG X tg (tG k tgt)) (htp : tp = true → ∃ is, tgt = .tp is)
    (hb : PSs X body (tS C k ib)) (hs : ∀ x, foldedSetIterable iter X.env x = pure x) : PS X (.For tg iter body [] pos) (tS C k (.fr tgt ii ib)) :=
  weakS (ps_for hp hX.calm hi hg hb hs) fun D σ H ⟨ρ, F, F0, H0, G, E, rel, tr, wp, en⟩ => ⟨ρ, F, _, rel, wp, fun ds ρ1 F1 H1 J rel1 tr1 it q => by
    have gF : Same G F1 := fun b o e => tr1.sub b o (tr.mid b o e)
    refine ⟨fun i m σ' H' => m = ds.length - i ∧ i ≤ ds.length ∧ ∃ ρ' F', Rel k ρ' σ' F' H' ∧ STr k F0 H0 F1 ρ' σ' F' H' ∧ forL tgt (wpS C ib) (ds.drop i) ρ' E,
      ⟨ds.length, by simp, by omega, ρ1, F1, rel1, (tr.next tr1).since fun _ _ h => h, q⟩, ?_⟩
    rintro i m σ' H' ⟨rfl, hi, ρ', F', rel', tr', q'⟩
    obtain ⟨i1, i2⟩ := it F' H' ⟨tr'.mid, fun z => Bool.noConfusion z, rel'.sub⟩ i
    by_cases hlt : i < ds.length
    · obtain ⟨go, yl⟩ := i2 ds[i] (List.getElem?_eq_getElem hlt)
      rw [List.drop_eq_getElem_cons hlt] at q'
      refine .inr ⟨go, fun σ2 H2 => ∃ ρ2 F2, Rel k ρ2 σ2 F2 H2 ∧ STr k F0 H0 F1 ρ2 σ2 F2 H2 ∧ forL tgt (wpS C ib) (ds.drop (i + 1)) ρ2 E, fun σ2 H2 ⟨ρ2, F2, r2, t2, q2⟩ => ⟨_, (by omega : ds.length - (i + 1) < ds.length - i), rfl, hlt, ρ2, F2, r2, t2, q2⟩, fun x H'' y => ?_⟩
      obtain ⟨sH, iok⟩ := yl x H'' y
      have rel2 := rel'.keepH sH
      have tr2 := tr'.keepH sH
      refine ⟨ρ', F', ds[i], _, rel2, ?_, q', fun ρ3 σ3 rel3 tt q3 => ?_⟩
      · rcases iok with r | ⟨h1, T, vs, es, h2, h3, h4, h5⟩
        · exact .inl r
        · obtain ⟨is, e⟩ := htp h1
          exact .inr ⟨is, T, vs, es, e, h2, h3, h4, h5⟩
      · have tr3 : STr k F0 H0 F1 ρ3 σ3 F' H'' := tr2.slots fun j a z => tr2.own j a (tt.own j a z)
        exact ⟨ρ3, F', F0, H0, F1, _, rel3, tr3, q3, en.loop gF fun ρ4 σ4 F4 H4 rel4 tr4 q4 => ⟨ρ4, F4, rel4, tr4, q4⟩⟩
    · have e : i = ds.length := by omega
      subst e
      rw [List.drop_length] at q'
      exact .inl ⟨i1 rfl, en.nx _ _ _ _ rel' (tr'.since fun b o e => tr'.mid b o (gF b o e)) q'⟩⟩
theorem qs_whl {c : Expr} {body : List Stmt} {ic : IE} {ib : IS} (hp : PassesOwn (model X.prog X.w) X.A X.env X.xe) (hc : PT X c (tT C k ic)) (hb : PSs X body (tS C k ib)) : PS X (.While c body [] pos) (tS C k (.whl ic ib)) :=
  weakS (ps_while hp hc hb) fun D σ H ⟨ρ, F, F0, H0, G, E, rel, tr, ⟨n, q⟩, en⟩ => by
    refine ⟨fun m σ' H' => ∃ ρ' F', Rel k ρ' σ' F' H' ∧ STr k F0 H0 G ρ' σ' F' H' ∧ whlL (wpE C ic) (wpS C ib) m ρ' E, ⟨n, ρ, F, rel, tr, q⟩, ?_⟩
    rintro m σ' H' ⟨ρ', F', rel', tr', q'⟩
    cases m with
    | zero => exact q'.elim
    | succ m =>
      refine ⟨ρ', F', _, rel', q', fun b ρ1 F1 H1 rel1 tr1 ⟨b', e, q1⟩ => ?_⟩
      cases e
      cases b with
      | false =>
        rw [brn_ite, if_neg Bool.false_ne_true] at q1; rw [if_neg Bool.false_ne_true]
        exact en.nx _ _ _ _ rel1 (tr'.next tr1) q1
      | true =>
        rw [brn_ite, if_pos rfl] at q1; rw [if_pos rfl]
        refine ⟨fun σ2 H2 => ∃ ρ2 F2, Rel k ρ2 σ2 F2 H2 ∧ STr k F0 H0 G ρ2 σ2 F2 H2 ∧ whlL (wpE C ic) (wpS C ib) m ρ2 E, fun σ2 H2 h => ⟨m, Nat.lt_succ_self m, h⟩, ρ1, F1, F0, H0, G, _, rel1, tr'.next tr1, q1, ?_⟩
        exact ⟨fun ρ σ F H r t q => ⟨ρ, F, r, t, q⟩, en.nx, fun ρ σ F H r t q => ⟨ρ, F, r, t, q⟩, en.rt⟩
theorem qs_aug {i : Nat} {x : Str} {e : Expr} {ie : IE} {pos' : Pos} (hN : X.N.Nodup) (hi : X.N[i]? = some x) (hx : Loc X.env.scope x) (he : PE X e (tE C k ie)) (hf : X.fn x = true ∨ X.env.scope.names.lookup x = some .local) : PS X (.AugAssign (.Name x pos') .Add e pos) (tS C k (.aug i ie)) :=
  weakS (ps_aug hN hi hx he ip_add hf) fun D σ H ⟨ρ, F, F0, H0, G, E, rel, tr, ⟨n, e0, wp⟩, en⟩ => by
    obtain ⟨v, h1, h2⟩ := slot_val rel e0
    cases h2
    refine ⟨_, h1, ρ, F, _, rel, wp, fun r ρ1 v F1 H1 p ⟨m, e1, q⟩ => ?_⟩
    have l := p.lent
    rw [e1] at l
    obtain ⟨z1, z2⟩ := p.rel.put (i := i) (R.int (F := F1) (n + m))
    exact ⟨n, m, rfl, l.int, en.nx _ _ _ _ z1 ((tr.next p.tr).slots fun j a z => (tr.next p.tr).own j a (z2 j a z)) q⟩
theorem qs_tup (hX : XOk X k) {is : List Nat} {e : Expr} {es : List Expr} {kk : Nat} {tp : Pos} {ie : IE} (he : PE X e (tE C k ie)) (hg : PG X (.Tuple es kk tp) (tG k (.tp is))) (hs : swapsWithSole [.Tuple es kk tp] e pos.line X.env = pure false) (hw : swappedStores [.Tuple es kk tp] e X.env = pure none)
    (h1 : (assignEach [.Tuple es kk tp] X.env).map (·.2) = [assign (.Tuple es kk tp) X.env]) : PS X (.Assign [.Tuple es kk tp] e pos) (tS C k (.asg (.tp is) ie)) :=
  weakS (ps_asg he hg hs hw h1) fun D σ H ⟨ρ, F, F0, H0, G, E, rel, tr, wp, en⟩ => ⟨ρ, F, _, rel, wp, fun r ρ1 v F1 H1 p q => by
    obtain ⟨d, F2, q1, _, rd, rel2, tr2⟩ := p.keep rel q
    exact ⟨ρ1, F2, d, _, rel2, .inl rd, q1, fun ρ' σ' rel' tt q' => en.nx _ _ _ _ rel' ((tr.next tr2).slots fun j a z => (tr.next tr2).own j a (tt.own j a z)) q'⟩⟩
end
end PL
namespace PL
open PySem PySem.Spec PyProof.Rows L2
structure BTr (k : RC) (ρ : PEnv) (σ : L2.St) (F H : Hp) (ρ' : PEnv) (σ' : L2.St) (F' H' : Hp) : Prop where
  sub : Same F F'
  heap : SameX k H H'
  there : ∀ a, H a ≠ none → H' a ≠ none
  vis : ∀ a, H a ≠ none → (∀ i, ¬ OwnAt ρ σ i a) → F' a = F a
  own : ∀ i a, OwnAt ρ' σ' i a → OwnAt ρ σ i a
section
variable {k : RC} {ρ ρ' ρ1 ρ2 : PEnv} {σ σ' σ1 : L2.St} {F F' F1 F2 H H' H1 H2 : Hp} {vs : List Nat} {a : Addr} {o : HO}
theorem ETr.b (e : ETr k ρ σ F H ρ' F' H') : BTr k ρ σ F H ρ' σ F' H' := ⟨e.sub, e.heap, e.there, e.vis, e.own⟩
theorem BTr.e (e : BTr k ρ σ F H ρ' σ F' H') : ETr k ρ σ F H ρ' F' H' := ⟨e.sub, e.heap, e.there, e.vis, e.own⟩
theorem BTr.next (t : BTr k ρ σ F H ρ1 σ1 F1 H1) (e : ETr k ρ1 σ1 F1 H1 ρ2 F2 H2) : BTr k ρ σ F H ρ2 σ1 F2 H2 where
  sub := fun c o h => e.sub c o (t.sub c o h)
  heap := t.heap.trans e.heap
  there := fun c h => e.there c (t.there c h)
  vis := fun c h n => (e.vis c (t.there c h) fun i z => n i (t.own i c z)).trans (t.vis c h n)
  own := fun i c h => t.own i c (e.own i c h)
theorem BTr.slots (t : BTr k ρ σ F H ρ1 σ1 F1 H1) (h : ∀ i a, OwnAt ρ' σ' i a → OwnAt ρ1 σ1 i a) : BTr k ρ σ F H ρ' σ' F1 H1 := ⟨t.sub, t.heap, t.there, t.vis, fun i a z => t.own i a (h i a z)⟩
theorem BTr.write (t : BTr k ρ σ F H ρ1 σ1 F1 H1) (hn : H a = none) : BTr k ρ σ F H ρ1 σ1 F1 (upd H1 a o) := by
  refine ⟨t.sub, fun b u e n => ?_, fun b hb => ?_, t.vis, t.own⟩
  · rw [upd_ne (ne_of_none e hn)]; exact t.heap b u e n
  · rw [upd_ne (fun z => hb (by rw [z]; exact hn))]; exact t.there b hb
theorem Rel.writeD (h : Rel k ρ σ F H) (n : ∀ i, ¬ OwnAt ρ σ i a) (fa : F a = none) (np : ¬ inP' k a) : Rel k ρ σ F (upd H a o) := by
  refine ⟨h.len, fun b u e => ?_, fun j => ?_, h.inj, fun p r c e => ?_⟩
  · rw [upd_ne (ne_of_none e fa)]; exact h.sub b u e
  · have z := h.slot j
    cases eg : ρ.get j with
    | no => trivial
    | val d => rw [eg] at z; exact z
    | own xs =>
      rw [eg] at z; obtain ⟨b, e1, vs, e2, e3⟩ := z
      have ne : b ≠ a := fun y => n j ⟨by rw [eg]; rfl, y ▸ e1⟩
      exact ⟨b, e1, vs, (upd_ne ne).trans e2, e3⟩
    | owd xs =>
      rw [eg] at z; obtain ⟨b, e1, es, ⟨ob, ep, e2, er⟩, e3⟩ := z
      have ne : b ≠ a := fun y => n j ⟨by rw [eg]; rfl, y ▸ e1⟩
      exact ⟨b, e1, es, ⟨ob, ep, (upd_ne ne).trans e2, er⟩, e3⟩
  · obtain ⟨f, n, h1, ⟨rows, hr, h2⟩, m, hm, hm', h3⟩ := h.pool p r c e
    have w : ∀ b, (b = p ∨ b = r ∨ b = c) → b ≠ a := fun b z y => np ⟨p, r, c, e, y ▸ z⟩
    exact ⟨f, n, (upd_ne (w p (.inl rfl))).trans h1, ⟨rows, hr, (upd_ne (w r (.inr (.inl rfl)))).trans h2⟩, m, hm, hm', (upd_ne (w c (.inr (.inr rfl)))).trans h3⟩
theorem get_wipe {j : Nat} : (ρ.wipe vs).get j = if j ∈ vs then .no else ρ.get j := by
  unfold PEnv.get PEnv.wipe
  simp only [List.getD_eq_getElem?_getD, pwipe_get (l := [])]
  by_cases e : j ∈ vs
  · rw [if_pos e, if_pos e]
    split <;> rfl
  · rw [if_neg e, if_neg e]
theorem wipe_len : (ρ.wipe vs).sl.length = ρ.sl.length := by
  unfold PEnv.wipe
  show (vs.foldl _ ρ.sl).length = _
  generalize ρ.sl = l
  induction vs generalizing l with
  | nil => rfl
  | cons v vs ih => rw [List.foldl_cons, ih, List.length_set]
theorem own_wipe {i : Nat} (h : OwnAt (ρ.wipe vs) (L2.wipe σ vs) i a) : OwnAt ρ σ i a ∧ i ∉ vs := by
  obtain ⟨h1, h2⟩ := h
  rw [get_wipe] at h1
  rw [wipe_get] at h2
  by_cases e : i ∈ vs
  · rw [if_pos e] at h1; cases h1
  · rw [if_neg e] at h1 h2; exact ⟨⟨h1, h2⟩, e⟩
theorem Rel.wipe (h : Rel k ρ σ F H) : Rel k (ρ.wipe vs) (L2.wipe σ vs) F H := by
  refine ⟨by rw [wipe_len, wipe_length]; exact h.len, h.sub, fun j => ?_, fun i j a x y => h.inj i j a (own_wipe x).1 (own_wipe y).1, h.pool⟩
  rw [get_wipe, wipe_get]
  by_cases e : j ∈ vs
  · rw [if_pos e, if_pos e]; trivial
  · rw [if_neg e, if_neg e]; exact h.slot j
theorem wipe_idem : L2.wipe (L2.wipe σ vs) vs = L2.wipe σ vs := by
  apply List.ext_getElem?
  intro j
  rw [wipe_get, wipe_get]
  by_cases e : j ∈ vs
  · rw [if_pos e, if_pos e, wipe_length]
  · rw [if_neg e, if_neg e]
theorem back_aux {g : Nat → SV} {j : Nat} : ∀ {vs : List Nat} {l : List SV}, (vs.foldl (fun l i => l.set i (g i)) l)[j]? = if j ∈ vs then (if j < l.length then some (g j) else none) else l[j]?
  | [], l => by simp
  | v :: vs, l => by
    rw [List.foldl_cons, @back_aux g j vs (l.set v (g v)), List.length_set]
    by_cases e : v = j
    · subst e
      by_cases m : v ∈ vs
      · rw [if_pos m, if_pos List.mem_cons_self]
      · rw [if_neg m, if_pos List.mem_cons_self]
        by_cases h : v < l.length
        · rw [if_pos h, List.getElem?_set_self h]
        · rw [if_neg h, List.getElem?_eq_none (by rw [List.length_set]; omega)]
    · have : (j ∈ v :: vs) ↔ j ∈ vs := by simp [Ne.symm e]
      simp only [this, List.getElem?_set_ne e]
theorem get_back {ρ0 : PEnv} {j : Nat} (hl : ρ0.sl.length = ρ.sl.length) : (PEnv.back ρ0 ρ vs).get j = if j ∈ vs then ρ0.get j else ρ.get j := by
  unfold PEnv.back
  show List.getD (vs.foldl _ ρ.sl) j .no = _
  rw [List.getD_eq_getElem?_getD, back_aux (g := ρ0.get)]
  by_cases e : j ∈ vs
  · rw [if_pos e, if_pos e]
    by_cases h : j < ρ.sl.length
    · rw [if_pos h]; rfl
    · rw [if_neg h]
      unfold PEnv.get
      rw [List.getD_eq_getElem?_getD, List.getElem?_eq_none (by omega)]
  · rw [if_neg e, if_neg e]
    unfold PEnv.get
    rw [List.getD_eq_getElem?_getD]
theorem back_len {ρ0 : PEnv} : (PEnv.back ρ0 ρ vs).sl.length = ρ.sl.length := by
  unfold PEnv.back
  show (vs.foldl _ ρ.sl).length = _
  generalize ρ.sl = l
  induction vs generalizing l with
  | nil => rfl
  | cons v vs ih => rw [List.foldl_cons, ih, List.length_set]
theorem plain_at (h : ρ.plainAt vs = true) {i : Nat} (hi : i ∈ vs) : (ρ.get i).plain = true := List.all_eq_true.mp h i hi
theorem Rel.back {ρ0 : PEnv} {F0 H0 : Hp} (h0 : Rel k ρ0 σ F0 H0) (pl : ∀ i ∈ vs, (ρ0.get i).plain = true) (h : Rel k ρ (L2.wipe σ vs) F H) (s : Same F0 F) : Rel k (PEnv.back ρ0 ρ vs) σ F H ∧ ∀ i a, OwnAt (PEnv.back ρ0 ρ vs) σ i a → OwnAt ρ (L2.wipe σ vs) i a := by
  have hl : ρ0.sl.length = ρ.sl.length := by rw [h0.len, h.len, wipe_length]
  have ow : ∀ i a, OwnAt (PEnv.back ρ0 ρ vs) σ i a → OwnAt ρ (L2.wipe σ vs) i a := fun i a ⟨h1, h2⟩ => by
    rw [get_back hl] at h1
    by_cases e : i ∈ vs
    · rw [if_pos e, pl i e] at h1; cases h1
    · rw [if_neg e] at h1
      exact ⟨h1, by rw [wipe_get, if_neg e]; exact h2⟩
  refine ⟨⟨by rw [back_len, h.len, wipe_length], h.sub, fun j => ?_, fun i j a x y => h.inj i j a (ow i a x) (ow j a y), h.pool⟩, ow⟩
  rw [get_back hl]
  by_cases e : j ∈ vs
  · rw [if_pos e]
    have z := h0.slot j
    have q := pl j e
    cases eg : ρ0.get j with
    | no => trivial
    | val d => rw [eg] at z; obtain ⟨v, e1, e2⟩ := z; exact ⟨v, e1, e2.mono s⟩
    | own xs => rw [eg] at q; cases q
    | owd xs => rw [eg] at q; cases q
  · rw [if_neg e]
    have z := h.slot j
    rw [wipe_get, if_neg e] at z
    exact z
end
section
variable {X : Cx} {k : RC} {C : PC} {pos : Pos}
theorem SameX.trans' {H1 H2 : Hp} {a : Addr} {o : HO} (h : SameX k H1 H2) (hn : H1 a = none) : SameX k H1 (upd H2 a o) := fun b u e n => by
  rw [upd_ne (ne_of_none e hn)]; exact h b u e n
structure NewD (k : RC) (ρ : PEnv) (σ : L2.St) (F H : Hp) (D : Addr) (acc : List PL.D) : Prop where
  at_ : ∃ vs, H D = some (.lst vs) ∧ Rs k F vs acc
  fn : F D = none
  np : ¬ inP' k D
  no : ∀ i, ¬ OwnAt ρ σ i D
theorem NewD.next {ρ ρ' : PEnv} {σ : L2.St} {F F' H H' : Hp} {D : Addr} {acc : List PL.D} (n : NewD k ρ σ F H D acc) (e : ETr k ρ σ F H ρ' F' H') : NewD k ρ' σ F' H' D acc := by
  obtain ⟨vs, h1, h2⟩ := n.at_
  exact ⟨⟨vs, e.heap _ _ h1 fun z => n.np z.inP, h2.mono e.sub⟩, (e.vis D (by rw [h1]; simp) n.no).trans n.fn, n.np, fun i z => n.no i (e.own i D z)⟩
theorem NewD.slots {ρ ρ' : PEnv} {σ σ' : L2.St} {F H : Hp} {D : Addr} {acc : List PL.D} (n : NewD k ρ σ F H D acc) (h : ∀ i a, OwnAt ρ' σ' i a → OwnAt ρ σ i a) : NewD k ρ' σ' F H D acc :=
  ⟨n.at_, n.fn, n.np, fun i z => n.no i (h i D z)⟩
theorem NewD.push {ρ : PEnv} {σ : L2.St} {F H : Hp} {D : Addr} {acc : List PL.D} {ws : List V} {v : V} {d : PL.D} (n : NewD k ρ σ F H D acc) (h : H D = some (.lst ws)) (r : R k F v d) : NewD k ρ σ F (upd H D (.lst (ws ++ [v]))) D (acc ++ [d]) := by
  obtain ⟨vs, h1, h2⟩ := n.at_
  have := h1.symm.trans h
  cases this
  exact ⟨⟨_, upd_same, h2.append (.cons r .nil)⟩, n.fn, n.np, n.no⟩
theorem lc_sem {vs : List Nat} {tg : Tg} {tp : Bool} {it ic ie : IE} {σ : L2.St} {H : Hp} {Q : VK} (htp : tp = true → ∃ is, tg = .tp is) (htg : ∀ i ∈ tg.slots, i ∈ vs) (h : tE C k (.comp vs tg it ic ie) σ H Q) : tLc (tI C k true tp it) (tG k tg) (tT C k ic) (tE C k ie) vs σ H Q := by
  obtain ⟨ρ, F, QQ, rel, ⟨hpl, wp⟩, fin⟩ := h
  refine ⟨ρ, F, _, rel, wp, fun ds ρ1 F1 H1 J rel1 tr1 itok q => fun D hD => ?_⟩
  have hpl1 : ∀ i ∈ vs, (ρ1.get i).plain = true := fun i hi => by
    cases e : (ρ1.get i).plain with
    | true => rfl
    | false =>
      obtain ⟨a, e1, _⟩ := SlotR.here (x := none) (rel1.slot i) e
      have := (tr1.own i a ⟨e, e1⟩).1
      rw [plain_at hpl hi] at this
      cases this
  have hn : H D = none := none_back tr1.there hD
  have relw := (rel1.wipe (vs := vs)).newH (o := .lst []) hD
  have btr : BTr k ρ σ F H (ρ1.wipe vs) (L2.wipe σ vs) F1 (upd H1 D (.lst [])) := (tr1.b.slots fun i a z => (own_wipe z).1).write hn
  have nd : NewD k (ρ1.wipe vs) (L2.wipe σ vs) F1 (upd H1 D (.lst [])) D [] := ⟨⟨[], upd_same, .nil⟩, rel1.fnone hD, rel1.nopN hD, fun i z => by
    have := rel1.ownH (own_wipe z).1
    exact this hD⟩
  refine ⟨fun i m H' => m = ds.length - i ∧ i ≤ ds.length ∧ ∃ ρt F' acc, Rel k ρt (L2.wipe σ vs) F' H' ∧ BTr k ρ σ F H ρt (L2.wipe σ vs) F' H' ∧ Same F1 F' ∧ SameX k H1 H' ∧ NewD k ρt (L2.wipe σ vs) F' H' D acc ∧
      compL vs tg (wpE C ic) (wpE C ie) (ds.drop i) ρt acc (fun acc ρ2 => QQ (.own acc) (ρ1.back ρ2 vs)),
    ⟨ds.length, by simp, by omega, ρ1.wipe vs, F1, [], relw, btr, fun _ _ h => h, .of (Same.upd_new hD), nd, q⟩, ?_⟩
  rintro i m H' ⟨rfl, hi, ρt, F', acc, rel', tr', sub', heap', nd', q'⟩
  obtain ⟨i1, i2⟩ := itok F' H' ⟨sub', fun _ => heap', rel'.sub⟩ i
  by_cases hlt : i < ds.length
  · obtain ⟨go, yl⟩ := i2 ds[i] (List.getElem?_eq_getElem hlt)
    rw [List.drop_eq_getElem_cons hlt] at q'
    refine .inr ⟨go, fun H2 => ∃ ρt F' acc, Rel k ρt (L2.wipe σ vs) F' H2 ∧ BTr k ρ σ F H ρt (L2.wipe σ vs) F' H2 ∧ Same F1 F' ∧ SameX k H1 H2 ∧ NewD k ρt (L2.wipe σ vs) F' H2 D acc ∧
      compL vs tg (wpE C ic) (wpE C ie) (ds.drop (i + 1)) ρt acc (fun acc ρ2 => QQ (.own acc) (ρ1.back ρ2 vs)), fun H2 h => ⟨_, (by omega : ds.length - (i + 1) < ds.length - i), rfl, hlt, h⟩, fun x H'' y => ?_⟩
    obtain ⟨sH, iok⟩ := yl x H'' y
    have k0 : ETr k ρt (L2.wipe σ vs) F' H' ρt F' H'' := .keepH sH
    have rel2 := rel'.keepH sH
    refine ⟨ρt, F', ds[i], _, rel2, ?_, q', fun ρ3 σ3 rel3 tt q3 => ?_⟩
    · rcases iok with r | ⟨h1, T, ws, es, h2, h3, h4, h5⟩
      · exact .inl r
      · obtain ⟨is, e⟩ := htp h1
        exact .inr ⟨is, T, ws, es, e, h2, h3, h4, h5⟩
    · have w3 : L2.wipe σ3 vs = L2.wipe σ vs := (tt.wp vs htg).trans wipe_idem
      refine ⟨w3, ρ3, F', _, rel3, q3, fun b ρ4 F4 H4 rel4 tr4 ⟨b', eb, q4⟩ => ?_⟩
      cases eb
      have nd4 := ((nd'.next k0).slots tt.own).next tr4
      have tr4' := ((tr'.next k0).slots tt.own).next tr4
      have sub4 : Same F1 F4 := fun b o e => tr4.sub b o (sub' b o e)
      have heap4 : SameX k H1 H4 := (heap'.trans k0.heap).trans tr4.heap
      -- the turn's end
      have ends : ∀ {ρ6 F6 H6 acc6}, Rel k ρ6 σ3 F6 H6 → BTr k ρ σ F H ρ6 σ3 F6 H6 → NewD k ρ6 σ3 F6 H6 D acc6 → Rel k (ρ6.wipe vs) (L2.wipe σ vs) F6 H6 ∧ BTr k ρ σ F H (ρ6.wipe vs) (L2.wipe σ vs) F6 H6 ∧ NewD k (ρ6.wipe vs) (L2.wipe σ vs) F6 H6 D acc6 := fun {ρ6 F6 H6 acc6} r t n => by
        rw [← w3]
        exact ⟨r.wipe, t.slots fun i a z => (own_wipe z).1, n.slots fun i a z => (own_wipe z).1⟩
      cases b with
      | false =>
        rw [brn_ite, if_neg Bool.false_ne_true] at q4; rw [if_neg Bool.false_ne_true]
        obtain ⟨e1, e2, e3⟩ := ends rel4 tr4' nd4
        exact ⟨_, _, _, e1, e2, sub4, heap4, e3, q4⟩
      | true =>
        rw [brn_ite, if_pos rfl] at q4; rw [if_pos rfl]
        refine ⟨ρ4, F4, _, rel4, q4, fun r ρ5 v F5 H5 p q5 => ?_⟩
        obtain ⟨d, F6, ⟨q6, q7⟩, _, rd, rel6, tr6⟩ := p.keep rel4 q5
        have nd6 := nd4.next tr6
        obtain ⟨ws, v1, v2⟩ := nd6.at_
        refine ⟨ws, v1, by rw [v2.length]; exact q6, ?_⟩
        have nd7 := nd6.push v1 rd
        obtain ⟨e1, e2, e3⟩ := ends (rel6.writeD nd6.no nd6.fn nd6.np) ((tr4'.next tr6).write hn) nd7
        refine ⟨_, _, _, e1, e2, fun b o e => tr6.sub b o (sub4 b o e), ?_, e3, q7⟩
        exact (heap4.trans tr6.heap).trans' hD
  · have e : i = ds.length := by omega
    subst e
    rw [List.drop_length] at q'
    refine .inl ⟨i1 rfl, ?_⟩
    obtain ⟨r1, r2⟩ := rel1.back hpl1 rel' sub'
    have nd2 := nd'.slots r2
    obtain ⟨ws, v1, v2⟩ := nd2.at_
    exact fin (.own acc) _ _ _ _ ⟨r1, (tr'.slots r2).e, D, rfl, hn, ws, v1, nd2.fn, nd2.np, v2⟩ q'
end
end PL
namespace PL
open PySem PySem.Spec PyProof.Rows L2 PySem.W SeqAt
section
variable {prog : Program} {w : World} {A : Around} {s : Shared}
theorem oneLt_tups {xs ys : List PyData} {a b : Value} {as bs : List Addr} {Q : Bool → Shared → Prop} {E : Value → Shared → Prop} (ra : Reads s.heap a (.tuple xs) as) (rb : Reads s.heap b (.tuple ys) bs) (hal : alikeAll xs ys = true)
    (hu : A.units + min (PyData.tuple xs).depth (PyData.tuple ys).depth < cLine) (hq : Q (dataLt (.tuple xs) (.tuple ys)) s) : wpAny (model prog w) A (oneLt' true a b) Q E s := by
  cases ra with
  | @tuple l o vs n _ as₁ h1 h2 h3 h4 =>
    cases rb with
    | @tuple l' o' vs' n' _ bs₁ k1 k2 k3 k4 =>
      have n1 : vs.size = xs.length := by simpa using SeqAt.ReadsAll.length _ _ _ h4
      have n2 : vs'.size = ys.length := by simpa using SeqAt.ReadsAll.length _ _ _ k4
      rw [dataLt_tuple] at hq
      rw [oneLt'_eq]
      simp only [if_true]
      refine wpAny_bind (wpAny_cRoomFor (SeqAt.room_here hu) ?_)
      obtain ⟨cls, dd, data, sl⟩ := o
      obtain ⟨cls2, dd2, data2, sl2⟩ := o'
      simp only at h2 h3 k2 k3
      subst h2 h3 k2 k3
      refine wpAny_bind (wpAny_callSpecialIfBound?_slot (T := "tuple") ⟨_, h1, rfl⟩ F.slot_tuple_lt (call_meets F.slot_tuple_lt ⟨_, h1, rfl⟩ F.entry_tuple_lt (F.args_tuple_lt_2 _ _)
        (SeqAt.tuple_ltAt l l' vs vs' n n' dd dd2 sl sl2 (pairEq xs ys) (fun j => dataLt (xs.getD j .none) (ys.getD j .none))) ⟨h1, k1, fun j j1 j2 => ?_, fun j j1 j2 hj => ?_, ?_⟩))
      · have := eqAt_alikeAll xs ys A.in1 s vs.toList vs'.toList _ _ h4 k4 hal (SeqAt.room_in hu) j (by simpa using j1) (by simpa using j2)
        simpa using this
      · have := rcLt_alikeAll xs ys A.in1 s vs.toList vs'.toList _ _ h4 k4 hal (SeqAt.room_in hu) j (by simpa using j1) (by simpa using j2) hj
        simpa using this
      · rw [← firstLt_toks xs ys hal, ← n1, ← n2] at hq
        exact wpAny_truthy_bool hq
theorem firsts_map : ∀ {vs : List Value} {ds : List PyData}, EachIs (fun v d => ∃ as, Reads s.heap v d as) vs ds → (∀ d ∈ ds, ∃ xs, d = .tuple xs) →
    ∃ fs : List (Option Value), (∀ (E : Value → Shared → Prop) (Q : List (Option Value) → Shared → Prop), Q fs s → wpAny (model prog w) A (vs.mapM firstOfTuple') Q E s) ∧ ((∃ d ∈ ds, d = .tuple []) → none ∈ fs)
  | _, _, .nil, _ => ⟨[], fun E Q h => by rw [List.mapM_nil]; exact wpAny_pure h, fun ⟨d, hd, _⟩ => by simp at hd⟩
  | _, _, .cons (a := v) (b := d) (as := vs) (bs := ds) ⟨as, r⟩ t, ht => by
    obtain ⟨fs, h1, h2⟩ := firsts_map t fun d hd => ht d (List.mem_cons_of_mem _ hd)
    obtain ⟨xs, rfl⟩ := ht d (List.mem_cons_self ..)
    cases r with
    | @tuple l o its n _ as₁ g1 g2 g3 g4 =>
      refine ⟨its[0]? :: fs, fun E Q h => ?_, fun ⟨d', hd', e⟩ => ?_⟩
      · rw [List.mapM_cons]
        refine wpAny_bind ?_
        rw [kas_first_eq]
        refine wpAny_bind (Looks.here (show Looks (model prog w) s.heap (typeOf (.ref l)) o.cls from (Looks.ld g1).andThen .now) ?_)
        rw [g2, if_neg (by first | decide | simp)]
        refine wpAny_bind (listItems_at g1 g3 (wpAny_pure ?_))
        exact wpAny_bind (h1 E (fun bs s' => wpAny (model prog w) A (pure (its[0]? :: bs)) Q E s') (wpAny_pure h))
      · rcases List.mem_cons.mp hd' with q | q
        · rw [q] at e
          cases e
          have : its.size = 0 := by simpa using SeqAt.ReadsAll.length _ _ _ g4
          have z : its[0]? = none := by simp [this]
          rw [z]
          exact List.mem_cons_self ..
        · exact List.mem_cons_of_mem _ (h2 ⟨d', q, e⟩)
theorem sorts_tups {vs : List Value} {ds : List PyData} (e : EachIs (fun v d => ∃ as, Reads s.heap v d as) vs ds) (hal : AllAlike ds) (ht : ∀ d ∈ ds, ∃ xs, d = .tuple xs) (hm : ∃ d ∈ ds, d = .tuple []) (hu : ∀ d, d ∈ ds → A.units + d.depth < cLine) : SortsAt prog w A s (dataKind s.heap ds) vs := by
  have room : ∀ {d d' : PyData}, d ∈ ds → A.units + min d.depth d'.depth < cLine := fun {d d'} hd => Nat.lt_of_le_of_lt (Nat.add_le_add_left (Nat.min_le_left _ _) _) (hu d hd)
  refine ⟨fun v hv => ?_, ?_⟩
  · obtain ⟨d, hd, as, r⟩ := e.left v hv
    exact ⟨_, dataKind_some hal hd r⟩
  · have lt1 : H.LtAt prog w A s (dataKind s.heap ds) general' := fun E x y a b Q ha hb hq => by
      obtain ⟨d, as, hd, ra, rfl⟩ := dataKind_inv ha
      obtain ⟨d', as', hd', rb, rfl⟩ := dataKind_inv hb
      show wpAny (model prog w) A (oneLt' false x y) Q E s
      have hn : d ≠ .none := by obtain ⟨xs, e⟩ := ht d hd; rw [e]; simp
      exact oneLt_alike (fun z => by cases z) ra rb (hal d hd d' hd') hn (room hd) hq
    have lt2 : H.LtAt prog w A s (dataKind s.heap ds) oneType' := fun E x y a b Q ha hb hq => by
      obtain ⟨d, as, hd, ra, rfl⟩ := dataKind_inv ha
      obtain ⟨d', as', hd', rb, rfl⟩ := dataKind_inv hb
      rw [keyLt'_oneType]
      have h1 := hal d hd d' hd'
      have h2 := room (d' := d') hd
      obtain ⟨xs, rfl⟩ := ht d hd
      obtain ⟨ys, rfl⟩ := ht d' hd'
      exact oneLt_tups ra rb (by simpa [alike] using h1) h2 hq
    -- which of the two it is depends on the first item alone
    obtain ⟨fs, f1, f2⟩ := firsts_map (prog := prog) (w := w) (A := A) e ht
    have hn := f2 hm
    have hall : ¬ (fs.toArray.all fun x => x.isSome) = true := fun q => by
      simp only [List.all_toArray, List.all_eq_true] at q
      have := q none hn
      cases this
    cases hf : ((fs.toArray[0]?).bind id).isSome with
    | true =>
      refine ⟨general', lt1, fun _ E Q hq => ?_⟩
      rw [keyKind'_eq, List.mapM_toArray, map_eq_pure_bind]
      refine wpAny_bind (wpAny_bind (f1 E _ (wpAny_pure ?_)))
      rw [if_neg hall, if_pos hf]
      exact wpAny_pure hq
    | false =>
      refine ⟨oneType', lt2, fun h2 E Q hq => ?_⟩
      rw [keyKind'_eq, List.mapM_toArray, map_eq_pure_bind]
      refine wpAny_bind (wpAny_bind (f1 E _ (wpAny_pure ?_)))
      rw [if_neg hall, if_neg (by rw [hf]; exact Bool.false_ne_true)]
      rw [oneTypeOnly'_eq, List.mapM_toArray, map_eq_pure_bind]
      refine wpAny_bind (wpAny_bind (wpAny_bind (kas_mapM (r := Value.type "tuple") _ (fun v hv Q' hq => ?_) (wpAny_pure ?_))))
      · obtain ⟨d, hd, as, r⟩ := e.left v hv
        obtain ⟨xs, rfl⟩ := ht d hd
        exact (looks_reads r).here hq
      · have hall2 : ((List.map (fun _ => Value.type "tuple") vs).toArray.all fun x => x == Value.type "tuple") = true := by
          simp only [List.all_toArray, List.all_map, List.all_eq_true]
          intro _ _
          exact beq_self_eq_true _
        have h0 : (List.map (fun _ => Value.type "tuple") vs).toArray[0]? = some (Value.type "tuple") := by
          cases vs with
          | nil => simp at h2
          | cons v vs => simp
        rw [h0]
        simp only [hall2, if_true]
        exact wpAny_pure (wpAny_pure hq)
theorem sorts_all {vs : List Value} {ds : List PyData} (e : EachIs (fun v d => ∃ as, Reads s.heap v d as) vs ds) (hal : AllAlike ds) (hno : ∀ d ∈ ds, d ≠ .none) (hu : ∀ d, d ∈ ds → A.units + d.depth < cLine) : SortsAt prog w A s (dataKind s.heap ds) vs := by
  by_cases ht : ∀ d ∈ ds, ∃ xs, d = .tuple xs
  · by_cases hm : ∃ d ∈ ds, d = .tuple []
    · exact sorts_tups e hal ht hm hu
    · refine SortsAt.data e hal (.inl fun d hd => ?_) hu
      obtain ⟨xs, rfl⟩ := ht d hd
      cases xs with
      | nil => exact absurd ⟨_, hd, rfl⟩ hm
      | cons x r => exact ⟨x, r, rfl⟩
  · refine SortsAt.data e hal (.inr fun d hd => ⟨hno d hd, fun xs ex => ht fun d' hd' => ?_⟩) hu
    have q := hal d hd d' hd'
    rw [ex] at q
    cases d' <;> simp [alike] at q
    exact ⟨_, rfl⟩
theorem sorts_conv {h0 : Heap} {vs : List Value} {ds : List PyData} (kp : ∀ b o, h0.get? b = some o → s.heap.get? b = some o) (hal : AllAlike ds) (e0 : EachIs (fun v d => ∃ as, Reads h0 v d as) vs ds) (S : SortsAt prog w A s (dataKind s.heap ds) vs) : SortsAt prog w A s (dataKind h0 ds) vs := by
  obtain ⟨kd, lt, kk⟩ := S.kind
  have conv : ∀ {x : Value} {a}, (dataKind h0 ds).keyOf x = some a → (dataKind s.heap ds).keyOf x = some a := fun {x a} ha => by
    obtain ⟨d, as, hd, ra, rfl⟩ := dataKind_inv ha
    exact dataKind_some hal hd (PyProof.Rows.Reads.keeps kp ra)
  refine ⟨fun v hv => ?_, kd, fun E x y a b Q ha hb hq => lt E x y a b (conv ha) (conv hb) hq, kk⟩
  obtain ⟨d, hd, as, r⟩ := e0.left v hv
  exact ⟨_, dataKind_some hal hd r⟩
theorem sorted_src {E : Value → Shared → Prop} {v : Value} {vs : List Value} {κ : PyProof.Rows.KeyKind} {Q : Value → Shared → Prop} (hL : vs.length ≤ sizeLine)
    (hcol : ∀ (E : Value → Shared → Prop) (Q' : List Value → Shared → Prop), (∀ h' tk, (∀ b o, s.heap.get? b = some o → h'.get? b = some o) → Q' vs { s with heap := h', toks := tk }) → wpAny (model prog w) A.in1 (collect v) Q' E s)
    (hS : ∀ h' tk, (∀ b o, s.heap.get? b = some o → h'.get? b = some o) → SortsAt prog w A.in1.in1 { s with heap := h', toks := tk } κ vs)
    (h : ∀ (h1 h' : Heap) tk n, (∀ b o, s.heap.get? b = some o → h1.get? b = some o) → (∀ b o, h1.get? b = some o → h'.get? b = some o) → h'.get? h1.objs.size = some (seqObj "list" (sortVals κ false vs vs).toArray n) → Q (.ref h1.objs.size) { s with heap := h', toks := tk }) :
    wpAny (model prog w) A (call (.builtin "sorted") [v]) Q E s := by
  refine Calls.call_function_entry kind_sorted plain_sorted entry_sorted (args_sorted1 _) ?_
  unfold Builtin.«sorted»
  refine wpAny_bind (m := checkCount "sorted" 1 1 _) (wpAny_pure ?_)
  refine wpAny_bind (hcol _ _ fun h1 tk k1 => ?_)
  refine wpAny_bind (wpAny_newList ?_ hL)
  have hoL : (h1.push (seqObj "list" vs.toArray 0)).get? h1.objs.size = some (seqObj "list" vs.toArray 0) := Heap.get?_push_size _ rfl
  have hne : ∀ {b o}, h1.get? b = some o → b ≠ h1.objs.size := fun e => Nat.ne_of_lt (Heap.lt_size e)
  have keep : ∀ b o, h1.get? b = some o → (h1.push (seqObj "list" vs.toArray 0)).get? b = some o := fun b o e => Heap.get?_push_of_some _ e
  refine wpAny_bind (wpAny_holding (wpAny_call_entry slot_list_sort ⟨_, hoL, rfl⟩ entry_list_sort ?body (args_list_sort _)))
  case body =>
    refine list_sort_vals (s := { s with heap := h1.push (seqObj "list" vs.toArray 0), toks := tk }) hoL (hS _ _ fun b o e => sortingHeap_old (hne (k1 _ _ e)) (keep b o (k1 _ _ e))) hL ⟨_, rfl, wpAny_pure ⟨_, rfl, ?_⟩⟩
    obtain ⟨n, hn⟩ := sortedHeap_at (vs := vs) (out := (sortVals κ false vs vs).toArray) hoL
    exact h h1 _ _ n k1 (fun b o e => (sortedHeap_old (hne e) (Heap.lt_size (keep b o e))).trans (keep b o e)) hn
end
section
variable {X : Cx} {k : RC}
theorem each_dp {pins : List (Addr × Obj)} {s : Shared} {σ : L2.St} {H : Hp} (hK : k.K = X.K) (I : Inv X pins σ H s) {F : Hp} (sub : Same F H) : ∀ {vs : List V} {ds : List D} {us : List Value}, Rs k F vs ds → Vals vs us → (∀ d ∈ ds, shp d = true) →
    EachIs (fun u d => ∃ as, Reads s.heap u (D.py d) as) us ds ∧ EachIs (fun u d => ∃ v, RelV v u ∧ R k F v d) us ds
  | _, _, _, .nil, .nil, _ => ⟨.nil, .nil⟩
  | _, _, _, .cons r rr, .cons v vv, h => by
    obtain ⟨h1, h2⟩ := each_dp hK I sub rr vv fun d hd => h d (List.mem_cons_of_mem _ hd)
    have dp := (r.mono sub).dp (SeqAt.canLay_of_shaped (h _ (List.mem_cons_self ..)))
    rw [hK] at dp
    exact ⟨.cons (Dp.reads I _ _ _ dp v) h1, .cons ⟨_, v, r⟩ h2⟩
theorem each_back {F : Hp} : ∀ {us : List Value} {ds : List D}, EachIs (fun u d => ∃ v, RelV v u ∧ R k F v d) us ds → ∃ vs, Vals vs us ∧ Rs k F vs ds
  | _, _, .nil => ⟨[], .nil, .nil⟩
  | _, _, .cons ⟨v, h1, h2⟩ t => by
    obtain ⟨vs, h3, h4⟩ := each_back t
    exact ⟨v :: vs, .cons h1 h3, .cons h2 h4⟩
theorem sort_go (hX : XOk X k) {pins : List (Addr × Obj)} {s : Shared} {σ : L2.St} {F H : Hp} {Q : VK} {u : Value} {us : List Value} {vs : List V} {ds : List D} (I : Inv X pins σ H s) (sub : Same F H) (rs : Rs k F vs ds) (rv : Vals vs us) (hz : vs.length ≤ sizeLine)
    (so : sortable ds)
    (hcol : ∀ (E : Value → Shared → Prop) (Q' : List Value → Shared → Prop), (∀ h' tk, (∀ b o, s.heap.get? b = some o → h'.get? b = some o) → Q' us { s with heap := h', toks := tk }) → wpAny (model X.prog X.w) X.A.in1 (collect u) Q' E s)
    (fin : ∀ p ws, H p = none → Rs k F ws (sortD ds) → Q (.ref p) (upd H p (.lst ws))) : wpAny (model X.prog X.w) X.A (call (.builtin "sorted") [u]) (EP X pins σ Q) X.xe s := by
  obtain ⟨so1, so2⟩ := so
  have un := hX.room.un
  have key : ∀ h' tk, (∀ b o, s.heap.get? b = some o → h'.get? b = some o) → EachIs (fun u d => ∃ as, Reads h' u (D.py d) as) us ds := fun h' tk kp =>
    (each_dp hX.K (I.kept (t' := tk) kp) sub rs rv fun d hd => (so1 d hd).1).1
  have e2 := (each_dp hX.K I sub rs rv fun d hd => (so1 d hd).1).2
  have hal : AllAlike (ds.map D.py) := fun d hd d' hd' => by
    obtain ⟨x, hx, rfl⟩ := List.mem_map.mp hd
    obtain ⟨y, hy, rfl⟩ := List.mem_map.mp hd'
    exact so2 x hx y hy
  -- the kind of keys is told at the heap of now
  refine sorted_src (κ := dataKind s.heap (ds.map D.py)) (by rw [← rv.length]; exact hz) hcol (fun h' tk kp => ?_) fun h1 h' tk n k1 k2 hn => ?_
  · refine sorts_conv (h0 := s.heap) kp hal (each_map (R := fun v d => ∃ as, Reads s.heap v d as) D.py (key s.heap s.toks fun _ _ e => e)) (sorts_all (s := { s with heap := h', toks := tk }) (each_map (R := fun v d => ∃ as, Reads h' v d as) D.py (key h' tk kp)) hal (fun d hd => ?_) fun d hd => ?_)
    · obtain ⟨x, hx, rfl⟩ := List.mem_map.mp hd
      exact (so1 x hx).2
    · obtain ⟨x, hx, rfl⟩ := List.mem_map.mp hd
      have := SeqAt.depth_of_shaped (so1 x hx).1
      show X.A.units + 1 + 1 + _ < _
      omega
  · have out := sortVals_data (h' := s.heap) (R := fun u d => ∃ v, RelV v u ∧ R k F v d) (enc := D.py) false e2 (key s.heap s.toks fun _ _ e => e) hal
    obtain ⟨ws, w1, w2⟩ := each_back out
    have I1 : Inv X pins σ H { s with heap := h1, toks := tk } := I.kept k1
    have hl : ws.length ≤ sizeLine := by
      rw [w2.length]
      show (ds.mergeSort leB).length ≤ _
      rw [List.length_mergeSort, ← rs.length]; exact hz
    refine ⟨.ref h1.objs.size, upd H h1.objs.size (.lst ws), I1.laid k2 (Nat.le_refl _) ⟨hl, _, n, w1, hn⟩, rfl, fin _ _ (I1.hok.fresh (Nat.le_refl _)) w2⟩
theorem cb_sorted (hX : XOk X k) : CallR X (.builtin "sorted") (rBlt k (bltP .sorted)) := by
  intro pins s σ H xs us Q I r ⟨ρ, σ', F, ds, QQ, rel, br, wp, fin⟩
  have hK := hX.K
  match ds, br, wp with
  | [.lst xs], br, wp =>
    obtain ⟨x, rfl, b⟩ := brs1 br
    obtain ⟨a, vs, rfl, t, q⟩ := b.lst rel.sub
    obtain ⟨u, rfl, rx⟩ := vals1 r
    cases rx
    obtain ⟨its, rv, pl, hz⟩ := I.list (.of t)
    have hlen := rv.length
    obtain ⟨o, ho, hc, n, hd⟩ := pl.isList
    exact sort_go hX I rel.sub q rv hz wp.1 (fun E Q' h => wpAny_collect_seq a (.inl rfl) ho hc hd (fun h' kp => by simpa using h h' s.toks kp) (by simp only [List.size_toArray] <;> omega)) fun p ws hn w2 => fin _ _ _ _ (.newL rel .refl hn w2) wp.2
  | [.tup xs], br, wp =>
    obtain ⟨x, rfl, b⟩ := brs1 br
    obtain ⟨a, vs, rfl, t, q⟩ := b.tup
    obtain ⟨u, rfl, rx⟩ := vals1 r
    cases rx
    have sq := (t.mono rel.sub).sq
    rw [hK] at sq
    obtain ⟨its, rv, pl, hz⟩ := I.tuple sq
    have hlen := rv.length
    obtain ⟨o, ho, hc, n, hd⟩ := pl
    exact sort_go hX I rel.sub q rv hz wp.1 (fun E Q' h => wpAny_collect_seq a (.inr rfl) ho hc hd (fun h' kp => by simpa using h h' s.toks kp) (by simp only [List.size_toArray] <;> omega)) fun p ws hn w2 => fin _ _ _ _ (.newL rel .refl hn w2) wp.2
  | [.dct kvs], br, wp =>
    obtain ⟨x, rfl, b⟩ := brs1 br
    obtain ⟨a, es, rfl, g1, g2, g3, g4⟩ := b.dct rel.sub
    obtain ⟨u, rfl, ru⟩ := vals1 r
    cases ru
    obtain ⟨o, ep, h1, h2, h3, h4, h5⟩ := dct_at I g1
    obtain ⟨vs, q1, q2⟩ := rk_keys g2
    have hl : vs.length = es.length := by rw [q1.length, List.length_map, g2.length]
    refine sort_go hX I rel.sub q1 q2 (by omega) wp.1 (fun E Q' h => ?_) fun p ws hn w2 => fin _ _ _ _ (.newL rel .refl hn w2) wp.2
    refine PySem.W.kdu_collect (kdl_raw h4 h2 h3) (show X.A.in1.handled = none from I.ok.hd hX.calm) h1 (by simpa using h5) fun h' tk acc' kp it => ?_
    have ea : acc'.toList = es.map (·.key) := by
      have hl : acc'.toList.length = es.length := by rw [Array.length_toList, it.1]; simp
      apply List.ext_getElem?
      intro j
      rw [List.getElem?_map]
      cases hj : acc'.toList[j]? with
      | none =>
        have := List.getElem?_eq_none_iff.mp hj
        rw [List.getElem?_eq_none (by omega)]
        rfl
      | some v =>
        obtain ⟨en, hen, hv⟩ := it.2 j v (by rw [← Array.getElem?_toList]; exact hj)
        have hen : es[j]? = some en := by simpa using hen
        rw [hen, hv]; rfl
    rw [ea]
    exact h h' tk kp
end
end PL
namespace PL
open PySem PySem.Spec PyProof.Rows L2
section
variable {X : Cx} {k : RC} {C : PC} {pos : Pos}
theorem qe_isi (hX : XOk X k) {t : Ty} {a : Expr} {ia : IE} {p p2 : Pos} {xt : Str} (hg : Gl X "isinstance") (hm : X.mg "isinstance" = none) (hgt : Gl X xt) (hmt : X.mg xt = none) (hvt : bootBuiltins xt = some (.type (tyName t))) (hnt : xt ≠ "__name__") (hdt : (xt == ("__debug__" : Str)) = false)
    (ha : PE X a (tE C k ia)) (he : starEach [a, .Name xt p2] X.env = (false, eval a X.env) :: starEach [.Name xt p2] X.env) :
    PE X (.Call (.Name "isinstance" p) [a, .Name xt p2] [] pos) (tE C k (.isi ia t)) :=
  weak (pe_callB (cb_isi hX t) hg hm boot_isinstance (pa_cons ha (pa_cons (pe_bltn (v := .ty (tyName t)) hgt hmt hvt rfl hnt hdt) pa_nil) he) (by decide) (by decide) he rfl) fun σ H Q ⟨ρ, F, QQ, rel, wp, fin⟩ =>
    ⟨ρ, F, _, rel, wp, fun r ρ1 v F1 H1 p ⟨h1, q⟩ => ⟨ρ1, σ, F1, r.toD, v, p.rel, p.lent, rfl, h1, fin _ _ _ _ _ (p.then (.flat p.rel .refl (.bl _))) q⟩⟩
theorem idx_find {xs : List D} {y : D} {j : Nat} (h : idxOfD xs y = some j) : ∃ z, xs[j]? = some z ∧ deq z y = true ∧ ∀ m z', m < j → xs[m]? = some z' → deq z' y = false := by
  unfold idxOfD at h
  obtain ⟨h1, h2, h3⟩ := List.findIdx?_eq_some_iff_getElem.mp h
  refine ⟨xs[j], List.getElem?_eq_getElem h1, h2, fun m z' hm hz => ?_⟩
  have q := h3 m hm
  have hl : m < xs.length := by omega
  rw [List.getElem?_eq_getElem hl] at hz
  cases hz
  simpa using q
theorem call_index (hX : XOk X k) {pins : List (Addr × Obj)} {s : Shared} {σ : L2.St} {F H : Hp} {x y : V} {u w : Value} {d e : D} {xs : List D} {j : Nat} {Q : VK} {T id : String} (I : Inv X pins σ H s) (sub : Same F H) (rx : RelV x u) (ry : RelV y w) (bx : BR k F H x d) (by' : BR k F H y e)
    (hT : (d = .lst xs ∧ id = "list.index") ∨ (d = .tup xs ∧ id = "tuple.index")) (h1 : shp e = true) (h2 : shp d = true) (hj : idxOfD xs e = some j) (q : Q (.int (j : Nat)) H) :
    wpAny (model X.prog X.w) X.A (call (.builtin id) [u, w]) (EP X pins σ Q) X.xe s := by
  have hK := hX.K
  have hu : X.A.units + 65 < cLine := by have := hX.room.un; omega
  obtain ⟨z, z1, z2, z3⟩ := idx_find hj
  have dy := by'.dp sub h1
  rw [hK] at dy
  have at_ : ∀ (m : Nat), (D.pys xs)[m]? = (xs[m]?).map D.py := pys_get xs
  rcases hT with ⟨rfl, rfl⟩ | ⟨rfl, rfl⟩
  · have dx := bx.dp sub h2
    rw [hK] at dx
    obtain ⟨a, vs, rfl, t, r⟩ := bx.lst sub
    refine mt_indexD hu pins s σ H (.ref a) [y] u [w] Q I rx (.cons ry .nil) ⟨a, y, e.py, D.pys xs, j, z.py, rfl, rfl, dx, dy, h2, h1, by rw [at_, z1]; rfl, z2, fun m z' hm hz => ?_, q⟩
    rw [at_] at hz
    obtain ⟨z'', e1, rfl⟩ := Option.map_eq_some_iff.mp hz
    exact z3 m z'' hm e1
  · obtain ⟨a, vs, rfl, t, r⟩ := bx.tup
    cases rx
    have c2 := SeqAt.canLay_of_shaped h2
    have sq := (t.mono sub).sq
    rw [hK] at sq
    obtain ⟨its, rv, ⟨⟨cls, dd, data, sls⟩, ho, hc, n, hd⟩, hz⟩ := I.tuple sq
    simp only at hc hd
    subst hc hd
    have dps := (r.mono sub).dp (by simpa only [D.py, PyData.canLay0] using c2)
    rw [hK] at dps
    obtain ⟨as, ra⟩ := Dp.readsAll I _ _ its dps rv
    obtain ⟨bs, rb⟩ := Dp.reads I _ _ _ dy ry
    have hxs : PyData.canLayAll0 (D.pys xs) = true := by simpa only [D.py, PyData.canLay0] using c2
    have hn : its.length = (D.pys xs).length := SeqAt.ReadsAll.length _ its as ra
    have hmap : its.map (SeqAt.readOf s.heap) = D.pys xs := SeqAt.readsAll_map _ its as hxs ra
    obtain ⟨hjl, _⟩ := List.getElem?_eq_some_iff.mp z1
    have hj' : j < its.toArray.size := by rw [List.size_toArray, hn, pys_len]; exact hjl
    have rd : ∀ (m : Nat) (hm : m < its.toArray.size) (z' : D), xs[m]? = some z' → SeqAt.readOf s.heap its.toArray[m] = z'.py := fun m hm z' hz' => by
      have hml : m < its.length := by simpa using hm
      have e0 : (D.pys xs)[m]? = some z'.py := by rw [at_, hz']; rfl
      rw [← hmap, List.getElem?_map, List.getElem?_eq_getElem hml] at e0
      have e1 : SeqAt.readOf s.heap its[m] = z'.py := Option.some.inj (show some (SeqAt.readOf s.heap its[m]) = some z'.py from e0)
      simpa using e1
    have dep := SeqAt.depth_of_shaped h1
    refine call_meets PySem.F.slot_tuple_index ⟨_, ho, rfl⟩ PySem.F.entry_tuple_index (PySem.F.args_tuple_index_2 _ _) (TI.tuple_indexAt a its.toArray n dd sls w (fun u => PyData.eqv (SeqAt.readOf s.heap u) e.py) j hj' ?_ ?_)
      ⟨ho, SeqAt.items_eqAt (vs := its.toArray) (show ReadsAll s.heap its.toArray.toList (D.pys xs) as from ra) rb hxs (SeqAt.canLay_of_shaped h1) ?_, ⟨.int (j : Nat), H, I.tok _, ⟨_, rfl⟩, q⟩⟩
    · show PyData.eqv (SeqAt.readOf s.heap its.toArray[j]) e.py = true
      rw [rd j hj' z z1]; exact z2
    · intro m hm hmj
      show PyData.eqv (SeqAt.readOf s.heap its.toArray[m]) e.py = false
      have hml : m < xs.length := by omega
      rw [rd m hm xs[m] (List.getElem?_eq_getElem hml)]
      exact z3 m _ hmj (List.getElem?_eq_getElem hml)
    · show X.A.units + 1 + min (PyData.depthAll (D.pys xs)) e.py.depth < cLine
      have := Nat.min_le_right (PyData.depthAll (D.pys xs)) e.py.depth
      omega
theorem qe_index (hX : XOk X k) {o e : Expr} {es : List Expr} {io ies : IE} {apos cpos : Pos} (ho : PE X o (tE C k io)) (ha : PA X (e :: es) (tA C k true ies))
    (hbase : attributeBase o "index" X.env (eval o X.env) = eval o X.env)
    (hfew : ((backTo cpos (starEach (e :: es) X.env)).all (fun x => !x.1) && (backToKw cpos (keywordEach [] X.env)).all (fun x => x.1.isSome)
      && decide ((e :: es).length + ([] : List Keyword).length + (if ([] : List Keyword).isEmpty then 0 else 1) < 30)) = true)
    (hline : (apos.endLine == cpos.line) = true) (hs : starEach (e :: es) X.env = (false, eval e X.env) :: starEach es X.env) (hplain : (backTo cpos (starEach es X.env)).any (·.1) = false) :
    PE X (.Call (.Attribute o "index" apos) (e :: es) [] cpos) (tE C k (.mth .index io ies)) := by
  refine ⟨fun pins s σ H Q I ⟨ρ, F, QQ, rel, wp, fin⟩ => ?_⟩
  refine wpAny_Call_method_late hbase hfew hline rfl (thn (ho.run pins s σ H (fun v H1 => ∃ ρ1 F1 r, EPost k ρ σ F H r v ρ1 F1 H1 ∧ recvOk .index r.toD = true ∧ wpA C true ies ρ1 fun ds ρ2 => mthP .index r.toD ds fun r => QQ r ρ2) I ⟨ρ, F, _, rel, wp, fun r ρ1 v F1 H1 p q => ⟨ρ1, F1, r, p, q⟩⟩) fun v s1 ⟨x, H1, I1, r1, ρ1, F1, r, p, rc, q1⟩ => ?_)
  have hK := hX.K
  have step : ∀ (T id : String) (xs : List D), ((r.toD = .lst xs ∧ id = "list.index") ∨ (r.toD = .tup xs ∧ id = "tuple.index")) → wpAny (model X.prog X.w) X.A (callWith cpos (.builtin id) [v] (backTo cpos (starEach (e :: es) X.env)) []) (EP X pins σ Q) X.xe s1 := fun T id xs hT => by
    have hA := ha.run cpos pins s1 σ H1 (fun vs H2 => ∃ ρ2 F2 ds, Rel k ρ2 σ F2 H2 ∧ ETr k ρ1 σ F1 H1 ρ2 F2 H2 ∧ BRs k F2 H2 vs ds ∧ mthP .index r.toD ds fun r => QQ r ρ2) I1 ⟨ρ1, F1, _, p.rel, q1, fun ds ρ2 vs F2 H2 r2 t2 a2 q => ⟨ρ2, F2, ds, r2, t2, a2, q⟩⟩
    rw [hs] at hA ⊢
    refine Calls.callWith_builtin (by show (false || (backTo cpos (starEach es X.env)).any (·.1)) = false; rw [hplain] <;> rfl) (Calls.evalArgs_plain ?_)
    refine thn hA fun us s2 ⟨vs, H2, I2, r2, ρ2, F2, ds, rel2, tr2, a2, q2⟩ => ?_
    have bx : BR k F2 H2 x r.toD := p.lent.tr tr2 rel2
    match ds, a2, q2 with
    | [y], a2, ⟨⟨s1, s2⟩, q2⟩ =>
      obtain ⟨yv, rfl, by'⟩ := brs1 a2
      obtain ⟨w, rfl, ry⟩ := vals1 r2
      have fl : ∀ j : Nat, QQ (.val (.int j)) ρ2 → Q (.int (j : Nat)) H2 := fun j q => fin _ _ _ _ _ (p.then ((⟨rel2, tr2, .non⟩ : EPost k ρ1 σ F1 H1 (.val .non) .non ρ2 F2 H2).then (.flat rel2 .refl (.int _)))) q
      rcases hT with ⟨e1, e2⟩ | ⟨e1, e2⟩
      · rw [e1] at q2
        obtain ⟨j, hj, q3⟩ := q2
        exact call_index hX (T := T) I2 rel2.sub r1 ry bx by' (.inl ⟨e1, e2⟩) s1 s2 hj (fl j q3)
      · rw [e1] at q2
        obtain ⟨j, hj, q3⟩ := q2
        exact call_index hX (T := T) I2 rel2.sub r1 ry bx by' (.inr ⟨e1, e2⟩) s1 s2 hj (fl j q3)
  have l := p.lent
  cases ed : r.toD with
  | lst xs =>
    rw [ed] at l
    obtain ⟨a, vs, rfl, t, rr⟩ := l.lst p.rel.sub
    cases r1
    obtain ⟨its, _, pl, _⟩ := I1.list (.of t)
    refine ⟨"list", "list.index", PySem.F.plainAttrs_list, PySem.F.slot_list_index, PySem.F.type_list_index, pl.isList.typeIs, fun a' e' => ?_, step "list" _ xs (.inl ⟨ed, rfl⟩)⟩
    cases e'
    obtain ⟨o, n, e, c, hd, _⟩ := pl
    exact ⟨o, e, hd⟩
  | tup xs =>
    rw [ed] at l
    obtain ⟨a, vs, rfl, t, rr⟩ := l.tup
    cases r1
    have tt := t.mono p.rel.sub
    have key : ∃ ob, s1.heap.get? a = some ob ∧ ob.cls = .type "tuple" ∧ ob.dict = none := by
      rcases tt with ⟨ob, h1, h2⟩ | ⟨ob, its, n, h1, h2, h3, _⟩
      · obtain ⟨g1, _, its, _, ob', g2, g3, _⟩ := I1.hok _ _ h1
        have := g1.symm.trans g2
        cases this
        exact ⟨ob, g1, g3, h2⟩
      · rw [hK] at h1
        exact ⟨ob, I1.kIn a ob h1, h2, h3⟩
    obtain ⟨ob, k1, k2, k3⟩ := key
    refine ⟨"tuple", "tuple.index", PySem.F.plainAttrs_tuple, PySem.F.slot_tuple_index, PySem.F.type_tuple_index, ⟨ob, k1, k2⟩, fun a' e' => ?_, step "tuple" _ xs (.inr ⟨ed, rfl⟩)⟩
    cases e'
    exact ⟨ob, k1, k3⟩
  | _ => rw [ed] at rc; cases rc
theorem dct_empty (a : Addr) (o : Obj) (F : Hp) (h : o.ExactDict) (hd : o.data = .dict #[] 0) (ha : (a == sysModules) = false) (e : F a = some (exO a o)) : DctAt F a [] := ⟨o, 0, e, h, by simpa using hd, ha, by decide⟩
theorem qe_dnew : PE X (.Dict [] [] pos) (tE C k .dnew) := ⟨fun pins s σ H Q I ⟨ρ, F, QQ, rel, wp, fin⟩ => wpAny_Dict_empty (by
    have hn := I.hok.fresh (Nat.le_refl s.heap.objs.size)
    have ha : (s.heap.objs.size == sysModules) = false := beq_eq_false_iff_ne.mpr (Ne.symm (Nat.ne_of_lt I.big))
    have hg : (s.heap.push { cls := .type "dict", data := .dict #[] }).get? s.heap.objs.size = some { cls := .type "dict", data := .dict #[] } := Heap.get?_push_size _ rfl
    refine ⟨.ref s.heap.objs.size, upd H s.heap.objs.size (exO s.heap.objs.size { cls := .type "dict", data := .dict #[] }), I.laid (t' := s.toks) (fun _ _ q => Heap.get?_push_of_some _ q) (Nat.le_refl _) ⟨hg, ⟨_, hg⟩, fun g1 g2 q1 q2 => q2 _ q1⟩, rfl, ?_⟩
    refine fin (.owd []) ρ _ F _ ⟨rel.newH hn, .keepH (Same.upd_new hn), s.heap.objs.size, rfl, hn, [], dct_empty _ _ _ ⟨rfl, rfl, rfl⟩ rfl ha upd_same, rel.fnone hn, rel.nopN hn, .nil, by simp, fun p hp => by simp at hp⟩ wp)⟩
end
end PL
namespace PL
open PySem PySem.Spec PyProof.Rows L2
section
variable {X : Cx} {k : RC} {pins : List (Addr × Obj)} {σ : L2.St} {F H : Hp} {s : Shared} {a : Addr} {es : List DictEntry} {kvs : List (D × D)} {y : V} {u : Value} {kd : D}
theorem dk_room0 (hX : XOk X k) : (nestedKind X.prog X.w).room X.A := by
  have := hX.room.un
  show X.A.units + 8 < cLine
  omega
theorem d_dset (hX : XOk X k) (I : Inv X pins σ H s) (sub : Same F H) (da : DctAt H a es) (rk : RKs k F es kvs) (nd : (kvs.map fun p => nk p.1).Nodup) (r : R k F y kd) (ry : RelV y u) (ok : keyOk kvs kd = true) (hz : kvs.length < sizeLine)
    {vd : D} {vv : V} {w : Value} (rw' : RelV vv w) (rv : R k F vv vd)
    {Q : Unit → Shared → Prop} {E : Value → Shared → Prop} (h : ∀ s' es' o', Inv X pins σ (upd H a (exO a o')) s' → DctAt (upd H a (exO a o')) a es' → RKs k F es' (putD kvs kd vd) → ((putD kvs kd vd).map fun p => nk p.1).Nodup → (∀ p ∈ putD kvs kd vd, ∀ q ∈ putD kvs kd vd, scal p.1 = scal q.1) → Q () s') :
    wpAny (model X.prog X.w) X.A (dictSet a u w) Q E s := by
  obtain ⟨o0, ep0, hob, hex, hdt, hs, hl⟩ := dct_at I da
  obtain ⟨n, h1, h2, h3⟩ := keyOk_iff ok
  have mu : Mut (H a) := by
    obtain ⟨o, ep, e1, _⟩ := id da
    rw [e1]; trivial
  have fin : ∀ {h' : Heap} {t : Nat} {es' : List DictEntry} {o' : Obj} {ep' : Nat}, h'.get? a = some o' → o'.ExactDict → o'.data = .dict es'.toArray ep' → es'.length ≤ sizeLine → Heap.SameBut a s.heap h' → RKs k F es' (putD kvs kd vd) → ((putD kvs kd vd).map fun p => nk p.1).Nodup →
      (∀ p ∈ putD kvs kd vd, ∀ q ∈ putD kvs kd vd, scal p.1 = scal q.1) → Q () { s with heap := h', toks := t } := fun {h' t es' o' ep'} e1 e2 e3 e4 sb e5 e6 e7 => by
    have J : Inv X pins σ (upd H a (exO a o')) { s with heap := h', toks := t } := by
      refine I.write mu (.inl rfl) (fun b ob hb e => (sb.2 b hb).trans e) ⟨o', e1⟩ ?_
      refine ⟨e1, ⟨o', e1⟩, fun g1 g2 q1 q2 => q2 _ q1⟩
    exact h _ es' o' J ⟨o', ep', upd_same, e2, e3, hs, e4⟩ e5 e6 e7
  have hlen : ∀ {κ : Type} [DecidableEq κ] {n m : Nat}, n ≤ m + 1 → m < sizeLine → n ≤ sizeLine := fun a b => by omega
  cases e : scal kd with
  | true =>
    obtain ⟨c, hc⟩ := skey_of e
    have un : ∀ p ∈ kvs, scal p.1 = true := fun p hp => (h3 p hp).trans e
    obtain ⟨ps, q1, q2⟩ := dv_s hX I da rk nd un
    have hps : ps.length = kvs.length := q2.len
    refine wpAny_dictSet_pairs (hsz := by rw [hps]; omega) (key_is hc r ry _ _) q1 fun h' hd sb => ?_
    obtain ⟨o', esA, ep', g1, g2, g3, g4, g5, g6⟩ := hd
    have sx := q2.put hc rw' rv
    have hw := hX.w
    rw [← hw] at g4 g5
    obtain ⟨x1, x2⟩ := sx_rk (es := []) (P := X.prog) sx g5 (by simpa using g4)
    have l1 : esA.toList.length = (stored ps c w).length := g5.length
    have l2 := stored_length_le ps c w
    exact fin (es' := esA.toList) g1 g2 (by simpa using g3) (by omega) sb x1 ((sx_nodup sx).mp g6) fun p hp q hq => (x2 p hp).trans (x2 q hq).symm
  | false =>
    have un : ∀ p ∈ kvs, scal p.1 = false := fun p hp => (h3 p hp).trans e
    obtain ⟨ps, q1, q2⟩ := dv_h hX I sub da rk nd un
    obtain ⟨q, rfl⟩ := key_ref e h1 r
    cases ry
    have kin : k.K.In s.heap := by rw [hX.K]; exact I.kIn
    have hps : ps.length = kvs.length := q2.len
    refine wpAny_dictSet_heap (hsz := by rw [hps]; omega) (dk_room0 hX) ⟨nIs kin I.hok (r.mono sub) h1 rfl, h2⟩ q1 fun h' hd sb => ?_
    obtain ⟨o', esA, ep', g1, g2, g3, g4, g5, g6⟩ := hd
    have hx := q2.put h1 h2 r rw' rv
    have x1 := hx_rk (P := X.prog) hx
    have hw := hX.w
    rw [hw, ← g4] at x1
    have l1 : esA.toList.length = (storedH ps n q w).length := by rw [g4, List.length_map]
    have l2 : (storedH ps n q w).length ≤ ps.length + 1 := by
      unfold storedH
      split
      · rw [List.length_map]; omega
      · rw [List.length_append]; simp
    have x2 := hx_scal hx
    exact fin (es' := esA.toList) g1 g2 (by simpa using g3) (by omega) sb x1 ((hx_nodup hx).mp g6) fun p hp q hq => (x2 p hp).trans (x2 q hq).symm
end
section
variable {X : Cx} {k : RC} {C : PC}
abbrev emptyD : Obj := { cls := .type "dict", data := .dict #[] }
def rDs (k : RC) (D : Addr) (y z : V) (H : Hp) (Q : Hp → Prop) : Prop := ∃ F es kvs kd vd, Same F H ∧ DctAt H D es ∧ RKs k F es kvs ∧ (kvs.map fun p => nk p.1).Nodup ∧ R k F y kd ∧ keyOk kvs kd = true ∧ kvs.length < sizeLine ∧ R k F z vd ∧
  ∀ es' o', DctAt (upd H D (exO D o')) D es' → RKs k F es' (putD kvs kd vd) → ((putD kvs kd vd).map fun p => nk p.1).Nodup → (∀ p ∈ putD kvs kd vd, ∀ q ∈ putD kvs kd vd, scal p.1 = scal q.1) → Q (upd H D (exO D o'))
def tDx (k : RC) (wi : TI) (g : TG) (tt : TT) (tk tv : TE) (vs : List Nat) : TE := fun σ H Q => wi σ H fun J H1 => ∀ D, H1 D = none → (D == sysModules) = false → ∃ W : Nat → Nat → Hp → Prop, (∃ m, W 0 m (upd H1 D (exO D emptyD))) ∧ ∀ i m H, W i m H →
  (J.stop i H ∧ Q (.ref D) H) ∨ (J.go i H ∧ ∃ Nx : Hp → Prop, (∀ H', Nx H' → ∃ m', m' < m ∧ W (i + 1) m' H') ∧ ∀ x H', J.yld i H x H' → g x (L2.wipe σ vs) H' fun σ2 H2 => L2.wipe σ2 vs = L2.wipe σ vs ∧ tt σ2 H2 fun b H3 =>
    if b = true then tk σ2 H3 fun y H4 => tv σ2 H4 fun z H5 => rDs k D y z H5 Nx else Nx H3)
theorem ex_empty {P : Program} {w : World} {H : Hp} (h : Heap) : ObjOk P w H (h.push emptyD) h.objs.size (exO h.objs.size emptyD) :=
  have hg : (h.push emptyD).get? h.objs.size = some emptyD := Heap.get?_push_size _ rfl
  ⟨hg, ⟨_, hg⟩, fun g1 g2 q1 q2 => q2 _ q1⟩
theorem dx_core (hX : XOk X k) {pins : List (Addr × Obj)} {s : Shared} {σ : L2.St} {H : Hp} {Q : VK} {kx vx tg iter : Expr} {ifs : List Expr} {scope : Scope} {own : List (Str × Nat)} {pos pos' : Pos} {wi : TI} {g : TG} {tt : TT} {tk tv : TE} {use : Option (Value → Sem Unit)} {Qf : Value → Shared → Prop}
    (hN : X.N.Nodup) (I : Inv X pins σ H s) (hi : PI X tg iter wi) (ok : BlkOk X.N X.env.scope scope own)
    (hg : ∀ (s : Shared) (H : Hp) (C : Addr) (cl : List (Str × Addr)) (fp : List Addr), PG (X.blk s H scope (compEnvC scope cl C X.env) fp) tg g)
    (ht : ∀ (s : Shared) (H : Hp) (C : Addr) (cl : List (Str × Addr)) (fp : List Addr), PTs (X.blk s H scope (compEnvC scope cl C X.env) fp) ifs tt)
    (hk : ∀ (s : Shared) (H : Hp) (C : Addr) (cl : List (Str × Addr)) (fp : List Addr), PE (X.blk s H scope (compEnvC scope cl C X.env) fp) kx tk)
    (he : ∀ (s : Shared) (H : Hp) (C : Addr) (cl : List (Str × Addr)) (fp : List Addr), PE (X.blk s H scope (compEnvC scope cl C X.env) fp) vx tv) (hs : ∀ x, foldedSetIterable iter X.env x = pure x)
    (h : tDx k wi g tt tk tv (own.map (·.2)) σ H Q)
    (hRR : ∀ D C s' m H', Inv X pins σ H' s' → Q (.ref D) H' → s'.heap.Ns C m → FpOk X pins H' C → compPost (model X.prog X.w) X.A X.xe use Qf (.ref D) C (.ok .next) s') :
    wpAny (model X.prog X.w) X.A (comprehension (.DictComp kx vx [⟨tg, iter, ifs, 0⟩] scope pos) scope X.env pos' newDict false (eval iter X.env) use) Qf X.xe s := by
  have hc := hX.calm
  have hfree : ∀ y ∈ scope.names, y.2 = .free → ∃ c, X.env.cells.lookup y.1 = some c := fun y hy e => (ok.free y hy e).elim (fun z => I.ok.has _ (.inl z)) fun z => I.ok.has _ (.inr z)
  refine wpAny_comprehension_free (use := use) rfl hs (closure_ok hfree) ok.kind (fun y hy e => by rw [ok.uniq y hy, e])
    (thn (hi.run pins s σ H _ I h) fun xv s1 hx => thn hx fun itv s2 ⟨it, fp, tn, J, H2, e, I2, T, st2, f2, q⟩ => ?_)
  subst e
  refine wpAny_newObj_type (newEnv_comp ?_)
  -- the new dict stands at D
  obtain ⟨D, hD⟩ : ∃ D, s2.heap.objs.size = D := ⟨_, rfl⟩
  have hDn : H2 D = none := I2.hok.fresh (Nat.le_of_eq hD)
  have hDs : (D == sysModules) = false := beq_eq_false_iff_ne.mpr (by rw [← hD]; exact Ne.symm (Nat.ne_of_lt I2.big))
  obtain ⟨W, ⟨m0, w0⟩, turn⟩ := q D hDn hDs
  obtain ⟨s3, hs3⟩ : ∃ s3 : Shared, ({ s2 with heap := s2.heap.push emptyD } : Shared) = s3 := ⟨_, rfl⟩
  have h3 : s3.heap = s2.heap.push emptyD := by rw [← hs3]
  have I3 : Inv X pins σ (upd H2 D (exO D emptyD)) s3 := by
    rw [← hs3]
    refine I2.laid (t' := s2.toks) (fun b o e => Heap.get?_push_of_some _ e) (Nat.le_of_eq hD) ?_
    subst hD
    exact ex_empty s2.heap
  have below : ∀ b ∈ fp, b < s2.heap.objs.size := fun b hb => let ⟨_, e, _⟩ := T.obj _ _ st2 b hb; Heap.lt_size e
  obtain ⟨H3, hH3⟩ : ∃ H3, upd H2 D (exO D emptyD) = H3 := ⟨_, rfl⟩
  rw [hH3] at I3 w0
  have f3 : ∀ b ∈ fp, FpOk X pins H3 b ∧ b < s3.heap.objs.size := fun b hb => by
    have hlt := below b hb
    have ne : b ≠ D := by rw [← hD]; exact Nat.ne_of_lt hlt
    refine ⟨⟨?_, (f2 b hb).2⟩, ?_⟩
    · rw [← hH3, upd_ne ne]; exact (f2 b hb).1
    · rw [h3, Heap.size_push]; exact Nat.lt_succ_of_lt hlt
  have st3 : tn 0 s3.heap := T.keep _ _ _ st2 fun b _ o e => by rw [h3]; exact Heap.get?_push_of_some _ e
  have I4 := block_start I3 ok hN f3
  -- the block's parts
  obtain ⟨ce, hce⟩ : ∃ ce, compEnvC scope (cellsFrom (s3.heap.objs.size + 1) scope.names (cloFrom X.env.cells scope.names [])) s3.heap.objs.size X.env = ce := ⟨_, rfl⟩
  have pg := hg s3 H3 s3.heap.objs.size (cellsFrom (s3.heap.objs.size + 1) scope.names (cloFrom X.env.cells scope.names [])) fp
  have pt := ht s3 H3 s3.heap.objs.size (cellsFrom (s3.heap.objs.size + 1) scope.names (cloFrom X.env.cells scope.names [])) fp
  have pk := hk s3 H3 s3.heap.objs.size (cellsFrom (s3.heap.objs.size + 1) scope.names (cloFrom X.env.cells scope.names [])) fp
  have pv := he s3 H3 s3.heap.objs.size (cellsFrom (s3.heap.objs.size + 1) scope.names (cloFrom X.env.cells scope.names [])) fp
  show codeAny _ _ (.compStart (.DictComp kx vx [⟨tg, iter, ifs, 0⟩] scope pos) 0 (.ref it) (.ref s2.heap.objs.size) (compEnvC scope (cellsFrom (s2.heap.push emptyD).objs.size.succ scope.names (cloFrom X.env.cells scope.names [])) (s2.heap.push emptyD).objs.size X.env)) (compPost (model X.prog X.w) X.A X.xe use Qf (.ref s2.heap.objs.size) (s2.heap.push emptyD).objs.size) { s2 with heap := pushCells ((s2.heap.push emptyD).push { cls := .type "dict", data := .dict #[] }) scope.names }
  have es4 : ({ s2 with heap := pushCells ((s2.heap.push emptyD).push { cls := .type "dict", data := .dict #[] }) scope.names } : Shared) = { s3 with heap := pushCells (s3.heap.push { cls := .type "dict", data := .dict #[] }) scope.names } := by rw [← hs3]
  rw [es4, hD, ← h3]
  show codeAny _ _ (.compStart (.DictComp kx vx [⟨tg, iter, ifs, 0⟩] scope pos) 0 (.ref it) (.ref D) (compEnvC scope (cellsFrom (s3.heap.objs.size + 1) scope.names (cloFrom X.env.cells scope.names [])) s3.heap.objs.size X.env)) (compPost (model X.prog X.w) X.A X.xe use Qf (.ref D) s3.heap.objs.size) { s3 with heap := pushCells (s3.heap.push { cls := .type "dict", data := .dict #[] }) scope.names }
  rw [hce] at I4 pg pt pk pv ⊢
  have cL : ce.locals = s3.heap.objs.size := by rw [← hce]; rfl
  obtain ⟨s4, hs4⟩ : ∃ s4 : Shared, ({ s3 with heap := pushCells (s3.heap.push { cls := .type "dict", data := .dict #[] }) scope.names } : Shared) = s4 := ⟨_, rfl⟩
  rw [hs4] at I4 ⊢
  have st4 : tn 0 s4.heap := T.keep _ _ _ st3 fun b _ o e => by rw [← hs4]; exact pushCells_keeps _ _ _ _ (Heap.get?_push_of_some _ e)
  have stat : ∀ {σ' : L2.St} {H' : Hp} {s' : Shared}, Inv (X.blk s3 H3 scope ce fp) [] σ' H' s' → (∀ b ∈ fp, H' b = none) → ∀ b ∈ fp, FpOk (X.blk s3 H3 scope ce fp) [] H' b := fun I' hn b hb =>
    ⟨hn b hb, (I'.ok.exf b hb).1, I'.ok.exfs b hb, .inl hb, fun x c e => (I'.ok.exf b hb).2 x c e, fun p hp => absurd (show p ∈ ([] : List (Addr × Obj)) ++ [] from hp) (by simp)⟩
  have loop : codeAny (model X.prog X.w) X.A (.compLoop (.DictComp kx vx [⟨tg, iter, ifs, 0⟩] scope pos) 0 (.ref it) (.ref D) ce) (compPost (model X.prog X.w) X.A X.xe use Qf (.ref D) s3.heap.objs.size) s4 := by
    refine compLoop_anyD (fun n s' => ∃ i H', Inv (X.blk s3 H3 scope ce fp) [] (L2.wipe σ (own.map (·.2))) H' s' ∧ tn i s'.heap ∧ (∀ b ∈ fp, H' b = none) ∧ W i n H') ?_ m0 ⟨0, H3, I4, st4, fun b hb => (f3 b hb).1.1, w0⟩
    rintro n s5 ⟨i, H5, I5, st5, n5, w5⟩
    rcases turn i n H5 w5 with ⟨stop, qq⟩ | ⟨go, Nx, hNx, step⟩
    · refine thnF (T.done (X.blk s3 H3 scope ce fp) rfl rfl rfl hc i [] s5 _ H5 (fun _ _ => False) I5 (stat I5 n5) st5 stop) fun r s6 ⟨hr, I6⟩ => ?_
      subst hr
      have I7 : Inv X pins σ H5 s6 := I3.call' (ch := fp) I6.os I6.base I6.hok I6.bare fun b hb => ⟨(f3 b hb).1.2.2.2.1, (f3 b hb).1.2.1, (f3 b hb).1.2.2.2.2.1, (f3 b hb).1.2.2.2.2.2⟩
      have nC : H5 s3.heap.objs.size = none := by rw [← cL]; exact I6.free
      obtain ⟨m, hn, _⟩ := I6.loc
      have hn : s6.heap.Ns ce.locals m := hn
      rw [cL] at hn
      exact hRR D s3.heap.objs.size s6 m H5 I7 qq hn (I3.fpOk (Nat.le_refl _) nC)
    · refine thnF (T.item (X.blk s3 H3 scope ce fp) rfl rfl rfl hc i [] s5 _ H5 (fun _ _ => False) I5 (stat I5 n5) st5 go) fun r s6 ⟨u, hr, h6⟩ => ?_
      subst hr
      refine thnF h6 fun _ s7 ⟨x, H7, I7, r7, y7, st7, n7⟩ => ?_
      refine thnF (pg.run _ s7 _ H7 x u _ (I7.pinned (stat I7 n7) (T.obj _ _ st7)) r7 (step x H7 y7)) fun _ s8 ⟨σ8, H8, I8, hw8, q8⟩ => ?_
      refine thnF (pt.run _ s8 σ8 H8 _ I8 q8) fun b s9 ⟨H9, I9, q9⟩ => ?_
      have fin : ∀ {s' : Shared} {H' : Hp}, Inv (X.blk s3 H3 scope ce fp) ([] ++ pinsAt fp s7.heap) σ8 H' s' → Nx H' → ∃ m, m < n ∧ ∃ i H', Inv (X.blk s3 H3 scope ce fp) [] (L2.wipe σ (own.map (·.2))) H' s' ∧ tn i s'.heap ∧ (∀ b ∈ fp, H' b = none) ∧ W i m H' := fun {s' H'} I' nx => by
        obtain ⟨m', hm, w'⟩ := hNx H' nx
        have pin' : ∀ b ∈ fp, ∀ o, s7.heap.get? b = some o → s'.heap.get? b = some o ∧ H' b = none := fun b hb o e =>
          let z := I'.pin (b, o) (List.mem_append_right _ (List.mem_append_right _ (mem_pinsAt hb e)))
          ⟨z.1, z.2.1⟩
        have hl : (L2.wipe σ (own.map (·.2))).length = σ8.length := by rw [← hw8, wipe_length]
        refine ⟨m', hm, i + 1, H', (I'.unpinned (pins := [])).weak hl (fun j v e => ?_), T.keep _ _ _ st7 fun b hb o e => (pin' b hb o e).1, fun b hb => ?_, w'⟩
        · rw [← hw8] at e
          exact (wipe_some e).1
        · obtain ⟨o, e, _⟩ := T.obj _ _ st7 b hb
          exact (pin' b hb o e).2
      cases b with
      | false =>
        simp only [Bool.false_eq_true, if_false] at q9 ⊢
        exact fin I9 q9
      | true =>
        simp only [if_true] at q9 ⊢
        refine thnF (pk.run _ s9 σ8 H9 _ I9 q9) fun z s10 ⟨yk, H10, I10, r10, q10⟩ => ?_
        refine thnF (pv.run _ s10 σ8 H10 _ I10 q10) fun z2 s11 ⟨yv, H11, I11, r11, q11⟩ => ?_
        obtain ⟨F, es, kvs, kd, vd, g1, g2, g3, g4, g5, g6, g7, g8, g9⟩ := q11
        have hXb : XOk (X.blk s3 H3 scope ce fp) k := ⟨hX.K, hX.w, hX.calm, hX.room⟩
        exact d_dset hXb I11 g1 g2 g3 g4 g5 r10 g6 g7 r11 g8 fun s12 es' o' I12 d1 d2 d3 d4 => fin I12 (g9 es' o' d1 d2 d3 d4)
  exact codeAny_compStart_dict loop (T.self X.A 0 _ _ _ st4 loop)
theorem pe_dx (hX : XOk X k) {kx vx tg iter : Expr} {ifs : List Expr} {scope : Scope} {own : List (Str × Nat)} {pos : Pos} {wi : TI} {g : TG} {tt : TT} {tk tv : TE} (hN : X.N.Nodup) (hi : PI X tg iter wi) (ok : BlkOk X.N X.env.scope scope own)
    (hg : ∀ (s : Shared) (H : Hp) (C : Addr) (cl : List (Str × Addr)) (fp : List Addr), PG (X.blk s H scope (compEnvC scope cl C X.env) fp) tg g)
    (ht : ∀ (s : Shared) (H : Hp) (C : Addr) (cl : List (Str × Addr)) (fp : List Addr), PTs (X.blk s H scope (compEnvC scope cl C X.env) fp) ifs tt)
    (hk : ∀ (s : Shared) (H : Hp) (C : Addr) (cl : List (Str × Addr)) (fp : List Addr), PE (X.blk s H scope (compEnvC scope cl C X.env) fp) kx tk)
    (he : ∀ (s : Shared) (H : Hp) (C : Addr) (cl : List (Str × Addr)) (fp : List Addr), PE (X.blk s H scope (compEnvC scope cl C X.env) fp) vx tv) (hs : ∀ x, foldedSetIterable iter X.env x = pure x) :
    PE X (.DictComp kx vx [⟨tg, iter, ifs, 0⟩] scope pos) (tDx k wi g tt tk tv (own.map (·.2))) := by
  refine ⟨fun pins s σ H Q I h => ?_⟩
  rw [arm_eval_DictComp]
  refine dx_core hX hN I hi ok hg ht hk he hs h fun D C s' m H' I' q hn f => ⟨m, hn, fun h'' sb => ?_⟩
  obtain ⟨f0, f1, f2, f3, f4, f5⟩ := f
  exact ⟨.ref D, H', I'.turned (t' := s'.toks) (fun b o hb e => (sb.2 b hb).trans e) f0 f1 f3 f4 f5, rfl, q⟩
structure NewX (k : RC) (ρ : PEnv) (σ : L2.St) (F H : Hp) (D : Addr) (acc : List (PL.D × PL.D)) : Prop where
  at_ : ∃ es, DctAt H D es ∧ RKs k F es acc ∧ (acc.map fun p => nk p.1).Nodup ∧ ∀ p ∈ acc, ∀ q ∈ acc, scal p.1 = scal q.1
  fn : F D = none
  np : ¬ inP' k D
  no : ∀ i, ¬ OwnAt ρ σ i D
theorem NewX.next {ρ ρ' : PEnv} {σ : L2.St} {F F' H H' : Hp} {D : Addr} {acc : List (PL.D × PL.D)} (n : NewX k ρ σ F H D acc) (e : ETr k ρ σ F H ρ' F' H') : NewX k ρ' σ F' H' D acc := by
  obtain ⟨es, ⟨o, ep, h1, hr⟩, h2, h3⟩ := n.at_
  exact ⟨⟨es, ⟨o, ep, e.heap _ _ h1 fun z => n.np z.inP, hr⟩, h2.mono e.sub, h3⟩, (e.vis D (by rw [h1]; simp) n.no).trans n.fn, n.np, fun i z => n.no i (e.own i D z)⟩
theorem NewX.slots {ρ ρ' : PEnv} {σ σ' : L2.St} {F H : Hp} {D : Addr} {acc : List (PL.D × PL.D)} (n : NewX k ρ σ F H D acc) (h : ∀ i a, OwnAt ρ' σ' i a → OwnAt ρ σ i a) : NewX k ρ' σ' F H D acc :=
  ⟨n.at_, n.fn, n.np, fun i z => n.no i (h i D z)⟩
theorem dx_sem {vs : List Nat} {tg : Tg} {tp : Bool} {it ic ik iv : IE} {σ : L2.St} {H : Hp} {Q : VK} (htp : tp = true → ∃ is, tg = .tp is) (htg : ∀ i ∈ tg.slots, i ∈ vs) (h : tE C k (.dcomp vs tg it ic ik iv) σ H Q) : tDx k (tI C k true tp it) (tG k tg) (tT C k ic) (tE C k ik) (tE C k iv) vs σ H Q := by
  obtain ⟨ρ, F, QQ, rel, ⟨hpl, wp⟩, fin⟩ := h
  refine ⟨ρ, F, _, rel, wp, fun ds ρ1 F1 H1 J rel1 tr1 itok q => fun D hD hDs => ?_⟩
  have hpl1 : ∀ i ∈ vs, (ρ1.get i).plain = true := fun i hi => by
    cases e : (ρ1.get i).plain with
    | true => rfl
    | false =>
      obtain ⟨a, e1, _⟩ := SlotR.here (x := none) (rel1.slot i) e
      have := (tr1.own i a ⟨e, e1⟩).1
      rw [plain_at hpl hi] at this
      cases this
  have hn : H D = none := none_back tr1.there hD
  have relw := (rel1.wipe (vs := vs)).newH (o := exO D emptyD) hD
  have btr : BTr k ρ σ F H (ρ1.wipe vs) (L2.wipe σ vs) F1 (upd H1 D (exO D emptyD)) := (tr1.b.slots fun i a z => (own_wipe z).1).write hn
  have nd : NewX k (ρ1.wipe vs) (L2.wipe σ vs) F1 (upd H1 D (exO D emptyD)) D [] := ⟨⟨[], dct_empty D emptyD _ ⟨rfl, rfl, rfl⟩ rfl hDs upd_same, .nil, by simp, fun p hp => by simp at hp⟩, rel1.fnone hD, rel1.nopN hD, fun i z => rel1.ownH (own_wipe z).1 hD⟩
  refine ⟨fun i m H' => m = ds.length - i ∧ i ≤ ds.length ∧ ∃ ρt F' acc, Rel k ρt (L2.wipe σ vs) F' H' ∧ BTr k ρ σ F H ρt (L2.wipe σ vs) F' H' ∧ Same F1 F' ∧ SameX k H1 H' ∧ NewX k ρt (L2.wipe σ vs) F' H' D acc ∧
      dcompL vs tg (wpE C ic) (wpE C ik) (wpE C iv) (ds.drop i) ρt acc (fun acc ρ2 => QQ (.owd acc) (ρ1.back ρ2 vs)),
    ⟨ds.length, by simp, by omega, ρ1.wipe vs, F1, [], relw, btr, fun _ _ h => h, .of (Same.upd_new hD), nd, q⟩, ?_⟩
  rintro i m H' ⟨rfl, hi, ρt, F', acc, rel', tr', sub', heap', nd', q'⟩
  obtain ⟨i1, i2⟩ := itok F' H' ⟨sub', fun _ => heap', rel'.sub⟩ i
  by_cases hlt : i < ds.length
  · obtain ⟨go, yl⟩ := i2 ds[i] (List.getElem?_eq_getElem hlt)
    rw [List.drop_eq_getElem_cons hlt] at q'
    refine .inr ⟨go, fun H2 => ∃ ρt F' acc, Rel k ρt (L2.wipe σ vs) F' H2 ∧ BTr k ρ σ F H ρt (L2.wipe σ vs) F' H2 ∧ Same F1 F' ∧ SameX k H1 H2 ∧ NewX k ρt (L2.wipe σ vs) F' H2 D acc ∧
      dcompL vs tg (wpE C ic) (wpE C ik) (wpE C iv) (ds.drop (i + 1)) ρt acc (fun acc ρ2 => QQ (.owd acc) (ρ1.back ρ2 vs)), fun H2 h => ⟨_, (by omega : ds.length - (i + 1) < ds.length - i), rfl, hlt, h⟩, fun x H'' y => ?_⟩
    obtain ⟨sH, iok⟩ := yl x H'' y
    have k0 : ETr k ρt (L2.wipe σ vs) F' H' ρt F' H'' := .keepH sH
    have rel2 := rel'.keepH sH
    refine ⟨ρt, F', ds[i], _, rel2, ?_, q', fun ρ3 σ3 rel3 tt q3 => ?_⟩
    · rcases iok with r | ⟨h1, T, ws, es, h2, h3, h4, h5⟩
      · exact .inl r
      · obtain ⟨is, e⟩ := htp h1
        exact .inr ⟨is, T, ws, es, e, h2, h3, h4, h5⟩
    · have w3 : L2.wipe σ3 vs = L2.wipe σ vs := (tt.wp vs htg).trans wipe_idem
      refine ⟨w3, ρ3, F', _, rel3, q3, fun b ρ4 F4 H4 rel4 tr4 ⟨b', eb, q4⟩ => ?_⟩
      cases eb
      have nd4 := ((nd'.next k0).slots tt.own).next tr4
      have tr4' := ((tr'.next k0).slots tt.own).next tr4
      have sub4 : Same F1 F4 := fun b o e => tr4.sub b o (sub' b o e)
      have heap4 : SameX k H1 H4 := (heap'.trans k0.heap).trans tr4.heap
      have ends : ∀ {ρ6 F6 H6 acc6}, Rel k ρ6 σ3 F6 H6 → BTr k ρ σ F H ρ6 σ3 F6 H6 → NewX k ρ6 σ3 F6 H6 D acc6 → Rel k (ρ6.wipe vs) (L2.wipe σ vs) F6 H6 ∧ BTr k ρ σ F H (ρ6.wipe vs) (L2.wipe σ vs) F6 H6 ∧ NewX k (ρ6.wipe vs) (L2.wipe σ vs) F6 H6 D acc6 := fun {ρ6 F6 H6 acc6} r t n => by
        rw [← w3]
        exact ⟨r.wipe, t.slots fun i a z => (own_wipe z).1, n.slots fun i a z => (own_wipe z).1⟩
      cases b with
      | false =>
        rw [brn_ite, if_neg Bool.false_ne_true] at q4; rw [if_neg Bool.false_ne_true]
        obtain ⟨e1, e2, e3⟩ := ends rel4 tr4' nd4
        exact ⟨_, _, _, e1, e2, sub4, heap4, e3, q4⟩
      | true =>
        rw [brn_ite, if_pos rfl] at q4; rw [if_pos rfl]
        refine ⟨ρ4, F4, _, rel4, q4, fun r ρ5 v F5 H5 p q5 => ?_⟩
        obtain ⟨kd, F6, q6, _, rk, rel6, tr6⟩ := p.keep rel4 q5
        refine ⟨ρ5, F6, _, rel6, q6, fun r2 ρ7 v2 F7 H7 p7 q7 => ?_⟩
        obtain ⟨vd, F8, ⟨g1, g2, g3⟩, _, rv, rel8, tr8⟩ := p7.keep rel6 q7
        have nd8 := (nd4.next tr6).next tr8
        obtain ⟨es, d1, d2, d3, d4⟩ := nd8.at_
        refine ⟨F8, es, acc, kd, vd, rel8.sub, d1, d2, d3, rk.mono tr8.sub, g1, g2, rv, fun es' o' f1 f2 f3 f4 => ?_⟩
        have nd9 : NewX k ρ7 σ3 F8 (upd H7 D (exO D o')) D (putD acc kd vd) := ⟨⟨es', f1, f2, f3, f4⟩, nd8.fn, nd8.np, nd8.no⟩
        obtain ⟨e1, e2, e3⟩ := ends (rel8.writeD nd8.no nd8.fn nd8.np) (((tr4'.next tr6).next tr8).write hn) nd9
        refine ⟨_, _, _, e1, e2, fun b o e => tr8.sub b o (tr6.sub b o (sub4 b o e)), ?_, e3, g3⟩
        exact ((heap4.trans tr6.heap).trans tr8.heap).trans' hD
  · have e : i = ds.length := by omega
    subst e
    rw [List.drop_length] at q'
    refine .inl ⟨i1 rfl, ?_⟩
    obtain ⟨r1, r2⟩ := rel1.back hpl1 rel' sub'
    have nd2 := nd'.slots r2
    obtain ⟨es, d1, d2, d3, d4⟩ := nd2.at_
    exact fin (.owd acc) _ _ _ _ ⟨r1, (tr'.slots r2).e, D, rfl, hn, es, d1, nd2.fn, nd2.np, d2, d3, d4⟩ q'
end
end PL
namespace PL
open PySem PySem.Spec PyProof.Rows L2
inductive KD where
  | L | T
def KD.sq (K : PySem.W.Frag) (H : Hp) : KD → Addr → List V → Prop
  | .L, a, xs => SqL K H a xs
  | .T, a, xs => SqT K H a xs
def KD.it (h : Heap) : KD → Addr → Addr → Nat → Prop
  | .L, i, a, n => h.IsListIter i a n
  | .T, i, a, n => h.IsTupleIter i a n
def KD.is (h : Heap) : KD → Addr → Array Value → Prop
  | .L, a, xs => h.IsList a xs
  | .T, a, xs => h.IsTuple a xs
def KD.o : KD → Addr → Obj
  | .L, a => { cls := .type "list_iterator", data := .fields #[.ref a, .int 0 0] }
  | .T, a => { cls := .type "tuple_iterator", data := .fields #[.ref a, .int 0 0] }
theorem KD.draws {prog : Program} {w : World} {A : Around} (hh : A.handled = none) (kd : KD) (it a : Addr) (hne : a ≠ it) (items : Array Value) :
    Draws prog w A it [it, a] items.size (fun i v => items[i]? = some v) (fun i h => kd.it h it a i ∧ kd.is h a items) := by
  cases kd with
  | L => exact Draws.list hh it a hne items
  | T => exact Draws.tuple hh it a hne items
theorem KD.begins (kd : KD) (a : Addr) (items : Array Value) : Begins (.ref a) (kd.o a) fun h => kd.is h a items := by
  cases kd with
  | L => exact begins_list a items
  | T => exact begins_tuple a items
theorem KD.start {kd : KD} {h : Heap} {n a : Addr} (e : h.get? n = some (kd.o a)) : kd.it h n a 0 := by
  cases kd with
  | L => exact ⟨_, e, rfl, rfl⟩
  | T => exact ⟨_, e, rfl, rfl⟩
theorem KD.at {kd : KD} {h h' : Heap} {i a : Addr} {n : Nat} (t : kd.it h i a n) (k : ∀ o, h.get? i = some o → h'.get? i = some o) : kd.it h' i a n := by
  cases kd with
  | L => exact Heap.IsListIter.at t k
  | T => exact Heap.IsTupleIter.at t k
theorem KD.obj {kd : KD} {h : Heap} {i a : Addr} {n : Nat} (t : kd.it h i a n) : ∃ o, h.get? i = some o ∧ ∀ v, o.data ≠ .cell v := by
  cases kd with
  | L => obtain ⟨o, e, _, d⟩ := t; exact ⟨o, e, fun v q => by rw [d] at q; cases q⟩
  | T => obtain ⟨o, e, _, d⟩ := t; exact ⟨o, e, fun v q => by rw [d] at q; cases q⟩
theorem KD.ne {k1 k2 : KD} {h : Heap} {i a b : Addr} {n : Nat} {items : Array Value} (t : k1.it h i b n) (p : k2.is h a items) : a ≠ i := by
  rintro rfl
  have ht : ∃ o vs, h.get? a = some o ∧ o.data = .fields vs := by
    cases k1 with
    | L => obtain ⟨o, e, _, d⟩ := t; exact ⟨o, _, e, d⟩
    | T => obtain ⟨o, e, _, d⟩ := t; exact ⟨o, _, e, d⟩
  obtain ⟨o, vs, e1, e2⟩ := ht
  cases k2 with
  | L => obtain ⟨o', e, _, n, d⟩ := p; rw [e1] at e; cases e; rw [e2] at d; cases d
  | T => obtain ⟨o', e, _, n, d⟩ := p; rw [e1] at e; cases e; rw [e2] at d; cases d
section
variable {X : Cx} {pins : List (Addr × Obj)} {σ : L2.St} {H : Hp} {s : Shared}
theorem KD.inv {kd : KD} {a : Addr} {xs : List V} (I : Inv X pins σ H s) (h : kd.sq X.K H a xs) : ∃ its, Vals xs its ∧ kd.is s.heap a its.toArray ∧ a < s.heap.objs.size := by
  cases kd with
  | L => obtain ⟨its, rv, p, _⟩ := I.list h; exact ⟨its, rv, p.isList, p.lt⟩
  | T =>
    obtain ⟨its, rv, p, _⟩ := I.tuple h
    obtain ⟨o1, ho1, _⟩ := id p
    exact ⟨its, rv, p, Heap.lt_size ho1⟩
theorem KD.inj {kd : KD} {a : Addr} {xs ys : List V} (I : Inv X pins σ H s) (h : kd.sq X.K H a xs) (h2 : kd.sq X.K H a ys) : xs = ys := by
  cases kd with
  | L => exact I.list_inj h h2
  | T => exact I.tuple_inj h h2
end
def Itz2 (K : PySem.W.Frag) (k1 k2 : KD) (a b : Addr) : It :=
  ⟨fun i H => ∃ (xs ys : List V) (x y : V), k1.sq K H a xs ∧ k2.sq K H b ys ∧ xs[i]? = some x ∧ ys[i]? = some y,
    fun i H v H' => ∃ T x y, v = .ref T ∧ H T = none ∧ H' = upd H T (.tup [x, y]) ∧ (∀ xs, k1.sq K H a xs → xs[i]? = some x) ∧ ∀ ys, k2.sq K H b ys → ys[i]? = some y,
    fun i H => ∃ xs ys : List V, k1.sq K H a xs ∧ k2.sq K H b ys ∧ i ≤ xs.length ∧ i ≤ ys.length ∧ (i = xs.length ∨ i = ys.length)⟩
theorem turn_zip2 {P : Program} {w : World} {K : PySem.W.Frag} {elts : List Expr} {kk : Nat} {tpos : Pos} {k1 k2 : KD} {a b z TI TO i1 i2 : Addr} (D : ZipSep2 z TI TO i1 i2 [i1, a] [i2, b]) :
    Turn P w K (.Tuple elts kk tpos) (Itz2 K k1 k2 a b) [z, TI, TO, i1, i2] z (fun i h => IsZip h z TI TO .none ∧ IsTupOf2 h TI (.ref i1) (.ref i2) ∧ (∃ x y, IsTupOf2 h TO x y) ∧ k1.it h i1 a i ∧ k2.it h i2 b i) where
  mem := by simp
  obj := fun i h st c hc => by
    obtain ⟨hz, hTI, ⟨x, y, hTO⟩, h1, h2⟩ := st
    have e' : c = z ∨ c = TI ∨ c = TO ∨ c = i1 ∨ c = i2 := by simpa using hc
    rcases e' with q | q | q | q | q
    · rw [q]; exact ⟨_, hz, fun v q => nomatch q⟩
    · rw [q]; exact ⟨_, hTI, fun v q => nomatch q⟩
    · rw [q]; exact ⟨_, hTO, fun v q => nomatch q⟩
    · rw [q]; exact KD.obj h1
    · rw [q]; exact KD.obj h2
  keep := fun i h h' st k => by
    obtain ⟨hz, hTI, ⟨x, y, hTO⟩, h1, h2⟩ := st
    exact ⟨k z (by simp) _ hz, k TI (by simp) _ hTI, ⟨x, y, k TO (by simp) _ hTO⟩, KD.at h1 fun o q => k i1 (by simp) o q, KD.at h2 fun o q => k i2 (by simp) o q⟩
  item := by
    intro X hP hw hK hc i pins s σ H E I hf st hg
    subst hP hw hK
    obtain ⟨hz, hTI, ⟨x0, y0, hTO⟩, h1, h2⟩ := st
    obtain ⟨xs, ys, x, y, hqx, hqy, hx, hy⟩ := hg
    obtain ⟨its, rv, p, _⟩ := KD.inv I hqx
    obtain ⟨its2, rv2, p2, _⟩ := KD.inv I hqy
    obtain ⟨u, hu, ru⟩ := rv.get hx
    obtain ⟨u2, hu2, ru2⟩ := rv2.get hy
    have hu' : its.toArray[i]? = some u := by simpa using hu
    have hu2' : its2.toArray[i]? = some u2 := by simpa using hu2
    have hzl : z < s.heap.objs.size := Heap.lt_size hz
    have hh : (X.A.in1).handled = none := I.ok.hd hc
    refine wpAny_pyNext_zipD2_item D (k1.draws hh i1 a (KD.ne h1 p) its.toArray) (k2.draws hh i2 b (KD.ne h2 p2) its2.toArray) hz hTI hTO ⟨h1, p⟩ ⟨h2, p2⟩ (Array.getElem?_eq_some_iff.mp hu').1 (Array.getElem?_eq_some_iff.mp hu2').1 fun v1 v2 h' tk e1 e2 z' TO' h1' h2' hT hsz hk => ?_
    rw [hu'] at e1
    rw [hu2'] at e2
    cases e1
    cases e2
    refine ⟨_, rfl, wpAny_letOwnedTupleGo_zip (s := { s with heap := h', toks := tk }) z' fun h'' z'' sb => ?_⟩
    have hT2 : h''.get? s.heap.objs.size = some { cls := .type "tuple", data := .seq #[u, u2] } := (sb.2 _ (Nat.ne_of_gt hzl)).trans hT
    have new : ObjOk X.prog X.w (upd H s.heap.objs.size (.tup [x, y])) h'' s.heap.objs.size (.tup [x, y]) :=
      ⟨by show 2 ≤ sizeLine; decide, [u, u2], .cons ru (.cons ru2 .nil), ⟨_, hT2, rfl, _, rfl⟩⟩
    have I1 : Inv X pins σ (upd H s.heap.objs.size (.tup [x, y])) { s with heap := h'', toks := tk } :=
      I.turnedNew (t' := tk) (ch := [z, TI, TO, i1, i2]) (fun c o hb q => (sb.2 c (fun q' => hb (by simp [q']))).trans (hk c o (fun q' => hb (by simp [q'])) (fun q' => hb (by simp [q'])) (fun q' => hb (by simp [q'])) (fun q' => hb (by simp [q'])) q)) hf (Nat.le_refl _) new
    refine ⟨.ref s.heap.objs.size, _, I1, rfl, ⟨_, x, y, rfl, I.hok.fresh (Nat.le_refl _), rfl, fun l hl => by rw [KD.inj I hl hqx]; exact hx, fun l hl => by rw [KD.inj I hl hqy]; exact hy⟩, ⟨z'', ?_, ⟨u, u2, ?_⟩, ?_, ?_⟩, fun c hcm => ?_⟩
    · exact (sb.2 _ D.TIz).trans (hk _ _ D.TIz D.TITO D.TIi1 D.TIi2 hTI)
    · exact (sb.2 _ D.TOz).trans TO'
    · exact KD.at h1'.1 fun o q => (sb.2 _ D.zi1.symm).trans q
    · exact KD.at h2'.1 fun o q => (sb.2 _ D.zi2.symm).trans q
    · have hlt : c < s.heap.objs.size := by
        have e' : c = z ∨ c = TI ∨ c = TO ∨ c = i1 ∨ c = i2 := by simpa using hcm
        rcases e' with q | q | q | q | q
        · rw [q]; exact hzl
        · rw [q]; exact Heap.lt_size hTI
        · rw [q]; exact Heap.lt_size hTO
        · rw [q]; obtain ⟨_, e1, _⟩ := KD.obj h1; exact Heap.lt_size e1
        · rw [q]; obtain ⟨_, e2, _⟩ := KD.obj h2; exact Heap.lt_size e2
      rw [upd_ne (Nat.ne_of_lt hlt)]
      exact (hf c hcm).1
  done := by
    intro X hP hw hK hc i pins s σ H E I hf st hg
    subst hP hw hK
    obtain ⟨hz, hTI, ⟨x0, y0, hTO⟩, h1, h2⟩ := st
    obtain ⟨xs, ys, hqx, hqy, hx, hy, hend⟩ := hg
    obtain ⟨its, rv, p, _⟩ := KD.inv I hqx
    obtain ⟨its2, rv2, p2, _⟩ := KD.inv I hqy
    have l1 := rv.length
    have l2 := rv2.length
    have hh : (X.A.in1).handled = none := I.ok.hd hc
    exact wpAny_pyNext_zipD2_end D (k1.draws hh i1 a (KD.ne h1 p) its.toArray) (k2.draws hh i2 b (KD.ne h2 p2) its2.toArray) hz hTI hTO ⟨h1, p⟩ ⟨h2, p2⟩ (by simp; omega) (by simp; omega) (by simp; omega) fun h' tk hk => ⟨rfl, I.turnedL (t' := tk) (ch := [z, TI, TO, i1, i2]) (fun c o hb q =>
      hk c o (fun q' => hb (by simp [q'])) (fun q' => hb (by simp [q'])) (fun q' => hb (by simp [q'])) (fun q' => hb (by simp [q'])) q) hf⟩
  self := fun A i s Q E st h => wpAny_pyIter_zip st.1 h
end PL
namespace PL
open PySem PySem.Spec PyProof.Rows L2
section
variable {X : Cx} {k : RC} {C : PC} {pos : Pos}
theorem src_ref {F H : Hp} {v : V} {d : D} {xs : List D} (sub : Same F H) (h : BR k F H v d) (e : seqD d = some xs) : ∃ a, v = .ref a := by
  cases d with
  | lst ys => obtain ⟨a, vs, rfl, t, r⟩ := h.lst sub; exact ⟨a, rfl⟩
  | tup ys => obtain ⟨a, vs, rfl, t, r⟩ := h.tup; exact ⟨a, rfl⟩
  | _ => cases e
theorem src_at {F H : Hp} {a : Addr} {d : D} {xs : List D} {kd : KD} (sub : Same F H) (h : BR k F H (.ref a) d) (e : seqD d = some xs) (hk : (∃ ys, d = .lst ys) ↔ kd = .L) : ∃ vs, KD.sq k.K H kd a vs ∧ Rs k F vs xs := by
  cases d with
  | lst ys =>
    cases e
    obtain ⟨b, vs, z, t, r⟩ := h.lst sub
    cases z
    cases hk.mp ⟨_, rfl⟩
    exact ⟨vs, .of t, r⟩
  | tup ys =>
    cases e
    obtain ⟨b, vs, z, t, r⟩ := h.tup
    cases z
    cases kd with
    | L => obtain ⟨_, q⟩ := hk.mpr rfl; cases q
    | T => exact ⟨vs, (t.mono sub).sq, r⟩
  | _ => cases e
def kdOf : D → KD
  | .lst _ => .L
  | _ => .T
theorem kd_iff (d : D) (xs : List D) (e : seqD d = some xs) : (∃ ys, d = .lst ys) ↔ kdOf d = .L := by
  cases d <;> simp [kdOf] <;> cases e
theorem stay_br {b : Bool} {F H F' H' : Hp} {v : V} {d : D} (h : ARel k b F H [v] [d]) (st : Stay k b F H F' H') : BR k F' H' v d := by
  obtain ⟨a1, a2, a3⟩ := st
  cases b with
  | false =>
    cases (show Rs k F [v] [d] from h) with
    | cons r _ => exact .inl (r.mono a1)
  | true =>
    cases (show BRs k F H [v] [d] from h) with
    | cons r _ => exact r.grow a1 (a2 rfl) a3
theorem ARel.fst {b : Bool} {F H : Hp} {v : V} {d : D} {vs : List V} {ds : List D} (h : ARel k b F H (v :: vs) (d :: ds)) : ARel k b F H [v] [d] := by
  cases b with
  | false => cases (show Rs k F (v :: vs) (d :: ds) from h) with | cons r _ => exact Rs.cons r .nil
  | true => cases (show BRs k F H (v :: vs) (d :: ds) from h) with | cons r _ => exact BRs.cons r .nil
theorem ARel.rest {b : Bool} {F H : Hp} {v : V} {d : D} {vs : List V} {ds : List D} (h : ARel k b F H (v :: vs) (d :: ds)) : ARel k b F H vs ds := by
  cases b with
  | false => cases (show Rs k F (v :: vs) (d :: ds) from h) with | cons _ r => exact r
  | true => cases (show BRs k F H (v :: vs) (d :: ds) from h) with | cons _ r => exact r
theorem ARel.split {b : Bool} {F H : Hp} {d : D} {vs : List V} {ds : List D} (h : ARel k b F H vs (d :: ds)) : ∃ v vs', vs = v :: vs' := by
  cases b with
  | false => cases (show Rs k F vs (d :: ds) from h) with | cons _ _ => exact ⟨_, _, rfl⟩
  | true => cases (show BRs k F H vs (d :: ds) from h) with | cons _ _ => exact ⟨_, _, rfl⟩
theorem ARel.done {b : Bool} {F H : Hp} {vs : List V} (h : ARel k b F H vs []) : vs = [] := by
  cases b with
  | false => cases (show Rs k F vs [] from h); rfl
  | true => cases (show BRs k F H vs [] from h); rfl
theorem ARel.br {b : Bool} {F H : Hp} {v : V} {d : D} (h : ARel k b F H [v] [d]) : BR k F H v d := by
  cases b with
  | false => cases (show Rs k F [v] [d] from h) with | cons r _ => exact .inl r
  | true => cases (show BRs k F H [v] [d] from h) with | cons r _ => exact r
theorem fresh5 {pins : List (Addr × Obj)} {σ : L2.St} {H : Hp} {s : Shared} (I : Inv X pins σ H s) : ∀ c, s.heap.objs.size ≤ c → FpOk X pins H c := fun c h => I.fpOk h (I.hok.fresh h)
theorem qi_zip2 (hX : XOk X k) {b : Bool} {e1 e2 : Expr} {ia ic : IE} {p tpos : Pos} {elts : List Expr} {kk : Nat} (hg : Gl X "zip") (hm : X.mg "zip" = none) (ha : PA X [e1, e2] (tA C k b (.acons ia (.acons ic .anil))))
    (hs : starEach [e1, e2] X.env = (false, eval e1 X.env) :: starEach [e2] X.env) (hpl : (backTo pos (starEach [e2] X.env)).any (·.1) = false) :
    PI X (.Tuple elts kk tpos) (.Call (.Name "zip" p) [e1, e2] [] pos) (tI C k b true (.itZip ia ic)) := by
  refine ⟨fun pins s σ H Rr I ⟨ρ, F, QQ, rel, wp, fin⟩ => ?_⟩
  have hK := hX.K
  refine Call_ (ld_blt I hg hm PyProof.Rows.boot_zip (PyProof.Rows.callWith_type1 (thn (ha.run pos pins s σ H (fun vs H1 => ∃ ds ρ1 F1, Rel k ρ1 σ F1 H1 ∧ ETr k ρ σ F H ρ1 F1 H1 ∧ ARel k b F1 H1 vs ds ∧ (match ds with | [x, y] => ∃ xs ys, seqD x = some xs ∧ seqD y = some ys ∧ (xs.length ≤ sizeLine → QQ ((xs.zip ys).map fun p => .tup [p.1, p.2]) ρ1) | _ => False)) I
    ⟨ρ, F, fun ds ρ1 => (match ds with | [x, y] => ∃ xs ys, seqD x = some xs ∧ seqD y = some ys ∧ (xs.length ≤ sizeLine → QQ ((xs.zip ys).map fun p => .tup [p.1, p.2]) ρ1) | _ => False), rel, wp, fun ds ρ1 vs F1 H1 r t a q => ⟨ds, ρ1, F1, r, t, a, q⟩⟩) fun us s1 ⟨vs, H1, I1, r1, ds, ρ1, F1, rel1, tr1, ar, q⟩ => ?_) hs hpl))
  match ds, ar, q with
  | [x, y], ar, ⟨xs, ys, ex, ey, q⟩ =>
  obtain ⟨v1, vs1, rfl⟩ := ar.split
  obtain ⟨v2, vs2, rfl⟩ := ar.rest.split
  cases ar.rest.rest.done
  have A1 := ar.fst
  have A2 := ar.rest
  obtain ⟨a1, rfl⟩ := src_ref rel1.sub A1.br ex
  obtain ⟨a2, rfl⟩ := src_ref rel1.sub A2.br ey
  obtain ⟨w1, q1, rs1⟩ := src_at rel1.sub A1.br ex (kd_iff x xs ex)
  obtain ⟨w2, q2, rs2⟩ := src_at rel1.sub A2.br ey (kd_iff y ys ey)
  cases r1 with
  | cons r rr =>
  cases rr with
  | cons r' rr =>
  cases rr
  cases r
  cases r'
  obtain ⟨its1, rv1, p1, l1⟩ := KD.inv I1 (hK ▸ q1)
  obtain ⟨its2, rv2, p2, l2⟩ := KD.inv I1 (hK ▸ q2)
  refine zip_begins2 (KD.begins (kdOf x) a1 its1.toArray) (KD.begins (kdOf y) a2 its2.toArray) p1 p2 fun h' hz hTI hTO g1 g2 hsz hk => wpAny_pyIter_zip hz ?_
  have I2 : Inv X pins σ H1 { s1 with heap := h' } := I1.kept (t' := s1.toks) hk
  refine ⟨s1.heap.objs.size + 4, [s1.heap.objs.size + 4, s1.heap.objs.size + 2, s1.heap.objs.size + 3, s1.heap.objs.size, s1.heap.objs.size + 1], _, Itz2 X.K (kdOf x) (kdOf y) a1 a2, H1, rfl, I2, turn_zip2 (zip_sep2 (fp1 := [a1]) (fp2 := [a2]) (by simpa using l1) (by simpa using l2)), ⟨hz, hTI, ⟨_, _, hTO⟩, KD.start g1, KD.start g2⟩, fun c hcm => ?_, fin _ ρ1 F1 H1 _ rel1 tr1 (fun F' H' st i => ?_) (q (seq_len hX I1 rel1.sub A1.br ex))⟩
  · have e' : c = s1.heap.objs.size + 4 ∨ c = s1.heap.objs.size + 2 ∨ c = s1.heap.objs.size + 3 ∨ c = s1.heap.objs.size ∨ c = s1.heap.objs.size + 1 := by simpa using hcm
    refine fresh5 I1 c ?_
    rcases e' with z | z | z | z | z
    · rw [z]; exact Nat.le_add_right _ _
    · rw [z]; exact Nat.le_add_right _ _
    · rw [z]; exact Nat.le_add_right _ _
    · rw [z]; exact Nat.le_refl _
    · rw [z]; exact Nat.le_add_right _ _
  · obtain ⟨u1, t1, n1⟩ := src_at st.2.2 (stay_br A1 st) ex (kd_iff x xs ex)
    obtain ⟨u2, t2, n2⟩ := src_at st.2.2 (stay_br A2 st) ey (kd_iff y ys ey)
    rw [hK] at t1 t2
    have m1 := n1.length
    have m2 := n2.length
    refine ⟨fun hi => ⟨u1, u2, t1, t2, ?_, ?_, ?_⟩, fun d hd => ?_⟩
    · rw [List.length_map, List.length_zip] at hi; omega
    · rw [List.length_map, List.length_zip] at hi; omega
    · rw [List.length_map, List.length_zip] at hi; omega
    · rw [List.getElem?_map] at hd
      obtain ⟨pq, hp, rfl⟩ := Option.map_eq_some_iff.mp hd
      obtain ⟨h1, h2⟩ := List.getElem?_zip_eq_some.mp hp
      obtain ⟨b1, c1, d1⟩ := n1.get h1
      obtain ⟨b2, c2, d2⟩ := n2.get h2
      refine ⟨⟨u1, u2, b1, b2, t1, t2, c1, c2⟩, ?_⟩
      rintro z H'' ⟨T, y1, y2, rfl, hT, rfl, f1, f2⟩
      have z1 := (f1 _ t1).symm.trans c1
      have z2 := (f2 _ t2).symm.trans c2
      cases z1
      cases z2
      exact ⟨Same.upd_new hT, .inr ⟨rfl, T, _, _, rfl, rfl, upd_same, .cons d1 (.cons d2 .nil)⟩⟩
end
end PL
namespace PL
open PySem PySem.Spec PyProof.Rows L2
def Itz3 (K : PySem.W.Frag) (k1 k2 k3 : KD) (a b c : Addr) : It :=
  ⟨fun i H => ∃ (xs ys zs : List V) (x y z : V), k1.sq K H a xs ∧ k2.sq K H b ys ∧ k3.sq K H c zs ∧ xs[i]? = some x ∧ ys[i]? = some y ∧ zs[i]? = some z,
    fun i H v H' => ∃ T x y z, v = .ref T ∧ H T = none ∧ H' = upd H T (.tup [x, y, z]) ∧ (∀ xs, k1.sq K H a xs → xs[i]? = some x) ∧ (∀ ys, k2.sq K H b ys → ys[i]? = some y) ∧ ∀ zs, k3.sq K H c zs → zs[i]? = some z,
    fun i H => ∃ xs ys zs : List V, k1.sq K H a xs ∧ k2.sq K H b ys ∧ k3.sq K H c zs ∧ i ≤ xs.length ∧ i ≤ ys.length ∧ i ≤ zs.length ∧ (i = xs.length ∨ i = ys.length ∨ i = zs.length)⟩
theorem turn_zip3 {P : Program} {w : World} {K : PySem.W.Frag} {elts : List Expr} {kk : Nat} {tpos : Pos} {k1 k2 k3 : KD} {a b a3 z TI TO i1 i2 i3 : Addr} (D : ZipSep3 z TI TO i1 i2 i3 [i1, a] [i2, b] [i3, a3]) :
    Turn P w K (.Tuple elts kk tpos) (Itz3 K k1 k2 k3 a b a3) [z, TI, TO, i1, i2, i3] z (fun i h => IsZip h z TI TO .none ∧ IsTupOf3 h TI (.ref i1) (.ref i2) (.ref i3) ∧ (∃ x y z, IsTupOf3 h TO x y z) ∧ k1.it h i1 a i ∧ k2.it h i2 b i ∧ k3.it h i3 a3 i) where
  mem := by simp
  obj := fun i h st c hc => by
    obtain ⟨hz, hTI, ⟨x, y, y3, hTO⟩, h1, h2, h3⟩ := st
    have e' : c = z ∨ c = TI ∨ c = TO ∨ c = i1 ∨ c = i2 ∨ c = i3 := by simpa using hc
    rcases e' with q | q | q | q | q | q
    · rw [q]; exact ⟨_, hz, fun v q => nomatch q⟩
    · rw [q]; exact ⟨_, hTI, fun v q => nomatch q⟩
    · rw [q]; exact ⟨_, hTO, fun v q => nomatch q⟩
    · rw [q]; exact KD.obj h1
    · rw [q]; exact KD.obj h2
    · rw [q]; exact KD.obj h3
  keep := fun i h h' st k => by
    obtain ⟨hz, hTI, ⟨x, y, y3, hTO⟩, h1, h2, h3⟩ := st
    exact ⟨k z (by simp) _ hz, k TI (by simp) _ hTI, ⟨x, y, y3, k TO (by simp) _ hTO⟩, KD.at h1 fun o q => k i1 (by simp) o q, KD.at h2 fun o q => k i2 (by simp) o q, KD.at h3 fun o q => k i3 (by simp) o q⟩
  item := by
    intro X hP hw hK hc i pins s σ H E I hf st hg
    subst hP hw hK
    obtain ⟨hz, hTI, ⟨x0, y0, t0, hTO⟩, h1, h2, h3⟩ := st
    obtain ⟨xs, ys, ts, x, y, t, hqx, hqy, hqt, hx, hy, ht⟩ := hg
    obtain ⟨its, rv, p, _⟩ := KD.inv I hqx
    obtain ⟨its2, rv2, p2, _⟩ := KD.inv I hqy
    obtain ⟨its3, rv3, p3, _⟩ := KD.inv I hqt
    obtain ⟨u, hu, ru⟩ := rv.get hx
    obtain ⟨u2, hu2, ru2⟩ := rv2.get hy
    obtain ⟨u3, hu3, ru3⟩ := rv3.get ht
    have hu' : its.toArray[i]? = some u := by simpa using hu
    have hu2' : its2.toArray[i]? = some u2 := by simpa using hu2
    have hu3' : its3.toArray[i]? = some u3 := by simpa using hu3
    have hzl : z < s.heap.objs.size := Heap.lt_size hz
    have hh : (X.A.in1).handled = none := I.ok.hd hc
    refine wpAny_pyNext_zipD3_item D (k1.draws hh i1 a (KD.ne h1 p) its.toArray) (k2.draws hh i2 b (KD.ne h2 p2) its2.toArray) (k3.draws hh i3 a3 (KD.ne h3 p3) its3.toArray) hz hTI hTO ⟨h1, p⟩ ⟨h2, p2⟩ ⟨h3, p3⟩ (Array.getElem?_eq_some_iff.mp hu').1 (Array.getElem?_eq_some_iff.mp hu2').1 (Array.getElem?_eq_some_iff.mp hu3').1 fun v1 v2 v3 h' tk e1 e2 e3 z' TO' h1' h2' h3' hT hsz hk => ?_
    rw [hu'] at e1
    rw [hu2'] at e2
    rw [hu3'] at e3
    cases e1
    cases e2
    cases e3
    refine ⟨_, rfl, wpAny_letOwnedTupleGo_zip (s := { s with heap := h', toks := tk }) z' fun h'' z'' sb => ?_⟩
    have hT2 : h''.get? s.heap.objs.size = some { cls := .type "tuple", data := .seq #[u, u2, u3] } := (sb.2 _ (Nat.ne_of_gt hzl)).trans hT
    have new : ObjOk X.prog X.w (upd H s.heap.objs.size (.tup [x, y, t])) h'' s.heap.objs.size (.tup [x, y, t]) :=
      ⟨by show 3 ≤ sizeLine; decide, [u, u2, u3], .cons ru (.cons ru2 (.cons ru3 .nil)), ⟨_, hT2, rfl, _, rfl⟩⟩
    have I1 : Inv X pins σ (upd H s.heap.objs.size (.tup [x, y, t])) { s with heap := h'', toks := tk } :=
      I.turnedNew (t' := tk) (ch := [z, TI, TO, i1, i2, i3]) (fun c o hb q => (sb.2 c (fun q' => hb (by simp [q']))).trans (hk c o (fun q' => hb (by simp [q'])) (fun q' => hb (by simp [q'])) (fun q' => hb (by simp [q'])) (fun q' => hb (by simp [q'])) (fun q' => hb (by simp [q'])) q)) hf (Nat.le_refl _) new
    refine ⟨.ref s.heap.objs.size, _, I1, rfl, ⟨_, x, y, t, rfl, I.hok.fresh (Nat.le_refl _), rfl, fun l hl => by rw [KD.inj I hl hqx]; exact hx, fun l hl => by rw [KD.inj I hl hqy]; exact hy, fun l hl => by rw [KD.inj I hl hqt]; exact ht⟩, ⟨z'', ?_, ⟨u, u2, u3, ?_⟩, ?_, ?_, ?_⟩, fun c hcm => ?_⟩
    · exact (sb.2 _ D.TIz).trans (hk _ _ D.TIz D.TITO D.TIi1 D.TIi2 D.TIi3 hTI)
    · exact (sb.2 _ D.TOz).trans TO'
    · exact KD.at h1'.1 fun o q => (sb.2 _ D.zi1.symm).trans q
    · exact KD.at h2'.1 fun o q => (sb.2 _ D.zi2.symm).trans q
    · exact KD.at h3'.1 fun o q => (sb.2 _ D.zi3.symm).trans q
    · have hlt : c < s.heap.objs.size := by
        have e' : c = z ∨ c = TI ∨ c = TO ∨ c = i1 ∨ c = i2 ∨ c = i3 := by simpa using hcm
        rcases e' with q | q | q | q | q | q
        · rw [q]; exact hzl
        · rw [q]; exact Heap.lt_size hTI
        · rw [q]; exact Heap.lt_size hTO
        · rw [q]; obtain ⟨_, e1, _⟩ := KD.obj h1; exact Heap.lt_size e1
        · rw [q]; obtain ⟨_, e2, _⟩ := KD.obj h2; exact Heap.lt_size e2
        · rw [q]; obtain ⟨_, e3, _⟩ := KD.obj h3; exact Heap.lt_size e3
      rw [upd_ne (Nat.ne_of_lt hlt)]
      exact (hf c hcm).1
  done := by
    intro X hP hw hK hc i pins s σ H E I hf st hg
    subst hP hw hK
    obtain ⟨hz, hTI, ⟨x0, y0, t0, hTO⟩, h1, h2, h3⟩ := st
    obtain ⟨xs, ys, ts, hqx, hqy, hqt, hx, hy, ht, hend⟩ := hg
    obtain ⟨its, rv, p, _⟩ := KD.inv I hqx
    obtain ⟨its2, rv2, p2, _⟩ := KD.inv I hqy
    obtain ⟨its3, rv3, p3, _⟩ := KD.inv I hqt
    have l1 := rv.length
    have l2 := rv2.length
    have l3 := rv3.length
    have hh : (X.A.in1).handled = none := I.ok.hd hc
    exact wpAny_pyNext_zipD3_end D (k1.draws hh i1 a (KD.ne h1 p) its.toArray) (k2.draws hh i2 b (KD.ne h2 p2) its2.toArray) (k3.draws hh i3 a3 (KD.ne h3 p3) its3.toArray) hz hTI hTO ⟨h1, p⟩ ⟨h2, p2⟩ ⟨h3, p3⟩ (by simp; omega) (by simp; omega) (by simp; omega) (by simp; omega) fun h' tk hk => ⟨rfl, I.turnedL (t' := tk) (ch := [z, TI, TO, i1, i2, i3]) (fun c o hb q =>
      hk c o (fun q' => hb (by simp [q'])) (fun q' => hb (by simp [q'])) (fun q' => hb (by simp [q'])) (fun q' => hb (by simp [q'])) (fun q' => hb (by simp [q'])) q) hf⟩
  self := fun A i s Q E st h => wpAny_pyIter_zip st.1 h
section
variable {X : Cx} {k : RC} {C : PC} {pos : Pos}
theorem qi_zip3 (hX : XOk X k) {b : Bool} {e1 e2 e3 : Expr} {ia ic i3 : IE} {p tpos : Pos} {elts : List Expr} {kk : Nat} (hg : Gl X "zip") (hm : X.mg "zip" = none) (ha : PA X [e1, e2, e3] (tA C k b (.acons ia (.acons ic (.acons i3 .anil)))))
    (hs : starEach [e1, e2, e3] X.env = (false, eval e1 X.env) :: starEach [e2, e3] X.env) (hpl : (backTo pos (starEach [e2, e3] X.env)).any (·.1) = false) :
    PI X (.Tuple elts kk tpos) (.Call (.Name "zip" p) [e1, e2, e3] [] pos) (tI C k b true (.itZip3 ia ic i3)) := by
  refine ⟨fun pins s σ H Rr I ⟨ρ, F, QQ, rel, wp, fin⟩ => ?_⟩
  have hK := hX.K
  refine Call_ (ld_blt I hg hm PyProof.Rows.boot_zip (PyProof.Rows.callWith_type1 (thn (ha.run pos pins s σ H (fun vs H1 => ∃ ds ρ1 F1, Rel k ρ1 σ F1 H1 ∧ ETr k ρ σ F H ρ1 F1 H1 ∧ ARel k b F1 H1 vs ds ∧ (match ds with | [x, y, t] => ∃ xs ys ts, seqD x = some xs ∧ seqD y = some ys ∧ seqD t = some ts ∧ (xs.length ≤ sizeLine → QQ ((xs.zip (ys.zip ts)).map fun p => .tup [p.1, p.2.1, p.2.2]) ρ1) | _ => False)) I
    ⟨ρ, F, fun ds ρ1 => (match ds with | [x, y, t] => ∃ xs ys ts, seqD x = some xs ∧ seqD y = some ys ∧ seqD t = some ts ∧ (xs.length ≤ sizeLine → QQ ((xs.zip (ys.zip ts)).map fun p => .tup [p.1, p.2.1, p.2.2]) ρ1) | _ => False), rel, wp, fun ds ρ1 vs F1 H1 r t a q => ⟨ds, ρ1, F1, r, t, a, q⟩⟩) fun us s1 ⟨vs, H1, I1, r1, ds, ρ1, F1, rel1, tr1, ar, q⟩ => ?_) hs hpl))
  match ds, ar, q with
  | [x, y, t], ar, ⟨xs, ys, ts, ex, ey, et, q⟩ =>
  obtain ⟨v1, vs1, rfl⟩ := ar.split
  obtain ⟨v2, vs2, rfl⟩ := ar.rest.split
  obtain ⟨v3, vs3, rfl⟩ := ar.rest.rest.split
  cases ar.rest.rest.rest.done
  have A1 := ar.fst
  have A2 := ar.rest.fst
  have A3 := ar.rest.rest
  obtain ⟨a1, rfl⟩ := src_ref rel1.sub A1.br ex
  obtain ⟨a2, rfl⟩ := src_ref rel1.sub A2.br ey
  obtain ⟨a3, rfl⟩ := src_ref rel1.sub A3.br et
  obtain ⟨w1, q1, rs1⟩ := src_at rel1.sub A1.br ex (kd_iff x xs ex)
  obtain ⟨w2, q2, rs2⟩ := src_at rel1.sub A2.br ey (kd_iff y ys ey)
  obtain ⟨w3, q3, rs3⟩ := src_at rel1.sub A3.br et (kd_iff t ts et)
  cases r1 with
  | cons r rr =>
  cases rr with
  | cons r' rr =>
  cases rr with
  | cons r'' rr =>
  cases rr
  cases r
  cases r'
  cases r''
  obtain ⟨its1, rv1, p1, l1⟩ := KD.inv I1 (hK ▸ q1)
  obtain ⟨its2, rv2, p2, l2⟩ := KD.inv I1 (hK ▸ q2)
  obtain ⟨its3, rv3, p3, l3⟩ := KD.inv I1 (hK ▸ q3)
  refine zip_begins3 (KD.begins (kdOf x) a1 its1.toArray) (KD.begins (kdOf y) a2 its2.toArray) (KD.begins (kdOf t) a3 its3.toArray) p1 p2 p3 fun h' hz hTI hTO g1 g2 g3 hsz hk => wpAny_pyIter_zip hz ?_
  have I2 : Inv X pins σ H1 { s1 with heap := h' } := I1.kept (t' := s1.toks) hk
  refine ⟨s1.heap.objs.size + 5, [s1.heap.objs.size + 5, s1.heap.objs.size + 3, s1.heap.objs.size + 4, s1.heap.objs.size, s1.heap.objs.size + 1, s1.heap.objs.size + 2], _, Itz3 X.K (kdOf x) (kdOf y) (kdOf t) a1 a2 a3, H1, rfl, I2, turn_zip3 (zip_sep3 (fp1 := [a1]) (fp2 := [a2]) (fp3 := [a3]) (by simpa using l1) (by simpa using l2) (by simpa using l3)), ⟨hz, hTI, ⟨_, _, _, hTO⟩, KD.start g1, KD.start g2, KD.start g3⟩, fun c hcm => ?_, fin _ ρ1 F1 H1 _ rel1 tr1 (fun F' H' st i => ?_) (q (seq_len hX I1 rel1.sub A1.br ex))⟩
  · have e' : c = s1.heap.objs.size + 5 ∨ c = s1.heap.objs.size + 3 ∨ c = s1.heap.objs.size + 4 ∨ c = s1.heap.objs.size ∨ c = s1.heap.objs.size + 1 ∨ c = s1.heap.objs.size + 2 := by simpa using hcm
    refine fresh5 I1 c ?_
    rcases e' with z | z | z | z | z | z
    · rw [z]; exact Nat.le_add_right _ _
    · rw [z]; exact Nat.le_add_right _ _
    · rw [z]; exact Nat.le_add_right _ _
    · rw [z]; exact Nat.le_refl _
    · rw [z]; exact Nat.le_add_right _ _
    · rw [z]; exact Nat.le_add_right _ _
  · obtain ⟨u1, t1, n1⟩ := src_at st.2.2 (stay_br A1 st) ex (kd_iff x xs ex)
    obtain ⟨u2, t2, n2⟩ := src_at st.2.2 (stay_br A2 st) ey (kd_iff y ys ey)
    obtain ⟨u3, t3, n3⟩ := src_at st.2.2 (stay_br A3 st) et (kd_iff t ts et)
    rw [hK] at t1 t2 t3
    have m1 := n1.length
    have m2 := n2.length
    have m3 := n3.length
    refine ⟨fun hi => ⟨u1, u2, u3, t1, t2, t3, ?_, ?_, ?_, ?_⟩, fun d hd => ?_⟩
    · rw [List.length_map, List.length_zip, List.length_zip] at hi; omega
    · rw [List.length_map, List.length_zip, List.length_zip] at hi; omega
    · rw [List.length_map, List.length_zip, List.length_zip] at hi; omega
    · rw [List.length_map, List.length_zip, List.length_zip] at hi; omega
    · rw [List.getElem?_map] at hd
      obtain ⟨pq, hp, rfl⟩ := Option.map_eq_some_iff.mp hd
      obtain ⟨h1, h23⟩ := List.getElem?_zip_eq_some.mp hp
      obtain ⟨h2, h3⟩ := List.getElem?_zip_eq_some.mp h23
      obtain ⟨b1, c1, d1⟩ := n1.get h1
      obtain ⟨b2, c2, d2⟩ := n2.get h2
      obtain ⟨b3, c3, d3⟩ := n3.get h3
      refine ⟨⟨u1, u2, u3, b1, b2, b3, t1, t2, t3, c1, c2, c3⟩, ?_⟩
      rintro z H'' ⟨T, y1, y2, y3, rfl, hT, rfl, f1, f2, f3⟩
      have z1 := (f1 _ t1).symm.trans c1
      have z2 := (f2 _ t2).symm.trans c2
      have z3 := (f3 _ t3).symm.trans c3
      cases z1
      cases z2
      cases z3
      exact ⟨Same.upd_new hT, .inr ⟨rfl, T, _, _, rfl, rfl, upd_same, .cons d1 (.cons d2 (.cons d3 .nil))⟩⟩
end
end PL
namespace PL
open PySem PySem.Spec PyProof.Rows L2
theorem meets_enum1 {v : Value} {o : Obj} {H : Heap → Prop} (B : Begins v o H) :
    Meets (Builtin.«enumerate.__new__» ⟨[.type "enumerate", v], []⟩) (fun _ R s => H s.heap ∧
      R (.ok (.ret (.ref (s.heap.push o).objs.size))) { s with heap := (s.heap.push o).push { cls := .type "enumerate", data := .fields #[.none, .bool false, .ref s.heap.objs.size, rawInt 0, .none, .none] } }) :=
  .of_wp fun prog w A R s h => by
    obtain ⟨hp, g, d, tk, os⟩ := s; obtain ⟨h1, h⟩ := h
    have hsub := sub_enumerate
    have q1 : ∀ {A' : Around} {E : Value → Shared → Prop} {Q : Value → Shared → Prop}, Q (.ref hp.objs.size) ⟨hp.push o, g, d, tk, os⟩ → wpAny (model prog w) A' (pyIter v) Q E ⟨hp, g, d, tk, os⟩ :=
      fun q => B.iter prog w _ _ ⟨hp, g, d, tk, os⟩ _ h1 q
    wp_walk using q1
    refine wpAny_stack_any fun st => wpAny_pure ?_
    split
    · rename_i c _ _ _ _ _
      cases (c == Value.type "enumerate")
      · wp_walk using q1
        exact ⟨_, rfl, h⟩
      · wp_walk using q1
        exact ⟨_, rfl, h⟩
    · wp_walk using q1
      exact ⟨_, rfl, h⟩
theorem enum1_begins {prog : Program} {w : World} {A : Around} {E : Value → Shared → Prop} {s : Shared} {v : Value} {o : Obj} {H : Heap → Prop} {Q : Value → Shared → Prop} (B : Begins v o H) (h1 : H s.heap)
    (h : ∀ h', IsEnum h' (s.heap.objs.size + 1) s.heap.objs.size 0 .none → h'.get? s.heap.objs.size = some o → h'.objs.size = s.heap.objs.size + 2 →
      (∀ b o, s.heap.get? b = some o → h'.get? b = some o) → Q (.ref (s.heap.objs.size + 1)) { s with heap := h' }) :
    wpAny (model prog w) A (call (.type "enumerate") [v]) Q E s := by
  refine callType_new F.called_enumerate (by decide) (F.typeCall_enumerate_1 _) (F.newCall_enumerate_1 _) (fun obj => F.args_object_init_2 obj _) F.entry_enumerate_new
    (meets_enum1 B) ⟨h1, ?_⟩
  have hz : (s.heap.push o).objs.size = s.heap.objs.size + 1 := Heap.size_push ..
  show _ ∧ _
  rw [hz]
  have he : IsEnum ((s.heap.push o).push { cls := .type "enumerate", data := .fields #[.none, .bool false, .ref s.heap.objs.size, rawInt 0, .none, .none] }) (s.heap.objs.size + 1) s.heap.objs.size 0 .none := by
    have := Heap.get?_push_size (s.heap.push o) (o := { cls := .type "enumerate", data := .fields #[.none, .bool false, .ref s.heap.objs.size, rawInt 0, .none, .none] }) rfl
    rw [hz] at this; exact this
  refine ⟨⟨_, he, rfl⟩, h _ he (Heap.get?_push_of_some _ (Heap.get?_push_size _ B.free)) (by rw [Heap.size_push, hz]) fun b o x => Heap.get?_push_of_some _ (Heap.get?_push_of_some _ x)⟩
def IteK (K : PySem.W.Frag) (kd : KD) (a : Addr) : It :=
  ⟨fun i H => ∃ (xs : List V) (x : V), kd.sq K H a xs ∧ xs[i]? = some x, fun i H v H' => ∃ T x, v = .ref T ∧ H T = none ∧ H' = upd H T (.tup [.int (i : Nat), x]) ∧ ∀ xs, kd.sq K H a xs → xs[i]? = some x, fun i H => ∃ xs : List V, kd.sq K H a xs ∧ i = xs.length⟩
theorem turn_enumK {P : Program} {w : World} {K : PySem.W.Frag} {elts : List Expr} {kk : Nat} {tpos : Pos} {kd : KD} (a e it : Addr) :
    Turn P w K (.Tuple elts kk tpos) (IteK K kd a) [e, it] e (fun i h => (∃ old, IsEnum h e it ((i : Nat) : Int) old) ∧ kd.it h it a i ∧ e ≠ it ∧ e ≠ a) where
  mem := by simp
  obj := fun i h st b hb => by
    obtain ⟨⟨old, he⟩, ht, _⟩ := st
    have e' : b = e ∨ b = it := by simpa using hb
    rcases e' with z | z
    · rw [z]; exact ⟨_, he, fun v q => nomatch q⟩
    · rw [z]; exact KD.obj ht
  keep := fun i h h' st k => let ⟨⟨old, he⟩, hi, hne⟩ := st; ⟨⟨old, k e (by simp) _ he⟩, KD.at hi fun o q => k it (by simp) o q, hne⟩
  item := by
    intro X hP hw hK hc i pins s σ H E I hf st hg
    subst hP hw hK
    obtain ⟨⟨old, he⟩, hit, hne, hea⟩ := st
    obtain ⟨xs, x, hq, hx⟩ := hg
    obtain ⟨its, rv, p, _⟩ := KD.inv I hq
    obtain ⟨u, hu, ru⟩ := rv.get hx
    have hu' : its.toArray[i]? = some u := by simpa using hu
    have hel : e < s.heap.objs.size := Heap.lt_size he
    have hil : it < s.heap.objs.size := by obtain ⟨_, q, _⟩ := KD.obj hit; exact Heap.lt_size q
    have hh : (X.A.in1).handled = none := I.ok.hd hc
    refine wpAny_pyNext_enum_itemD (kd.draws hh it a (KD.ne hit p) its.toArray) he ⟨hit, p⟩ (Array.getElem?_eq_some_iff.mp hu').1 hne (by simp [hne, hea]) fun v1 h' tk e1 ho hit' hT hsz hk => ?_
    rw [hu'] at e1
    cases e1
    refine ⟨_, rfl, wpAny_letOwnedTupleGo_enum (s := { s with heap := h', toks := tk + 1 }) ho fun h'' he' sb => ?_⟩
    have hT2 : h''.get? s.heap.objs.size = some { cls := .type "tuple", data := .seq #[.int i tk, u] } := (sb.2 _ (Nat.ne_of_gt hel)).trans hT
    have new : ObjOk X.prog X.w (upd H s.heap.objs.size (.tup [.int (i : Nat), x])) h'' s.heap.objs.size (.tup [.int (i : Nat), x]) :=
      ⟨by show 2 ≤ sizeLine; decide, [.int i tk, u], .cons ⟨_, rfl⟩ (.cons ru .nil), ⟨_, hT2, rfl, _, rfl⟩⟩
    have I1 : Inv X pins σ (upd H s.heap.objs.size (.tup [.int (i : Nat), x])) { s with heap := h'', toks := tk + 1 } :=
      I.turnedNew (ch := [e, it]) (fun b ob hb q => (sb.2 b (fun z => hb (by simp [z]))).trans (hk b ob (fun z => hb (by simp [z])) (fun z => hb (by simp [z])) q)) hf (Nat.le_refl _) new
    refine ⟨.ref s.heap.objs.size, _, I1, rfl, ⟨_, x, rfl, I.hok.fresh (Nat.le_refl _), rfl, fun ys hy => by rw [KD.inj I hy hq]; exact hx⟩, ⟨⟨u, ?_⟩, KD.at hit'.1 fun o q => (sb.2 it (Ne.symm hne)).trans q, hne, hea⟩, fun b hb => ?_⟩
    · have e1 : ((i + 1 : Nat) : Int) = (i : Int) + 1 := by omega
      rw [e1]; exact he'
    · have hb' : b < s.heap.objs.size := by
        have e' : b = e ∨ b = it := by simpa using hb
        rcases e' with z | z
        · rw [z]; exact hel
        · rw [z]; exact hil
      rw [upd_ne (Nat.ne_of_lt hb')]
      exact (hf b hb).1
  done := by
    intro X hP hw hK hc i pins s σ H E I hf st hg
    subst hP hw hK
    obtain ⟨⟨old, he⟩, hit, hne, hea⟩ := st
    obtain ⟨xs, hq, hx⟩ := hg
    obtain ⟨its, rv, p, _⟩ := KD.inv I hq
    obtain ⟨f0, f1, f2, f3, f4, f5⟩ := hf it (by simp)
    have hl := rv.length
    have hh : (X.A.in1).handled = none := I.ok.hd hc
    have hi : i = its.toArray.size := by simp; omega
    subst hi
    exact wpAny_pyNext_enum_endD (kd.draws hh it a (KD.ne hit p) its.toArray) he ⟨hit, p⟩ fun h' eb => ⟨rfl, I.turned (t' := s.toks) (fun b o hb q => eb b o hb q) f0 f1 f3 f4 f5⟩
  self := fun A i s Q E st h => let ⟨⟨_, he⟩, _⟩ := st; wpAny_pyIter_enum he h
section
variable {X : Cx} {k : RC} {C : PC} {pos : Pos}
theorem qi_enum (hX : XOk X k) {b : Bool} {e1 : Expr} {ia : IE} {p tpos : Pos} {elts : List Expr} {kk : Nat} (hg : Gl X "enumerate") (hm : X.mg "enumerate" = none) (ha : PA X [e1] (tA C k b (.acons ia .anil))) (hs : starEach [e1] X.env = [(false, eval e1 X.env)]) :
    PI X (.Tuple elts kk tpos) (.Call (.Name "enumerate" p) [e1] [] pos) (tI C k b true (.itEnum ia)) := by
  refine ⟨fun pins s σ H Rr I ⟨ρ, F, QQ, rel, wp, fin⟩ => ?_⟩
  have hK := hX.K
  refine Call_ (ld_blt I hg hm boot_enumerate (PyProof.Rows.callWith_type1 (thn (ha.run pos pins s σ H (fun vs H1 => ∃ ds ρ1 F1, Rel k ρ1 σ F1 H1 ∧ ETr k ρ σ F H ρ1 F1 H1 ∧ ARel k b F1 H1 vs ds ∧ (match ds with | [x] => ∃ xs, seqD x = some xs ∧ (xs.length ≤ sizeLine → QQ (xs.mapIdx fun k d => .tup [.int (k : Nat), d]) ρ1) | _ => False)) I
    ⟨ρ, F, fun ds ρ1 => (match ds with | [x] => ∃ xs, seqD x = some xs ∧ (xs.length ≤ sizeLine → QQ (xs.mapIdx fun k d => .tup [.int (k : Nat), d]) ρ1) | _ => False), rel, wp, fun ds ρ1 vs F1 H1 r t a q => ⟨ds, ρ1, F1, r, t, a, q⟩⟩) fun us s1 ⟨vs, H1, I1, r1, ds, ρ1, F1, rel1, tr1, ar, q⟩ => ?_) hs rfl))
  match ds, ar, q with
  | [x], ar, ⟨xs, ex, q⟩ =>
  obtain ⟨v1, vs1, rfl⟩ := ar.split
  cases ar.rest.done
  obtain ⟨a1, rfl⟩ := src_ref rel1.sub ar.br ex
  obtain ⟨w1, q1, rs1⟩ := src_at rel1.sub ar.br ex (kd_iff x xs ex)
  cases r1 with
  | cons r rr =>
  cases rr
  cases r
  obtain ⟨its1, rv1, p1, l1⟩ := KD.inv I1 (hK ▸ q1)
  refine enum1_begins (KD.begins (kdOf x) a1 its1.toArray) p1 fun h' he g1 hsz hk => wpAny_pyIter_enum he ?_
  have I2 : Inv X pins σ H1 { s1 with heap := h' } := I1.kept (t' := s1.toks) hk
  refine ⟨s1.heap.objs.size + 1, [s1.heap.objs.size + 1, s1.heap.objs.size], _, IteK X.K (kdOf x) a1, H1, rfl, I2, turn_enumK a1 (s1.heap.objs.size + 1) s1.heap.objs.size, ⟨⟨.none, he⟩, KD.start g1, Nat.succ_ne_self _, fun z => Nat.not_succ_lt_self (z ▸ l1 : s1.heap.objs.size + 1 < s1.heap.objs.size)⟩, fun c hcm => ?_, fin _ ρ1 F1 H1 _ rel1 tr1 (fun F' H' st i => ?_) (q (seq_len hX I1 rel1.sub ar.br ex))⟩
  · have e' : c = s1.heap.objs.size + 1 ∨ c = s1.heap.objs.size := by simpa using hcm
    refine fresh5 I1 c ?_
    rcases e' with z | z
    · rw [z]; exact Nat.le_add_right _ _
    · rw [z]; exact Nat.le_refl _
  · obtain ⟨u1, t1, n1⟩ := src_at st.2.2 (stay_br ar st) ex (kd_iff x xs ex)
    rw [hK] at t1
    have m1 := n1.length
    refine ⟨fun hi => ⟨u1, t1, ?_⟩, fun d hd => ?_⟩
    · rw [List.length_mapIdx] at hi; omega
    · rw [List.getElem?_mapIdx] at hd
      obtain ⟨d1, hp, rfl⟩ := Option.map_eq_some_iff.mp hd
      obtain ⟨b1, c1, d1⟩ := n1.get hp
      refine ⟨⟨u1, b1, t1, c1⟩, ?_⟩
      rintro z H'' ⟨T, y1, rfl, hT, rfl, f1⟩
      have z1 := (f1 _ t1).symm.trans c1
      cases z1
      exact ⟨Same.upd_new hT, .inr ⟨rfl, T, _, _, rfl, rfl, upd_same, .cons (.int _) (.cons d1 .nil)⟩⟩
end
end PL
namespace PL
open PySem PySem.Spec PyProof.Rows L2
def Itw (d : Addr) (o : Obj) (es : List DictEntry) : It :=
  ⟨fun i H => H d = some (exO d o) ∧ i < es.length, fun i H x H' => ∃ (T : Addr) (k v : V) (e : DictEntry), x = .ref T ∧ H T = none ∧ H' = upd H T (.tup [k, v]) ∧ es[i]? = some e ∧ RelV k e.key ∧ RelV v e.val, fun i H => H d = some (exO d o) ∧ es.length ≤ i⟩
theorem turn_w {P : Program} {w : World} {K : PySem.W.Frag} {elts : List Expr} {kk : Nat} {tpos : Pos} {d : Addr} {o : Obj} {es : List DictEntry} {ep : Nat} (it : Addr) (hc : o.ExactDict) (hod : o.data = .dict es.toArray ep) (hv : ∀ e ∈ es, (∃ x, RelV x e.key) ∧ ∃ y, RelV y e.val) :
    Turn P w K (.Tuple elts kk tpos) (Itw d o es) [it] it (fun i h => ∃ ok ov, IsItemIter h it d i es.toArray.size ep ok ov) where
  mem := by simp
  obj := fun i h st b hb => by
    have e : b = it := by simpa using hb
    subst e
    obtain ⟨ok, ov, e⟩ := st
    exact ⟨_, e, fun v z => nomatch z⟩
  keep := fun i h h' st k => let ⟨ok, ov, e⟩ := st; ⟨ok, ov, k it (by simp) _ e⟩
  item := by
    intro X hP hw hK hcm i pins s σ H E I hf st hg
    subst hP hw hK
    obtain ⟨hd, hi⟩ := hg
    obtain ⟨ok, ov, he⟩ := st
    have ho := exO_get I hd
    have hlt : it < s.heap.objs.size := Heap.lt_size he
    have hsz : i < es.toArray.size := by simpa using hi
    obtain ⟨⟨k, rk⟩, ⟨v, rv⟩⟩ := hv es[i] (List.getElem_mem hi)
    refine DT.nextI he ⟨o, ho, hc, hod⟩ hsz fun h' ho' hT hz hk => ?_
    refine ⟨_, rfl, wpAny_letOwnedTupleGo_items (s := { s with heap := h' }) ho' fun h'' he' sb => ?_⟩
    have hT2 : h''.get? s.heap.objs.size = some { cls := .type "tuple", data := .seq #[es[i].key, es[i].val] } := (sb.2 _ (Nat.ne_of_gt hlt)).trans hT
    have new : ObjOk X.prog X.w (upd H s.heap.objs.size (.tup [k, v])) h'' s.heap.objs.size (.tup [k, v]) :=
      ⟨by show 2 ≤ sizeLine; decide, [es[i].key, es[i].val], .cons rk (.cons rv .nil), ⟨_, hT2, rfl, _, rfl⟩⟩
    have I1 : Inv X pins σ (upd H s.heap.objs.size (.tup [k, v])) { s with heap := h'' } :=
      I.turnedNew (t' := s.toks) (ch := [it]) (fun b ob hb e => (sb.2 b (by simpa using hb)).trans (hk b ob (by simpa using hb) e)) hf (Nat.le_refl _) new
    refine ⟨.ref s.heap.objs.size, _, I1, rfl, ⟨_, k, v, es[i], rfl, I.hok.fresh (Nat.le_refl _), rfl, List.getElem?_eq_getElem hi, rk, rv⟩, ⟨_, _, he'⟩, fun b hb => ?_⟩
    have e : b = it := by simpa using hb
    rw [e, upd_ne (Nat.ne_of_lt hlt)]
    exact (hf it (by simp)).1
  done := by
    intro X hP hw hK hcm i pins s σ H E I hf st hg
    subst hP hw hK
    obtain ⟨hd, hi⟩ := hg
    obtain ⟨f0, f1, f2, f3, f4, f5⟩ := hf it (by simp)
    obtain ⟨ok, ov, he⟩ := st
    exact DT.endI (I.ok.hd hcm) he ⟨o, exO_get I hd, hc, hod⟩ (by simpa using hi) fun h' eb => ⟨rfl, I.turned (t' := s.toks) (fun b ob hb e => eb b ob hb e) f0 f1 f3 f4 f5⟩
  self := fun A i s Q E st h => let ⟨_, _, e⟩ := st; PySem.W.kcp_self e h
theorem rk_get2 {k : RC} {F : Hp} : ∀ {es : List DictEntry} {kvs : List (D × D)} {i : Nat} {e : DictEntry}, RKs k F es kvs → es[i]? = some e → ∃ p v y, kvs[i]? = some p ∧ RelV v e.key ∧ R k F v p.1 ∧ RelV y e.val ∧ R k F y p.2
  | _, _, _, _, .nil, h => by simp at h
  | _, _, 0, _, .cons h1 h2 h3 h4 _ _ _ _, h => by simp at h; subst h; exact ⟨_, _, _, rfl, h1, h2, h3, h4⟩
  | _, _, i + 1, e, .cons _ _ _ _ _ _ _ r, h => by
    obtain ⟨p, v, y, h1, h2⟩ := rk_get2 (i := i) (e := e) r (by simpa using h)
    exact ⟨p, v, y, by simpa using h1, h2⟩
section
variable {X : Cx} {k : RC} {C : PC}
theorem qi_items (hX : XOk X k) {b : Bool} {e1 : Expr} {ia : IE} {apos cpos tpos : Pos} {elts : List Expr} {kk : Nat} (he : PE X e1 (tE C k ia)) (hbase : attributeBase e1 "items" X.env (eval e1 X.env) = eval e1 X.env) (hline : (apos.endLine == cpos.line) = true) :
    PI X (.Tuple elts kk tpos) (.Call (.Attribute e1 "items" apos) [] [] cpos) (tI C k b true (.itItems ia)) := by
  refine ⟨fun pins s σ H Rr I ⟨ρ, F, QQ, rel, wp, fin⟩ => ?_⟩
  have hK := hX.K
  refine wpAny_Call_method (T := "dict") (id := "dict.items") hbase rfl hline PySem.F.plainAttrs_dict PySem.F.slot_dict_items PySem.F.type_dict_items (thn (he.run pins s σ H (fun v H1 => ∃ ρ1 F1 r, EPost k ρ σ F H r v ρ1 F1 H1 ∧ (if b = true then (fun K : D → Prop => K r.toD) else r.kept) fun d => ∃ kvs, d = .dct kvs ∧ (kvs.length ≤ sizeLine → QQ (kvs.map fun p => .tup [p.1, p.2]) ρ1)) I ⟨ρ, F, _, rel, wp, fun r ρ1 v F1 H1 p q => ⟨ρ1, F1, r, p, q⟩⟩) fun u s1 ⟨x, H1, I1, rx, ρ1, F1, r, p, q⟩ => ?_)
  obtain ⟨d, F2, ⟨kvs, rfl, q2⟩, br, hb, rel2, tr2⟩ := come rel p q
  obtain ⟨a, es, rfl, ⟨o, ep, g1, g2, g3, g4, g5⟩, rk, nd, un⟩ := br.dct rel2.sub
  cases rx
  have ho := exO_get I1 g1
  have raw : DT.Raw s1.heap a es.toArray ep := ⟨o, ho, g2, g3⟩
  refine ⟨raw.typeIs, fun c z => by cases z; exact ⟨o, ho, g2.2.1⟩, ?_⟩
  have I2 : Inv X pins σ H1 { s1 with heap := s1.heap.push { cls := .type "dict_items", data := .fields #[.ref a] } } := I1.kept (t' := s1.toks) fun b ob q => Heap.get?_push_of_some _ q
  have fin2 : wpAny (model X.prog X.w) X.A (pyIter (.ref s1.heap.objs.size)) (PIE X pins σ (.Tuple elts kk tpos) Rr) X.xe { s1 with heap := s1.heap.push { cls := .type "dict_items", data := .fields #[.ref a] } } := by
    refine DT.iterI ⟨_, Heap.get?_push_size _ rfl, rfl, rfl⟩ (raw.push _) (pi_one (tk := s1.toks) I2 _ (turn_w (es := es) _ g2 g3 fun e he => ?_) ⟨.none, .none, Heap.get?_push_size _ rfl⟩ (fin _ ρ1 F2 H1 _ rel2 tr2 (fun F' H' st i => ?_) (q2 (by rw [← rk.length]; exact g5))))
    · obtain ⟨i, hi⟩ := List.mem_iff_getElem?.mp he
      obtain ⟨p, v, y, _, h2, _, h3, _⟩ := rk_get2 rk hi
      exact ⟨⟨v, h2⟩, ⟨y, h3⟩⟩
    · obtain ⟨a1, a2, a3⟩ := st
      have same : H' a = some (exO a o) := by
        cases b with
        | true =>
          refine a2 rfl _ _ g1 fun ⟨p, q, z⟩ => ?_
          obtain ⟨_, _, _, _, m, _, _, c1⟩ := rel2.pool p q a z
          have := c1.symm.trans g1
          cases this
        | false =>
          have hbr := hb rfl
          cases hbr with
          | dct da _ _ _ =>
            obtain ⟨oF, epF, f1, _⟩ := da
            have e1 := exO_get I1 (rel2.sub _ _ f1)
            have e2 := ho.symm.trans e1
            cases e2
            exact a3 _ _ (a1 _ _ f1)
      refine ⟨fun hi => ⟨same, by rw [rk.length]; rw [List.length_map] at hi; exact Nat.le_of_eq hi.symm⟩, fun d hd => ?_⟩
      rw [List.getElem?_map] at hd
      obtain ⟨q, hq, rfl⟩ := Option.map_eq_some_iff.mp hd
      have hlt : i < es.length := by rw [rk.length]; exact (List.getElem?_eq_some_iff.mp hq).1
      refine ⟨⟨same, hlt⟩, ?_⟩
      rintro y H'' ⟨T, kv, vv, e, rfl, hT, rfl, e2, e3, e4⟩
      obtain ⟨p, v, y, p1, p2, p3, p4, p5⟩ := rk_get2 rk e2
      have := p1.symm.trans hq
      cases this
      have := e3.inj p2
      subst this
      have := e4.inj p4
      subst this
      exact ⟨Same.upd_new hT, .inr ⟨rfl, T, _, _, rfl, rfl, upd_same, .cons (p3.mono a1) (.cons (p5.mono a1) .nil)⟩⟩
  show wpAny _ _ (callWith cpos (.builtin "dict.items") [.ref a] [] []) _ X.xe s1
  exact method_meetsIn PySem.F.slot_dict_items PySem.F.entry_dict_items rfl (PySem.evalArgs_none ⟨rfl, raw.typeIs, PySem.F.args_dict_items_1 _, _, DT.meetsItems (es := es.toArray) (ep := ep) g4, ⟨raw, fin2⟩⟩)
end
end PL
namespace PL
open PySem PySem.Spec PyProof.Rows L2
section
variable {X : Cx} {k : RC} {C : PC}
theorem wipe_sub {vs vs1 : List Nat} {σ : L2.St} (hv : ∀ i ∈ vs1, i ∈ vs) : L2.wipe (L2.wipe σ vs1) vs = L2.wipe σ vs := by
  apply List.ext_getElem?
  intro j
  have h1 := wipe_get (σ := L2.wipe σ vs1) (vs := vs) (j := j)
  have h2 := wipe_get (σ := σ) (vs := vs) (j := j)
  have h3 := wipe_get (σ := σ) (vs := vs1) (j := j)
  rw [h1, h2, wipe_length]
  by_cases e : j ∈ vs
  · rw [if_pos e, if_pos e]
  · rw [if_neg e, if_neg e, h3, if_neg fun z => e (hv j z)]
theorem lc2_sem {vs vs1 : List Nat} {tg tg1 : Tg} {tp tp1 : Bool} {it ic it1 ic1 ie : IE} {σ : L2.St} {H : Hp} {Q : VK} (htp : tp = true → ∃ is, tg = .tp is) (htg : ∀ i ∈ tg.slots, i ∈ vs) (htp1 : tp1 = true → ∃ is, tg1 = .tp is) (htg1 : ∀ i ∈ tg1.slots, i ∈ vs1) (hv : ∀ i ∈ vs1, i ∈ vs)
    (h : tE C k (.comp2 vs vs1 tg it ic tg1 it1 ic1 ie) σ H Q) : tLc2 (tI C k true tp it) (tG k tg) (tT C k ic) (tI C k false tp1 it1) (tG k tg1) (tT C k ic1) (tE C k ie) vs vs1 σ H Q := by
  obtain ⟨ρ, F, QQ, rel, ⟨hpl, wp⟩, fin⟩ := h
  refine ⟨ρ, F, _, rel, wp, fun ds ρ1 F1 H1 J rel1 tr1 itok q => fun D hD => ?_⟩
  have hpl1 : ∀ i ∈ vs, (ρ1.get i).plain = true := fun i hi => by
    cases e : (ρ1.get i).plain with
    | true => rfl
    | false =>
      obtain ⟨a, e1, _⟩ := SlotR.here (x := none) (rel1.slot i) e
      have := (tr1.own i a ⟨e, e1⟩).1
      rw [plain_at hpl hi] at this
      cases this
  have hn : H D = none := none_back tr1.there hD
  have relw := (rel1.wipe (vs := vs)).newH (o := .lst []) hD
  have btr : BTr k ρ σ F H (ρ1.wipe vs) (L2.wipe σ vs) F1 (upd H1 D (.lst [])) := (tr1.b.slots fun i a z => (own_wipe z).1).write hn
  have nd : NewD k (ρ1.wipe vs) (L2.wipe σ vs) F1 (upd H1 D (.lst [])) D [] := ⟨⟨[], upd_same, .nil⟩, rel1.fnone hD, rel1.nopN hD, fun i z => by
    have := rel1.ownH (own_wipe z).1
    exact this hD⟩
  refine ⟨fun i m H' => m = ds.length - i ∧ i ≤ ds.length ∧ ∃ ρt F' acc, Rel k ρt (L2.wipe σ vs) F' H' ∧ BTr k ρ σ F H ρt (L2.wipe σ vs) F' H' ∧ Same F1 F' ∧ SameX k H1 H' ∧ NewD k ρt (L2.wipe σ vs) F' H' D acc ∧
      compL2 vs vs1 tg (wpE C ic) (wpI C false it1) tg1 (wpE C ic1) (wpE C ie) (ds.drop i) ρt acc (fun acc ρ2 => QQ (.own acc) (ρ1.back ρ2 vs)),
    ⟨ds.length, by simp, by omega, ρ1.wipe vs, F1, [], relw, btr, fun _ _ h => h, .of (Same.upd_new hD), nd, q⟩, ?_⟩
  rintro i m H' ⟨rfl, hi, ρt, F', acc, rel', tr', sub', heap', nd', q'⟩
  obtain ⟨i1, i2⟩ := itok F' H' ⟨sub', fun _ => heap', rel'.sub⟩ i
  by_cases hlt : i < ds.length
  · obtain ⟨go, yl⟩ := i2 ds[i] (List.getElem?_eq_getElem hlt)
    rw [List.drop_eq_getElem_cons hlt] at q'
    refine .inr ⟨go, fun H2 => ∃ ρt F' acc, Rel k ρt (L2.wipe σ vs) F' H2 ∧ BTr k ρ σ F H ρt (L2.wipe σ vs) F' H2 ∧ Same F1 F' ∧ SameX k H1 H2 ∧ NewD k ρt (L2.wipe σ vs) F' H2 D acc ∧
      compL2 vs vs1 tg (wpE C ic) (wpI C false it1) tg1 (wpE C ic1) (wpE C ie) (ds.drop (i + 1)) ρt acc (fun acc ρ2 => QQ (.own acc) (ρ1.back ρ2 vs)), fun H2 h => ⟨_, (by omega : ds.length - (i + 1) < ds.length - i), rfl, hlt, h⟩, fun x H'' y => ?_⟩
    obtain ⟨sH, iok⟩ := yl x H'' y
    have k0 : ETr k ρt (L2.wipe σ vs) F' H' ρt F' H'' := .keepH sH
    have rel2 := rel'.keepH sH
    refine ⟨ρt, F', ds[i], _, rel2, ?_, q', fun ρ3 σ3 rel3 tt q3 => ?_⟩
    · rcases iok with r | ⟨h1, T, ws, es, h2, h3, h4, h5⟩
      · exact .inl r
      · obtain ⟨is, e⟩ := htp h1
        exact .inr ⟨is, T, ws, es, e, h2, h3, h4, h5⟩
    · have w3 : L2.wipe σ3 vs = L2.wipe σ vs := (tt.wp vs htg).trans wipe_idem
      refine ⟨w3, ρ3, F', _, rel3, q3, fun b ρ4 F4 H4 rel4 tr4 ⟨b', eb, q4⟩ => ?_⟩
      cases eb
      have nd4 := ((nd'.next k0).slots tt.own).next tr4
      have tr4' := ((tr'.next k0).slots tt.own).next tr4
      have sub4 : Same F1 F4 := fun b o e => tr4.sub b o (sub' b o e)
      have heap4 : SameX k H1 H4 := (heap'.trans k0.heap).trans tr4.heap
      -- the turn's end
      have ends : ∀ {ρ6 σ6 F6 H6 acc6}, L2.wipe σ6 vs = L2.wipe σ vs → Rel k ρ6 σ6 F6 H6 → BTr k ρ σ F H ρ6 σ6 F6 H6 → NewD k ρ6 σ6 F6 H6 D acc6 → Rel k (ρ6.wipe vs) (L2.wipe σ vs) F6 H6 ∧ BTr k ρ σ F H (ρ6.wipe vs) (L2.wipe σ vs) F6 H6 ∧ NewD k (ρ6.wipe vs) (L2.wipe σ vs) F6 H6 D acc6 := fun {ρ6 σ6 F6 H6 acc6} w r t n => by
        rw [← w]
        exact ⟨r.wipe, t.slots fun i a z => (own_wipe z).1, n.slots fun i a z => (own_wipe z).1⟩
      cases b with
      | false =>
        rw [brn_ite, if_neg Bool.false_ne_true] at q4; rw [if_neg Bool.false_ne_true]
        obtain ⟨e1, e2, e3⟩ := ends w3 rel4 tr4' nd4
        exact ⟨_, _, _, e1, e2, sub4, heap4, e3, q4⟩
      | true =>
        rw [brn_ite, if_pos rfl] at q4; rw [if_pos rfl]
        refine ⟨ρ4, F4, _, rel4, q4, fun es ρ5 F5 H5 J1 rel5 tr5 itok1 q5 => ?_⟩
        have nd5 := nd4.next tr5
        have tr5' := tr4'.next tr5
        have sub5 : Same F1 F5 := fun b o e => tr5.sub b o (sub4 b o e)
        have heap5 : SameX k H1 H5 := heap4.trans tr5.heap
        refine ⟨fun j m H' => m = es.length - j ∧ j ≤ es.length ∧ ∃ ρt F' acc, Rel k ρt (L2.wipe σ3 vs1) F' H' ∧ BTr k ρ σ F H ρt (L2.wipe σ3 vs1) F' H' ∧ Same F1 F' ∧ SameX k H1 H' ∧ Same F5 F' ∧ NewD k ρt (L2.wipe σ3 vs1) F' H' D acc ∧
            compL vs1 tg1 (wpE C ic1) (wpE C ie) (es.drop j) ρt acc (fun acc' ρ6 => compL2 vs vs1 tg (wpE C ic) (wpI C false it1) tg1 (wpE C ic1) (wpE C ie) (ds.drop (i + 1)) (ρ6.wipe vs) acc' (fun acc ρ2 => QQ (.own acc) (ρ1.back ρ2 vs))),
          ⟨es.length, by simp, by omega, ρ5.wipe vs1, F5, acc, rel5.wipe, tr5'.slots fun i a z => (own_wipe z).1, sub5, heap5, fun _ _ h => h, nd5.slots fun i a z => (own_wipe z).1, q5⟩, ?_⟩
        rintro j m G' ⟨rfl, hj, ρu, Fu, accu, relu, tru, subu, heapu, sub5u, ndu, qu⟩
        obtain ⟨j1, j2⟩ := itok1 Fu G' ⟨sub5u, fun z => Bool.noConfusion z, relu.sub⟩ j
        by_cases hlj : j < es.length
        · obtain ⟨go1, yl1⟩ := j2 es[j] (List.getElem?_eq_getElem hlj)
          rw [List.drop_eq_getElem_cons hlj] at qu
          refine .inr ⟨go1, fun H2 => ∃ ρt F' acc, Rel k ρt (L2.wipe σ3 vs1) F' H2 ∧ BTr k ρ σ F H ρt (L2.wipe σ3 vs1) F' H2 ∧ Same F1 F' ∧ SameX k H1 H2 ∧ Same F5 F' ∧ NewD k ρt (L2.wipe σ3 vs1) F' H2 D acc ∧
            compL vs1 tg1 (wpE C ic1) (wpE C ie) (es.drop (j + 1)) ρt acc (fun acc' ρ6 => compL2 vs vs1 tg (wpE C ic) (wpI C false it1) tg1 (wpE C ic1) (wpE C ie) (ds.drop (i + 1)) (ρ6.wipe vs) acc' (fun acc ρ2 => QQ (.own acc) (ρ1.back ρ2 vs))),
            fun H2 h => ⟨_, (by omega : es.length - (j + 1) < es.length - j), rfl, hlj, h⟩, fun x1 G'' y1 => ?_⟩
          obtain ⟨sG, iok1⟩ := yl1 x1 G'' y1
          have k1 : ETr k ρu (L2.wipe σ3 vs1) Fu G' ρu Fu G'' := .keepH sG
          have relv := relu.keepH sG
          refine ⟨ρu, Fu, es[j], _, relv, ?_, qu, fun ρ7 σ7 rel7 tt7 q7 => ?_⟩
          · rcases iok1 with r | ⟨h1, T, ws, es, h2, h3, h4, h5⟩
            · exact .inl r
            · obtain ⟨is, e⟩ := htp1 h1
              exact .inr ⟨is, T, ws, es, e, h2, h3, h4, h5⟩
          · have w7 : L2.wipe σ7 vs1 = L2.wipe σ3 vs1 := (tt7.wp vs1 htg1).trans wipe_idem
            refine ⟨w7, ρ7, Fu, _, rel7, q7, fun b8 ρ8 F8 H8 rel8 tr8 ⟨b8', eb8, q8⟩ => ?_⟩
            cases eb8
            have nd8 := ((ndu.next k1).slots tt7.own).next tr8
            have tr8' := ((tru.next k1).slots tt7.own).next tr8
            have sub8 : Same F1 F8 := fun b o e => tr8.sub b o (subu b o e)
            have sub58 : Same F5 F8 := fun b o e => tr8.sub b o (sub5u b o e)
            have heap8 : SameX k H1 H8 := (heapu.trans k1.heap).trans tr8.heap
            have ends1 : ∀ {ρ6 F6 H6 acc6}, Rel k ρ6 σ7 F6 H6 → BTr k ρ σ F H ρ6 σ7 F6 H6 → NewD k ρ6 σ7 F6 H6 D acc6 → Rel k (ρ6.wipe vs1) (L2.wipe σ3 vs1) F6 H6 ∧ BTr k ρ σ F H (ρ6.wipe vs1) (L2.wipe σ3 vs1) F6 H6 ∧ NewD k (ρ6.wipe vs1) (L2.wipe σ3 vs1) F6 H6 D acc6 := fun {ρ6 F6 H6 acc6} r t n => by
              rw [← w7]
              exact ⟨r.wipe, t.slots fun i a z => (own_wipe z).1, n.slots fun i a z => (own_wipe z).1⟩
            cases b8 with
            | false =>
              rw [brn_ite, if_neg Bool.false_ne_true] at q8; rw [if_neg Bool.false_ne_true]
              obtain ⟨e1, e2, e3⟩ := ends1 rel8 tr8' nd8
              exact ⟨_, _, _, e1, e2, sub8, heap8, sub58, e3, q8⟩
            | true =>
              rw [brn_ite, if_pos rfl] at q8; rw [if_pos rfl]
              refine ⟨ρ8, F8, _, rel8, q8, fun r ρ9 v F9 H9 p q9 => ?_⟩
              obtain ⟨d, F6, ⟨q6, q10⟩, _, rd, rel6, tr6⟩ := p.keep rel8 q9
              have nd6 := nd8.next tr6
              obtain ⟨ws, v1, v2⟩ := nd6.at_
              refine ⟨ws, v1, by rw [v2.length]; exact q6, ?_⟩
              have nd7 := nd6.push v1 rd
              obtain ⟨e1, e2, e3⟩ := ends1 (rel6.writeD nd6.no nd6.fn nd6.np) ((tr8'.next tr6).write hn) nd7
              refine ⟨_, _, _, e1, e2, fun b o e => tr6.sub b o (sub8 b o e), ?_, fun b o e => tr6.sub b o (sub58 b o e), e3, q10⟩
              exact (heap8.trans tr6.heap).trans' hD
        · have e : j = es.length := by omega
          subst e
          rw [List.drop_length] at qu
          obtain ⟨e1, e2, e3⟩ := ends ((wipe_sub hv).trans w3) relu tru ndu
          exact .inl ⟨j1 rfl, ρu.wipe vs, Fu, accu, e1, e2, subu, heapu, e3, qu⟩
  · have e : i = ds.length := by omega
    subst e
    rw [List.drop_length] at q'
    refine .inl ⟨i1 rfl, ?_⟩
    obtain ⟨r1, r2⟩ := rel1.back hpl1 rel' sub'
    have nd2 := nd'.slots r2
    obtain ⟨ws, v1, v2⟩ := nd2.at_
    exact fin (.own acc) _ _ _ _ ⟨r1, (tr'.slots r2).e, D, rfl, hn, ws, v1, nd2.fn, nd2.np, v2⟩ q'
end
end PL
namespace PL
open PySem PySem.Spec PyProof.Rows L2
section
variable {X : Cx} {k : RC} {C : PC} {pos : Pos}
theorem qs_par (hX : XOk X k) {i j : Nat} {x y : Str} {a b : Expr} {ias : IE} {px py pt : Pos} {kt k2 pt2} (hN : X.N.Nodup) (hi : X.N[i]? = some x) (hj : X.N[j]? = some y) (hij : i ≠ j)
    (hx : X.env.scope.names.lookup x = some .local) (hy : X.env.scope.names.lookup y = some .local) (ha : PA X [a, b] (tA C k false ias))
    (hw : swappedStores [.Tuple [.Name x px, .Name y py] kt pt] (.Tuple [a, b] k2 pt2) X.env = pure (some [x, y]))
    (hs : swapsWithSole [.Tuple [.Name x px, .Name y py] kt pt] (.Tuple [a, b] k2 pt2) pos.line X.env = pure false) :
    PS X (.Assign [.Tuple [.Name x px, .Name y py] kt pt] (.Tuple [a, b] k2 pt2) pos) (tS C k (.asg (.tp [i, j]) (.tup ias))) :=
  weakS (ps_par hX.calm hN hi hj hij hx hy ha hw hs) fun D σ H ⟨ρ, F, F0, H0, G, E, rel, tr, wp, en⟩ => by
    refine ⟨ρ, F, _, rel, wp, fun ds ρ1 vs F1 H1 rel1 tr1 ar ⟨hz, q⟩ => ?_⟩
    obtain ⟨xs, ρ2, e, pa, q⟩ := q
    cases e
    have ar : Rs k F1 vs ds := ar
    match ds, ar, pa with
    | [d1, d2], .cons r1 (.cons r2 .nil), pa =>
      have e2 : (ρ1.put i (.val d1)).put j (.val d2) = ρ2 := Option.some.inj pa
      subst e2
      obtain ⟨z1, z2⟩ := rel1.put (i := i) r1
      obtain ⟨y1, y2⟩ := z1.put (i := j) r2
      exact ⟨_, _, rfl, en.nx _ _ _ _ y1 ((tr.next tr1).slots fun l c z => (tr.next tr1).own l c (z2 l c (y2 l c z))) q⟩
    | [], _, pa => cases pa
    | [_], _, pa => cases pa
    | _ :: _ :: _ :: _, _, pa => cases pa
end
end PL
namespace PL
open PySem PySem.Spec PyProof.Rows L2
def parC (a b : Expr) : Bool := ![a, b].any (fun | .Starred .. => true | _ => false) && ![a, b].all (foldedForSure 8) && ![a, b].all (constantsAlone 8)
theorem swp_pair {x y : Str} {px py pt : Pos} {a b : Expr} {kt k2 pt2} {env : Env} (hb : env.blockKind = .function) (kx : env.kindOf x = some .local) (ky : env.kindOf y = some .local) (hl : (py.line == px.line) = true) (hxy : x ≠ y) (h : parC a b = true) :
    swappedStores [.Tuple [.Name x px, .Name y py] kt pt] (.Tuple [a, b] k2 pt2) env = pure (some [x, y]) := by
  unfold parC at h
  simp only [Bool.and_eq_true, Bool.not_eq_true'] at h
  obtain ⟨⟨h1, h2⟩, h3⟩ := h
  have hl' : py.line = px.line := by simpa using hl
  have hyx : (y == x) = false := beq_false_of_ne (Ne.symm hxy)
  have f2 : List.eraseDupsBy (fun x1 x2 => x1 == x2) [x, y] = [x, y] := by
    simp [List.eraseDupsBy, List.eraseDupsBy.loop, hyx]
  simp only [List.any_cons, List.any_nil, Bool.or_false, Bool.or_eq_false_iff] at h1
  unfold swappedStores
  simp [List.filterMap_cons, hb, kx, ky, hl', h2, h3, Expr.pos, List.eraseDups, f2, h1.1, h1.2]
  rintro (z | z)
  · exact absurd (h1.1.symm.trans z) Bool.false_ne_true
  · exact absurd (h1.2.symm.trans z) Bool.false_ne_true
end PL
namespace PL
open PySem PySem.Spec PyProof.Rows L2
section
variable {X : Cx} {k : RC} {C : PC} {pos : Pos}
theorem qe_upper {o : Expr} {io : IE} {apos cpos : Pos} (ho : PE X o (tE C k io)) (hbase : attributeBase o "upper" X.env (eval o X.env) = eval o X.env) (hline : (apos.endLine == cpos.line) = true) :
    PE X (.Call (.Attribute o "upper" apos) [] [] cpos) (tE C k (.mth .upper io .anil)) :=
  weak (pe_upper ho hbase hline) fun σ H Q ⟨ρ, F, QQ, rel, wp, fin⟩ => ⟨ρ, F, _, rel, wp, fun r ρ1 v F1 H1 p ⟨hr, x, e, hz, q⟩ => by
    have l := p.lent
    rw [e] at l
    cases l.str
    exact ⟨⟨x, rfl⟩, x, rfl, rfl, hz, fin _ _ _ _ _ (p.then (.flat p.rel .refl (.str _))) q⟩⟩
end
section
variable {prog : Program} {w : World} {A : Around} {E : Value → Shared → Prop} {s : Shared}
theorem fm_congr {α β : Type} {f g : α → Option β} : ∀ {l : List α}, (∀ a ∈ l, f a = g a) → l.filterMap f = l.filterMap g
  | [], _ => rfl
  | a :: l, h => by rw [List.filterMap_cons, List.filterMap_cons, h a List.mem_cons_self, fm_congr fun b hb => h b (List.mem_cons_of_mem _ hb)]
theorem pick_rev (xs : Array Value) : ((List.range xs.size).filterMap fun (m : Nat) => xs[((((xs.size : Nat) : Int) - 1) + (m : Int) * (-1)).toNat]?).toArray = xs.toList.reverse.toArray := by
  have e : ∀ m ∈ List.range xs.size, (fun (m : Nat) => xs[((((xs.size : Nat) : Int) - 1) + (m : Int) * (-1)).toNat]?) m = xs[xs.size - 1 - m]? := fun m hm => by
    have := List.mem_range.mp hm
    have h : ((((xs.size : Nat) : Int) - 1) + (m : Int) * (-1)).toNat = xs.size - 1 - m := by omega
    show xs[((((xs.size : Nat) : Int) - 1) + (m : Int) * (-1)).toNat]? = _
    rw [h]
  have e2 : ((List.range xs.size).filterMap fun (m : Nat) => xs[((((xs.size : Nat) : Int) - 1) + (m : Int) * (-1)).toNat]?) = (List.range xs.size).filterMap fun m => xs[xs.size - 1 - m]? := fm_congr e
  rw [e2]
  have e3 : ((List.range xs.size).filterMap fun m => xs[xs.size - 1 - m]?) = ((List.range xs.size).map fun m => xs.size - 1 - m).filterMap (xs[·]?) := by
    rw [List.filterMap_map]; rfl
  rw [e3, PySem.W.krv_range, List.filterMap_reverse, PySem.W.krv_all]
theorem sliceApplied_rev {sl : Addr} {vl vu vs : Value} {n : Nat} {Q : Int × Int × Nat → Shared → Prop} (hs : s.heap.IsSliceOf sl vl vu vs) (pl : IsPart vl none) (pu : IsPart vu none) (ps : IsPart vs (some (-1)))
    (h : Q ((n : Int) - 1, -1, n) s) : wpAny (model prog w) A (Builtin.Slice.sliceApplied (.ref sl) (pure (n : Int))) Q E s := by
  obtain ⟨os, hos, hcs, hds⟩ := id hs
  unfold Builtin.Slice.sliceApplied Builtin.Slice.sliceFields
  refine wpAny_bind (wpAny_bind (wpAny_field hos hds (x := vl) rfl (wpAny_bind (wpAny_field hos hds (x := vu) rfl (wpAny_bind (wpAny_field hos hds (x := vs) rfl (wpAny_pure ?_)))))))
  refine wpAny_bind (HT.slicePart_ ps ?_)
  show wpAny _ _ (if ((-1 : Int) == 0) = true then _ else _) _ _ s
  rw [if_neg (by decide)]
  refine wpAny_bind (HT.slicePart_ pl (wpAny_bind (HT.slicePart_ pu (wpAny_bind (wpAny_pure ?_)))))
  show wpAny _ _ (match Builtin.Slice.sliceAdjust none none (-1) (n : Int) with | (lo, hi) => pure (lo, (-1 : Int), Builtin.Slice.slicePlaces lo hi (-1))) _ _ s
  have e1 : Builtin.Slice.sliceAdjust none none (-1) (n : Int) = ((n : Int) - 1, -1) := rfl
  rw [e1]
  show wpAny _ _ (pure ((n : Int) - 1, (-1 : Int), Builtin.Slice.slicePlaces ((n : Int) - 1) (-1) (-1))) _ _ s
  have e2 : Builtin.Slice.slicePlaces ((n : Int) - 1) (-1) (-1) = n := by
    unfold Builtin.Slice.slicePlaces
    have h1 : ¬ ((-1 : Int) > 0) := by decide
    simp only [h1, if_false]
    split
    · rw [show (- -1 : Int) = 1 by decide, Int.ediv_one]; omega
    · omega
  rw [e2]
  exact wpAny_pure h
theorem getItem_tuple_rev {t sl : Addr} {items : Array Value} {vl vu vs : Value} {Q : Value → Shared → Prop} (ht : IsTup s.heap t items) (hs : s.heap.IsSliceOf sl vl vu vs) (pl : IsPart vl none) (pu : IsPart vu none) (ps : IsPart vs (some (-1)))
    (h : Q (.ref s.heap.objs.size) { s with heap := s.heap.push { cls := .type "tuple", data := .seq items.toList.reverse.toArray } })
    (hsz : items.size ≤ sizeLine) : wpAny (model prog w) A (getItem (.ref t) (.ref sl)) Q E s := by
  have htake : sizeOk (.seq items.toList.reverse.toArray) := by
    show items.toList.reverse.toArray.size ≤ sizeLine
    rw [List.size_toArray, List.length_reverse, Array.length_toList]
    exact hsz
  obtain ⟨os, hos, hcs, hds⟩ := id hs
  have hTs : s.TypeIs (.ref sl) "slice" := ⟨os, hos, hcs⟩
  unfold getItem
  try with_reducible refine wpAny_holding ?_
  first | refine wpAny_bind (wpAny_pure ?_) | skip
  refine wpAny_bind (wpAny_sequenceKey ht.typeIs (by decide) ?_)
  refine wpAny_bind (wpAny_callSpecial?_slot (name := Str.ofString "__getitem__") ht.typeIs PyProof.Rows.slot_tuple_getitem
    (wpAny_call_entry PyProof.Rows.slot_tuple_getitem ht.typeIs PyProof.Rows.entry_tuple_getitem ?_ (PyProof.Rows.args_tuple_getitem _ _)))
  show wpAny _ _ (Builtin.Tuple.tupleItemsOf (.ref t) >>= _) _ _ s
  refine wpAny_bind (PyProof.Rows.tupleItemsOf_ ht ?_)
  refine wpAny_bind (wpAny_typeOf hTs ?_)
  rw [if_pos (by decide)]
  refine wpAny_bind (sliceApplied_rev hs pl pu ps ?_)
  have hno : ¬ ((((items.size : Int) - 1) == 0 && (-1 : Int) == 1 && items.size == items.size) = true) := by simp
  show wpAny _ _ (if (((items.size : Int) - 1) == 0 && (-1 : Int) == 1 && items.size == items.size) = true then _ else _) _ _ s
  rw [if_neg hno, pick_rev]
  first
    | exact wpAny_bind (m := Builtin.Tuple.tupleExact _) (wpAny_newObj_type (wpAny_pure ⟨_, rfl, wpAny_pure h⟩) htake)
    | exact wpAny_bind (m := Builtin.Tuple.tupleExact _) (wpAny_newObj_type (wpAny_bind (wpAny_pure (wpAny_pure ⟨_, rfl, wpAny_pure h⟩))) htake)
    | exact wpAny_bind (wpAny_bind (m := Builtin.Tuple.tupleExact _) (wpAny_newObj_type (wpAny_pure (wpAny_pure ⟨_, rfl, wpAny_pure h⟩)) htake))
    | exact wpAny_bind (wpAny_bind (m := Builtin.Tuple.tupleExact _) (wpAny_newObj_type (wpAny_pure ⟨_, rfl, wpAny_pure h⟩) htake))
end
section
variable {X : Cx} {k : RC} {C : PC} {pos : Pos}
def tRevX (K : PySem.W.Frag) (te : TE) : TE := fun σ H Q => te σ H fun x H1 => (∃ a xs, x = .ref a ∧ SqL K H1 a xs ∧ ∀ p, H1 p = none → Q (.ref p) (upd H1 p (.lst xs.reverse))) ∨ (∃ a xs, x = .ref a ∧ SqT K H1 a xs ∧ NewT xs.reverse H1 Q)
theorem pe_revX {e : Expr} {te : TE} {c : Nat} {p1 p2 p3 : Pos} (he : PE X e te) : PE X (.Subscript e (.Slice none none (some (.UnaryOp .USub (.Constant (.int 1) c p1) p2)) p3) pos) (tRevX X.K te) := by
  refine ⟨fun pins s σ H Q I h => ?_⟩
  refine Subscript_ (thn (he.run pins s σ H _ I h) fun v s1 ⟨x, H1, I1, r1, q1⟩ => ?_)
  have hst : PO X (some (.UnaryOp .USub (.Constant (.int 1) c p1) p2)) (tPart (tUn (rU fun i => .int (-i)) (tC (.int 1)))) := po_some (pe_un un_neg pe_int)
  refine wpAny_Slice (thn (po_none.run pins s1 σ H1 (fun o H2 => o = none ∧ H2 = H1) I1 ⟨rfl, rfl⟩) fun vl s2 ⟨l, H2, I2, pl, el, e2⟩ => ?_)
  subst el e2
  refine thn (po_none.run pins s2 σ H2 (fun o H3 => o = none ∧ H3 = H2) I2 ⟨rfl, rfl⟩) fun vu s3 ⟨u, H3, I3, pu, eu, e3⟩ => ?_
  subst eu e3
  refine thn (hst.run pins s3 σ H3 (fun o H4 => o = some (-1) ∧ H4 = H3) I3 ⟨1, rfl, -1, rfl, rfl, rfl⟩) fun vs s4 ⟨o, H4, I4, ps, eo, e4⟩ => ?_
  subst eo e4
  have I5 : Inv X pins σ H4 { s4 with heap := s4.heap.push { cls := .type "slice", data := .fields #[vl, vu, vs] } } := I4.kept (t' := s4.toks) fun b ob q => Heap.get?_push_of_some _ q
  rcases q1 with ⟨a, xs, ex, hx, q⟩ | ⟨a, xs, ex, hx, q⟩
  · subst ex
    cases r1
    obtain ⟨its, r, ht, hz⟩ := I5.list hx
    have hlen := r.length
    show wpAny (model X.prog X.w) X.A (subscriptTail e (.Slice none none (some (.UnaryOp .USub (.Constant (.int 1) c p1) p2)) p3) (.ref a) (.ref s4.heap.objs.size)) (EP X pins σ Q) X.xe { s4 with heap := s4.heap.push { cls := .type "slice", data := .fields #[vl, vu, vs] } }
    refine tail_any (ops := [.ref a, .ref s4.heap.objs.size]) ht.isList.typeIs (PySem.slot_list_getitem.lookup) ?_ (by with_unfolding_all rfl)
    refine wpAny_getItem_list_slice ht.isList (Heap.IsSliceOf.new _ vl vu vs) pl pu ps (by decide) ?_ (by rw [List.size_toArray]; omega)
    rw [PySem.W.krv_pick]
    refine ⟨.ref _, _, I5.laid (t' := s4.toks) (o := .lst xs.reverse) (fun b ob q => Heap.get?_push_of_some _ q) (Nat.le_refl _) ?_, rfl, q _ (I5.hok.fresh (Nat.le_refl _))⟩
    exact ⟨by rw [List.length_reverse]; exact hz, _, 0, r.reverse, Heap.get?_push_size _ rfl⟩
  · subst ex
    cases r1
    obtain ⟨its, r, ht, hz⟩ := I5.tuple hx
    have hlen := r.length
    show wpAny (model X.prog X.w) X.A (subscriptTail e (.Slice none none (some (.UnaryOp .USub (.Constant (.int 1) c p1) p2)) p3) (.ref a) (.ref s4.heap.objs.size)) (EP X pins σ Q) X.xe { s4 with heap := s4.heap.push { cls := .type "slice", data := .fields #[vl, vu, vs] } }
    refine tail_any (ops := [.ref a, .ref s4.heap.objs.size]) ht.typeIs (PyProof.Rows.slot_tuple_getitem.lookup) ?_ (by with_unfolding_all rfl)
    refine getItem_tuple_rev ht (Heap.IsSliceOf.new _ vl vu vs) pl pu ps ?_ (by rw [List.size_toArray]; omega)
    exact ⟨.ref _, _, laidT (t' := s4.toks) I5 r.reverse (by rw [List.length_reverse]; exact hz), rfl, q _ _ (I5.hok.fresh (Nat.le_refl _)) rfl⟩
theorem qe_rev(hX : XOk X k) {e : Expr} {ie : IE} {c : Nat} {p1 p2 p3 : Pos} (he : PE X e (tE C k ie)) :
    PE X (.Subscript e (.Slice none none (some (.UnaryOp .USub (.Constant (.int 1) c p1) p2)) p3) pos) (tE C k (.rev ie)) :=
  weak (pe_revX he) fun σ H Q ⟨ρ, F, QQ, rel, wp, fin⟩ => ⟨ρ, F, _, rel, wp, fun r ρ1 v F1 H1 p q => by
    have l := p.lent
    cases hd : r.toD with
    | lst xs =>
      rw [hd] at l q
      obtain ⟨a, vs, rfl, t, rs⟩ := l.lst p.rel.sub
      refine .inl ⟨a, vs, rfl, .of t, fun b hb => ?_⟩
      exact fin (.own xs.reverse) _ _ _ _ (p.then (.newL p.rel .refl hb rs.reverse)) q
    | tup xs =>
      rw [hd] at l q
      obtain ⟨a, vs, rfl, t, rs⟩ := l.tup
      have sq := (t.mono p.rel.sub).sq
      rw [hX.K] at sq
      exact .inr ⟨a, vs, rfl, sq, newT p.rel rs.reverse fun v F' H' p' => fin _ _ _ _ _ (p.then p') q⟩
    | _ => rw [hd] at q; exact q.elim⟩
theorem qs_remv {i : Nat} {eo e : Expr} {ie : IE} {apos cpos : Pos} (ho : PE X eo (tVar i)) (he : PE X e (tE C k ie)) (hsw : swapsWith (.Call (.Attribute eo "remove" apos) [e] [] cpos) none pos.line X.env = pure false)
    (hbase : attributeBase eo "remove" X.env (eval eo X.env) = eval eo X.env)
    (hfew : ((backTo cpos (starEach [e] X.env)).all (fun x => !x.1) && (backToKw cpos (keywordEach [] X.env)).all (fun x => x.1.isSome)
      && decide ([e].length + ([] : List Keyword).length + (if ([] : List Keyword).isEmpty then 0 else 1) < 30)) = true)
    (hline : (apos.endLine == cpos.line) = true) (hs : starEach [e] X.env = (false, eval e X.env) :: starEach [] X.env) :
    PS X (.Expr (.Call (.Attribute eo "remove" apos) [e] [] cpos) pos) (tS C k (.remv i ie)) :=
  weakS (ps_expr (pe_bm (id := "list.remove") F.plainAttrs_list F.slot_list_remove F.type_list_remove mt_remove ho (pa_cons he pa_nil hs) hbase hfew hline hs rfl) hsw) fun D σ H ⟨ρ, F, F0, H0, G, E, rel, tr, ⟨w0, wp⟩, en⟩ => by
    obtain ⟨a, xs0, vs0, e0, hi, hv0⟩ := own_before (ρ1 := ρ) (F1 := F) (H1 := H) rel w0
    refine ⟨_, hi, .inl ⟨rfl, vs0, .of hv0⟩, ρ, F, _, rel, wp, fun r ρ1 v F1 H1 p q => ?_⟩
    obtain ⟨xs, j, is, n, z1, q1, z2, z3, q3⟩ := q
    obtain ⟨o1, o2⟩ := own_after p.rel hi q1
    obtain ⟨vs, v1, v2, v3, v4⟩ := id o2
    have l := p.lent
    rw [z1] at l
    cases l.int
    cases ints_vs v4 z2
    obtain ⟨y1, y2⟩ := z3
    refine ⟨a, is, n, j, rfl, rfl, v1, y1, y2, ?_⟩
    rw [← erase_mapI]
    obtain ⟨x1, x2, _⟩ := write_own p.rel (tr.next p.tr) o1 o2 (v4.eraseIdx j)
    exact en.nx _ _ _ _ x1 x2 q3
end
end PL
namespace PL
open PySem PySem.Spec PyProof.Rows L2
def nst : Expr → Bool
  | .Starred _ _ => false
  | _ => true
theorem star1 {e : Expr} {es : List Expr} {env : Env} (h : nst e = true) : starEach (e :: es) env = (false, eval e env) :: starEach es env := by
  cases e <;> first | rfl | cases h
theorem starA {es : List Expr} {env : Env} {pos : Pos} (h : es.all nst = true) : (backTo pos (starEach es env)).any (·.1) = false := by
  induction es with
  | nil => rfl
  | cons e es ih =>
    simp only [List.all_cons, Bool.and_eq_true] at h
    rw [star1 h.1]
    show (false || (backTo pos (starEach es env)).any (·.1)) = false
    rw [ih h.2]
    rfl
theorem fewA {es : List Expr} {env : Env} {pos : Pos} (h : es.all nst = true) (hl : es.length < 30) : ((backTo pos (starEach es env)).all (fun x => !x.1) && (backToKw pos (keywordEach [] env)).all (fun x => x.1.isSome)
    && decide (es.length + ([] : List Keyword).length + (if ([] : List Keyword).isEmpty then 0 else 1) < 30)) = true := by
  have e1 : (backTo pos (starEach es env)).all (fun x => !x.1) = true := by
    have := starA (env := env) (pos := pos) h
    generalize backTo pos (starEach es env) = l at this
    induction l with
    | nil => rfl
    | cons x l ih =>
      simp only [List.any_cons, Bool.or_eq_false_iff] at this
      simp only [List.all_cons, this.1, ih this.2]
      rfl
  rw [e1]
  have e2 : (es.length + ([] : List Keyword).length + (if ([] : List Keyword).isEmpty then 0 else 1) < 30) := by simpa using hl
  rw [decide_eq_true e2]
  rfl
def bas : Expr → Bool
  | .Call (.Name _ _) [] [] _ => false
  | _ => true
theorem base_ok {o : Expr} {a : Str} {env : Env} {w : Sem Value} (h : bas o = true) : attributeBase o a env w = w := by
  cases o with
  | Call f as kw p =>
    cases f with
    | Name x q =>
      cases as with
      | nil =>
        cases kw with
        | nil => cases h
        | cons _ _ => rfl
      | cons _ _ => rfl
    | _ => rfl
  | _ => rfl
def isComp : Expr → Bool
  | .ListComp _ _ _ _ => true
  | .SetComp _ _ _ _ => true
  | .DictComp _ _ _ _ _ => true
  | _ => false
theorem sw_no {e : Expr} {t : Option Expr} {l : Nat} {env : Env} (h : isComp e = false) : swapsWith e t l env = pure false := by
  cases e <;> first | rfl | cases h
theorem sw_other {e t : Expr} {l : Nat} {env : Env} (h : ∀ x p, t ≠ .Name x p) : swapsWith e (some t) l env = pure false := by
  cases e <;> first | rfl | (cases t <;> first | rfl | exact absurd rfl (h _ _))
def pln : Expr → Bool
  | .UnaryOp _ _ _ => false
  | .BoolOp _ _ _ => false
  | .IfExp _ _ _ _ => false
  | .Compare _ _ _ _ => false
  | _ => true
theorem isT_pln {e : Expr} {env : Env} (h : pln e = true) : ∀ whole, isTrue e env whole = (do let v ← whole; standAt e.pos; holding [v] (truthy v)) := fun w => by
  cases e <;> first | rfl | cases h
def pix : Expr → Bool
  | .Slice _ _ _ _ => false
  | _ => true
theorem pix_ok {b : Expr} (h : pix b = true) : PlainIx b := fun o i => by
  cases b <;> first | rfl | cases h
theorem asgS_ok {o i : Expr} {pos : Pos} {env : Env} (h : pix i = true) : ∀ v, assign (.Subscript o i pos) env v = (do
    let ov ← holding [v] (eval o env)
    let iv ← holding [v, ov] (eval i env)
    standAt pos
    holding [v, ov, iv] (setItem ov iv v)
    release [v, ov, iv] []) := fun v => by
  cases i <;> first | rfl | cases h
def isSet : Expr → Bool
  | .Set _ _ _ => true
  | _ => false
theorem set_ok {e : Expr} {env : Env} (h : isSet e = false) : ∀ x, foldedSetIterable e env x = pure x := fun x => by
  cases e <;> first | rfl | cases h
def isTup : Expr → Bool
  | .Tuple _ _ _ => true
  | _ => false
theorem swp_ok {es : List Expr} {k : Nat} {p : Pos} {e : Expr} {env : Env} (h : isTup e = false) : swappedStores [.Tuple es k p] e env = pure none := by
  cases e <;> first | rfl | cases h
structure CK where
  N : List Str
  sc : Scope
  blk : Option Scope
  fs : List (Nat × Str)
  cs : List (Str × D)
mutual
def sameD : D → D → Bool
  | .int i, .int j => decide (i = j)
  | .str x, .str y => decide (x = y)
  | .bl x, .bl y => decide (x = y)
  | .non, .non => true
  | .tup xs, .tup ys => sameDs xs ys
  | _, _ => false
def sameDs : List D → List D → Bool
  | [], [] => true
  | x :: xs, y :: ys => sameD x y && sameDs xs ys
  | _, _ => false
end
mutual
theorem sameD_eq : ∀ {a b : D}, sameD a b = true → a = b
  | .int i, b, h => by cases b <;> first | (rw [of_decide_eq_true (h : decide (i = _) = true)]) | exact absurd h Bool.false_ne_true
  | .str x, b, h => by cases b <;> first | (rw [of_decide_eq_true (h : decide (x = _) = true)]) | exact absurd h Bool.false_ne_true
  | .bl x, b, h => by cases b <;> first | (rw [of_decide_eq_true (h : decide (x = _) = true)]) | exact absurd h Bool.false_ne_true
  | .non, b, h => by cases b <;> first | rfl | exact absurd h Bool.false_ne_true
  | .tup xs, b, h => by
    cases b with
    | tup ys => rw [sameDs_eq (a := xs) (b := ys) h]
    | _ => exact absurd h Bool.false_ne_true
  | .lst _, b, h => by cases b <;> exact absurd h Bool.false_ne_true
  | .dct _, b, h => by cases b <;> exact absurd h Bool.false_ne_true
  | .rng _ _, b, h => by cases b <;> exact absurd h Bool.false_ne_true
  | .pool, b, h => by cases b <;> exact absurd h Bool.false_ne_true
theorem sameDs_eq : ∀ {a b : List D}, sameDs a b = true → a = b
  | [], [], _ => rfl
  | x :: xs, y :: ys, h => by
    have h : (sameD x y && sameDs xs ys) = true := h
    simp only [Bool.and_eq_true] at h
    rw [sameD_eq h.1, sameDs_eq h.2]
  | [], _ :: _, h => absurd h Bool.false_ne_true
  | _ :: _, [], h => absurd h Bool.false_ne_true
end
def CK.lk (K : CK) (x : Str) : Option NameKind := K.sc.names.lookup x
def CK.vis (K : CK) (x : Str) : Bool := decide (K.lk x = some .local) || decide (K.lk x = some .cell) || decide (K.lk x = some .free)
def CK.loc (K : CK) (x : Str) : Bool := decide (K.lk x = some .local) || decide (K.lk x = some .cell)
def CK.fnb (K : CK) (x : Str) : Bool := match K.blk with
  | none => true
  | some s => s.names.lookup x == some .cell
def CK.sto (K : CK) (i : Nat) (x : Str) : Bool := decide (K.N[i]? = some x) && K.loc x && (K.fnb x || decide (K.lk x = some .local))
def CK.var (K : CK) (i : Nat) (x : Str) : Bool := decide (K.N[i]? = some x) && K.vis x && !(x == ("__debug__" : Str)) && !(x == ("__classdict__" : Str))
def CK.gl (K : CK) (x : Str) : Bool := decide (K.lk x = some .globalImplicit)
def CK.into (K : CK) (s : Scope) : CK := { K with sc := relS s K.sc, blk := some s }
def okCg (K : CK) (d : D) : Expr → Bool
  | .Name x _ => K.gl x && !(x == ("__debug__" : Str)) && K.cs.any fun p => decide (p.1 = x) && sameD p.2 d
  | _ => false
def okC : D → Expr → Bool
  | .int i, .Constant (.int j) _ _ => decide (i = j)
  | .str x, .Constant (.str y) _ _ => decide (x = y)
  | .bl x, .Constant (.bool y) _ _ => decide (x = y)
  | .non, .Constant .none _ _ => true
  | _, _ => false
def okG (K : CK) : Tg → Expr → Bool
  | .nm i, .Name x _ => K.sto i x
  | .tp is, .Tuple es _ _ => okN is es
  | _, _ => false
where okN : List Nat → List Expr → Bool
  | [], [] => true
  | i :: is, .Name x _ :: es => K.sto i x && okN is es
  | _, _ => false
def ownOf (N : List Str) (vs : List Nat) : List (Str × Nat) := vs.filterMap fun i => (N[i]?).map fun x => (x, i)
def okB0 (K : CK) (s : Scope) (vs : List Nat) : Bool :=
  decide (s.kind = .function) && s.names.all (fun y => decide (s.names.lookup y.1 = some y.2)) && decide ((ownOf K.N vs).map (·.2) = vs) &&
  s.names.all (fun y => !decide (y.2 = .free) || (decide (K.lk y.1 = some .cell) || decide (K.lk y.1 = some .free))) &&
  s.names.all (fun y => !(decide (y.2 = .local) || decide (y.2 = .cell)) || (decide (y.1 ∈ (ownOf K.N vs).map (·.1)) || !decide (y.1 ∈ K.N)))
def bltOf : BI → Option (Str × Bool × String)
  | .len => some ("len", false, "len")
  | .int => some ("int", true, "int")
  | .str => some ("str", true, "str")
  | .tuple => some ("tuple", true, "tuple")
  | .list => some ("list", true, "list")
  | .sorted => some ("sorted", false, "sorted")
  | .min => some ("min", false, "min")
  | .max => some ("max", false, "max")
  | .sum => some ("sum", false, "sum")
  | .any => some ("any", false, "any")
  | .all => some ("all", false, "all")
  | .abs => some ("abs", false, "abs")
  | .range => some ("range", true, "range")
  | _ => none
def tyStr : Ty → Str
  | .bool => "bool"
  | .int => "int"
  | .str => "str"
  | .tuple => "tuple"
  | .list => "list"
  | .dict => "dict"
def tpOf : IE → Bool
  | .itEnum _ => true
  | .itZip _ _ => true
  | .itZip3 _ _ _ => true
  | .itItems _ => true
  | _ => false
def tgTp : Tg → Bool
  | .tp _ => true
  | _ => false
def isNil : IE → Bool
  | .anil => true
  | _ => false
theorem isNil_eq {e : IE} (h : isNil e = true) : e = .anil := by cases e <;> first | rfl | cases h
mutual
def okE : IE → CK → Expr → Bool
  | .cst d, K, e => okC d e || okCg K d e
  | .var i, K, e => match e with
    | .Name x _ => K.var i x
    | _ => false
  | .bor i, K, e => match e with
    | .Name x _ => K.var i x
    | _ => false
  | .bin o a b, K, e => match e with
    | .BinOp ea op eb _ => decide (op = opOf o) && okE a K ea && okE b K eb
    | _ => false
  | .neg a, K, e => match e with
    | .UnaryOp .USub ea _ => okE a K ea
    | _ => false
  | .cmp c a b, K, e => match e with
    | .Compare ea [op] [eb] _ => decide (op = cmOf c) && okE a K ea && okE b K eb && !behindInMarks op eb
    | _ => false
  | .cmp2 c c' a b d, K, e => match e with
    | .Compare ea [o1, o2] [eb, ed] _ => decide (o1 = cmOf c) && decide (o2 = cmOf c') && okE a K ea && okE b K eb && okE d K ed && !behindInMarks o2 ed
    | _ => false
  | .and a b, K, e => match e with
    | .BoolOp .And (ea :: eb :: rest) pos => okE a K ea && (match rest with | [] => okE b K eb | _ => okE b K (.BoolOp .And (eb :: rest) pos))
    | _ => false
  | .or a b, K, e => match e with
    | .BoolOp .Or (ea :: eb :: rest) pos => okE a K ea && (match rest with | [] => okE b K eb | _ => okE b K (.BoolOp .Or (eb :: rest) pos))
    | _ => false
  | .not a, K, e => match e with
    | .UnaryOp .Not ea _ => okE a K ea
    | _ => false
  | .ite c a b, K, e => match e with
    | .IfExp ec ea eb _ => okT c K ec && okE a K ea && okE b K eb
    | _ => false
  | .tup as, K, e => match e with
    | .Tuple es _ _ => okA as K es
    | _ => false
  | .lst as, K, e => match e with
    | .List es _ => okA as K es
    | _ => false
  | .dnew, _, e => match e with
    | .Dict [] [] _ => true
    | _ => false
  | .idx a b, K, e => match e with
    | .Subscript ea eb _ => okE a K ea && okE b K eb && pix eb
    | _ => false
  | .slc a lo hi, K, e => match e with
    | .Subscript ea (.Slice l h none _) _ => okE a K ea && (match l with | none => isMiss lo | some el => !isMiss lo && okE lo K el) && (match h with | none => isMiss hi | some eh => !isMiss hi && okE hi K eh)
    | _ => false
  | .call f as, K, e => match e with
    | .Call (.Name x _) (e1 :: es) [] _ => decide ((f, x) ∈ K.fs) && K.gl x && !(x == ("__debug__" : Str)) && okA as K (e1 :: es)
    | .Call (.Name x _) [] [] _ => decide ((f, x) ∈ K.fs) && K.gl x && !(x == ("__debug__" : Str)) && isNil as
    | _ => false
  | .blt f as, K, e => match e with
    | .Call (.Name x _) (e1 :: es) [] _ => (match bltOf f with | some (y, _, _) => decide (x = y) | none => false) && K.gl x && okA as K (e1 :: es)
    | _ => false
  | .mmd mx a b, K, e => match e with
    | .Call (.Name x _) [ea] [⟨some kn, eb, _⟩] _ => decide (kn = "default") && decide (x = if mx then "max" else "min") && K.gl x && nst ea && okE a K ea && okE b K eb
    | _ => false
  | .isi a t, K, e => match e with
    | .Call (.Name x _) [ea, .Name y _] [] _ => decide (x = "isinstance") && decide (y = tyStr t) && K.gl x && K.gl y && nst ea && okE a K ea
    | _ => false
  | .mth .index a as, K, e => match e with
    | .Call (.Attribute ea n apos) (e1 :: es) [] cpos => decide (n = "index") && bas ea && okE a K ea && okA as K (e1 :: es) && decide ((e1 :: es).length < 30) && (apos.endLine == cpos.line)
    | _ => false
  | .mth .upper a as, K, e => match e with
    | .Call (.Attribute ea n apos) [] [] cpos => (match as with | .anil => true | _ => false) && decide (n = "upper") && bas ea && okE a K ea && (apos.endLine == cpos.line)
    | _ => false
  | .rev a, K, e => match e with
    | .Subscript ea (.Slice none none (some (.UnaryOp .USub (.Constant (.int 1) _ _) _)) _) _ => okE a K ea
    | _ => false
  | .comp vs tg it c el, K, e => match e with
    | .ListComp ee [⟨et, ei, ifs, 0⟩] s _ => okB0 K s vs && okI it K ei && okG (K.into s) tg et && tg.slots.all (vs.contains ·) && (!tpOf it || tgTp tg) && !isSet ei && (match ifs with | [] => (match c with | .cst (.bl true) => true | _ => false) | [ec] => okT c (K.into s) ec | _ => false) && okE el (K.into s) ee
    | _ => false
  | .comp2 vs vs1 tg it c tg1 it1 c1 el, K, e => match e with
    | .ListComp ee [⟨et, ei, ifs, 0⟩, ⟨et1, ei1, ifs1, 0⟩] s _ => (okB0 K s vs && okI it K ei && okG (K.into s) tg et && tg.slots.all (vs.contains ·) && (!tpOf it || tgTp tg) && !isSet ei && (match ifs with | [] => (match c with | .cst (.bl true) => true | _ => false) | [ec] => okT c (K.into s) ec | _ => false)) &&
      (okI it1 (K.into s) ei1 && okG (K.into s) tg1 et1 && tg1.slots.all (vs1.contains ·) && vs1.all (vs.contains ·) && (!tpOf it1 || tgTp tg1) && !isSet ei1 && (match ifs1 with | [] => (match c1 with | .cst (.bl true) => true | _ => false) | [ec] => okT c1 (K.into s) ec | _ => false)) && okE el (K.into s) ee
    | _ => false
  | .dcomp vs tg it c ik iv, K, e => match e with
    | .DictComp ek ev [⟨et, ei, ifs, 0⟩] s _ => okB0 K s vs && okI it K ei && okG (K.into s) tg et && tg.slots.all (vs.contains ·) && (!tpOf it || tgTp tg) && !isSet ei && (match ifs with | [] => (match c with | .cst (.bl true) => true | _ => false) | [ec] => okT c (K.into s) ec | _ => false) && okE ik (K.into s) ek && okE iv (K.into s) ev
    | _ => false
  | _, _, _ => false
def okT : IE → CK → Expr → Bool
  | .cmp c a b, K, e => match e with
    | .Compare ea [op] [eb] _ => decide (op = cmOf c) && okE a K ea && okE b K eb && !behindInMarks op eb
    | _ => false
  | .cmp2 c c' a b d, K, e => match e with
    | .Compare ea [o1, o2] [eb, ed] _ => decide (o1 = cmOf c) && decide (o2 = cmOf c') && okE a K ea && okE b K eb && okE d K ed && !behindInMarks o2 ed
    | _ => false
  | .and a b, K, e => match e with
    | .BoolOp .And (ea :: eb :: rest) pos => okT a K ea && (match rest with | [] => okT b K eb | _ => okT b K (.BoolOp .And (eb :: rest) pos))
    | _ => false
  | .or a b, K, e => match e with
    | .BoolOp .Or (ea :: eb :: rest) pos => okT a K ea && (match rest with | [] => okT b K eb | _ => okT b K (.BoolOp .Or (eb :: rest) pos))
    | _ => false
  | .not a, K, e => match e with
    | .UnaryOp .Not ea _ => okT a K ea
    | _ => false
  | .tst a, K, e => okE a K e && pln e
  | _, _, _ => false
def okA : IE → CK → List Expr → Bool
  | .anil, _, es => match es with
    | [] => true
    | _ => false
  | .acons a as, K, es => match es with
    | e :: es => nst e && okE a K e && okA as K es
    | [] => false
  | _, _, _ => false
def okI : IE → CK → Expr → Bool
  | .itSeq a, K, e => okE a K e
  | .itR1 a, K, e => match e with
    | .Call (.Name x _) [ea] [] _ => decide (x = "range") && K.gl x && nst ea && okE a K ea
    | _ => false
  | .itR2 a b, K, e => match e with
    | .Call (.Name x _) [ea, eb] [] _ => decide (x = "range") && K.gl x && nst ea && nst eb && okE a K ea && okE b K eb
    | _ => false
  | .itEnum a, K, e => match e with
    | .Call (.Name x _) [ea] [] _ => decide (x = "enumerate") && K.gl x && nst ea && okE a K ea
    | _ => false
  | .itZip a c, K, e => match e with
    | .Call (.Name x _) [ea, ec] [] _ => decide (x = "zip") && K.gl x && nst ea && nst ec && okE a K ea && okE c K ec
    | _ => false
  | .itZip3 a c a3, K, e => match e with
    | .Call (.Name x _) [ea, ec, e3] [] _ => decide (x = "zip") && K.gl x && nst ea && nst ec && nst e3 && okE a K ea && okE c K ec && okE a3 K e3
    | _ => false
  | .itItems a, K, e => match e with
    | .Call (.Attribute ea n apos) [] [] cpos => decide (n = "items") && bas ea && okE a K ea && (apos.endLine == cpos.line)
    | _ => false
  | _, _, _ => false
end
structure CkOk (X : Cx) (k : RC) (C : PC) (K : CK) : Prop where
  hX : XOk X k
  N : X.N = K.N
  nd : X.N.Nodup
  sc : X.env.scope = K.sc
  fn : ∀ x, K.fnb x = true → X.fn x = true
  xe : C.xe = fun _ _ => False
  nox : PassesOwn (model X.prog X.w) X.A X.env X.xe
  kind : K.sc.kind = .function
  blt : ∀ x ∈ (["len", "int", "str", "tuple", "list", "sorted", "min", "max", "sum", "any", "all", "abs", "range", "isinstance", "bool", "dict", "zip", "enumerate"] : List Str), X.mg x = none
  cst : ∀ x d, (x, d) ∈ K.cs → ∃ v u, X.mg x = some u ∧ RelV v u ∧ ∀ F, R k F v d
  fns : ∀ f x, (f, x) ∈ K.fs → ∃ i j, C8.Cal X.prog X.w X.K X.mg X.base i x (lift X.K X.w (C.sp f)) [] ∧ Room j X.A ∧ i ≤ j
section
variable {X : Cx} {k : RC} {C : PC} {K : CK}
theorem CkOk.lk (h : CkOk X k C K) (x : Str) : X.env.scope.names.lookup x = K.lk x := by rw [h.sc]; rfl
theorem CkOk.vis (h : CkOk X k C K) {x : Str} (v : K.vis x = true) : Vis X.env.scope x := by
  unfold CK.vis at v
  simp only [Bool.or_eq_true, decide_eq_true_eq] at v
  unfold Vis
  rw [h.lk]
  rcases v with (v | v) | v
  · exact .inl v
  · exact .inr (.inl v)
  · exact .inr (.inr v)
theorem CkOk.var (h : CkOk X k C K) {i : Nat} {x : Str} {pos : Pos} (v : K.var i x = true) : PE X (.Name x pos) (tVar i) := by
  unfold CK.var at v
  simp only [Bool.and_eq_true, decide_eq_true_eq, Bool.not_eq_true'] at v
  exact pe_var (by rw [h.N]; exact v.1.1.1) (h.vis v.1.1.2) v.1.2 v.2
theorem CkOk.sto (h : CkOk X k C K) {i : Nat} {x : Str} (v : K.sto i x = true) : X.N[i]? = some x ∧ L2.Loc X.env.scope x ∧ (X.fn x = true ∨ X.env.scope.names.lookup x = some .local) := by
  unfold CK.sto CK.loc at v
  simp only [Bool.and_eq_true, decide_eq_true_eq, Bool.or_eq_true] at v
  refine ⟨by rw [h.N]; exact v.1.1, ?_, ?_⟩
  · unfold L2.Loc; rw [h.lk]; exact v.1.2
  · rw [h.lk]; exact v.2.imp (h.fn x) id
theorem CkOk.gl (h : CkOk X k C K) {x : Str} (v : K.gl x = true) : Gl X x := by
  unfold CK.gl at v
  show X.env.scope.names.lookup x = _
  rw [h.lk]
  exact of_decide_eq_true v
theorem CkOk.into (h : CkOk X k C K) (s : Scope) (hs : s.kind = .function) (sh : Shared) (H : Hp) (A : Addr) (cl : List (Str × Addr)) (fp : List Addr) : CkOk (X.blk sh H s (compEnvC s cl A X.env) fp) k C (K.into s) where
  hX := ⟨h.hX.K, h.hX.w, h.hX.calm, h.hX.room⟩
  N := h.N
  nd := h.nd
  sc := by
    show relabel s X.env = relS s K.sc
    rw [← h.sc]
    rfl
  fn := fun x v => v
  xe := h.xe
  nox := PassesOwn.never
  kind := by
    show (relS s K.sc).kind = _
    exact hs
  blt := h.blt
  cst := h.cst
  fns := h.fns
theorem okB0_ok (h : CkOk X k C K) {s : Scope} {vs : List Nat} (v : okB0 K s vs = true) : BlkOk X.N X.env.scope s (ownOf K.N vs) ∧ (ownOf K.N vs).map (·.2) = vs ∧ s.kind = .function := by
  unfold okB0 at v
  simp only [Bool.and_eq_true, decide_eq_true_eq, List.all_eq_true, Bool.or_eq_true, Bool.not_eq_true', decide_eq_false_iff_not] at v
  obtain ⟨⟨⟨⟨v1, v2⟩, v3⟩, v4⟩, v5⟩ := v
  refine ⟨⟨v1, v2, fun p hp => ?_, fun y hy e => ?_, fun y hy e => ?_⟩, v3, v1⟩
  · unfold ownOf at hp
    obtain ⟨i, _, hi⟩ := List.mem_filterMap.mp hp
    obtain ⟨x, hx, rfl⟩ := Option.map_eq_some_iff.mp hi
    rw [h.N]; exact hx
  · rw [h.lk]
    exact (v4 y hy).resolve_left fun z => z e
  · have := (v5 y hy).resolve_left fun z => by
      rcases e with e | e <;> simp [e] at z
    rw [h.N]
    exact this
theorem okG_tup {K : CK} {t : Tg} {e : Expr} (v : okG K t e = true) (h : (!true || tgTp t) = true) : ∃ es kk p, e = .Tuple es kk p := by
  cases t with
  | nm i => exact absurd h Bool.false_ne_true
  | tp is =>
    cases e with
    | Tuple es kk p => exact ⟨es, kk, p, rfl⟩
    | _ => exact absurd v Bool.false_ne_true
theorem okG_ok (h : CkOk X k C K) {t : Tg} {e : Expr} (v : okG K t e = true) : PG X e (tG k t) := by
  cases t with
  | nm i =>
    cases e with
    | Name x p => obtain ⟨a, b, c⟩ := h.sto v; exact qg_nm h.nd a b c
    | _ => exact absurd v Bool.false_ne_true
  | tp is =>
    cases e with
    | Tuple es kk p =>
      have key : ∀ (is : List Nat) (es : List Expr), okG.okN K is es = true → NmAll X es is := fun is => by
        induction is with
        | nil => intro es v; cases es with
          | nil => exact .nil
          | cons _ _ => exact absurd v Bool.false_ne_true
        | cons i is ih =>
          intro es v
          cases es with
          | nil => exact absurd v Bool.false_ne_true
          | cons e es =>
            cases e with
            | Name x p =>
              have v : (K.sto i x && okG.okN K is es) = true := v
              simp only [Bool.and_eq_true] at v
              obtain ⟨a, b, c⟩ := h.sto v.1
              exact .cons a b c (ih es v.2)
            | _ => exact absurd v Bool.false_ne_true
      exact qg_tp h.hX h.nd (key is es v)
    | _ => exact absurd v Bool.false_ne_true
theorem okC_ok {d : D} {e : Expr} (v : okC d e = true) : PE X e (tE C k (.cst d)) := by
  unfold okC at v
  split at v
  · cases of_decide_eq_true v; exact qe_c pe_int fun F => .int _
  · cases of_decide_eq_true v; exact qe_c pe_str fun F => .str _
  · cases of_decide_eq_true v; exact qe_c pe_bl fun F => .bl _
  · exact qe_c pe_non fun F => .non
  · cases v
theorem okCg_ok (h : CkOk X k C K) {d : D} {e : Expr} (v : okCg K d e = true) : PE X e (tE C k (.cst d)) := by
  cases e with
  | Name x p =>
    have v : (K.gl x && !(x == ("__debug__" : Str)) && K.cs.any fun p => decide (p.1 = x) && sameD p.2 d) = true := v
    simp only [Bool.and_eq_true, Bool.not_eq_true', List.any_eq_true, decide_eq_true_eq] at v
    obtain ⟨⟨v1, v2⟩, ⟨y, d'⟩, v3, rfl, v4⟩ := v
    cases sameD_eq v4
    obtain ⟨w, u, h1, h2, h3⟩ := h.cst _ _ v3
    exact qe_c (pe_glob (h.gl v1) h1 h2 v2) h3
  | _ => exact absurd v Bool.false_ne_true
theorem mmd_ok (h : CkOk X k C K) {mx : Bool} {x : Str} {e1 e2 : Expr} {i1 i2 : IE} {p kp pos : Pos} (hx : x = if mx then "max" else "min") (hg : K.gl x = true) (hs : nst e1 = true) (h1 : PE X e1 (tE C k i1)) (h2 : PE X e2 (tE C k i2)) :
    PE X (.Call (.Name x p) [e1] [⟨some "default", e2, kp⟩] pos) (tE C k (.mmd mx i1 i2)) := by
  have hg := h.gl hg
  have s1 : ∀ {env}, starEach [e1] env = [(false, eval e1 env)] := fun {env} => by rw [star1 hs]; rfl
  cases mx with
  | true =>
    obtain rfl : x = "max" := hx
    exact qe_mmd h.hX (ck_maxD h.hX) hg (h.blt _ (by decide +kernel)) (by decide +kernel) (by decide +kernel) (by decide +kernel) h1 h2 s1
  | false =>
    obtain rfl : x = "min" := hx
    exact qe_mmd h.hX (ck_minD h.hX) hg (h.blt _ (by decide +kernel)) (by decide +kernel) (by decide +kernel) (by decide +kernel) h1 h2 s1
theorem cb_range (hX : XOk X k) : CallR X (.type "range") (rBlt k (bltP .range)) := by
  intro pins s σ H xs us Q I r ⟨ρ, σ', F, ds, QQ, rel, br, wp, fin⟩
  have go : ∀ (lo hi : Int) (t u v : Tok) (tk : Nat), rngOk lo → rngOk hi → QQ (.val (.rng lo hi)) → EP X pins σ Q (.ref s.heap.objs.size) { s with heap := s.heap.push { cls := .type "range", data := .fields #[.int lo t, .int hi u, .int 1 v] }, toks := tk } := fun lo hi t u v tk h1 h2 q => by
    have hn := I.hok.fresh (Nat.le_refl s.heap.objs.size)
    refine ⟨.ref s.heap.objs.size, upd H s.heap.objs.size (.rng lo hi), I.laid (fun b o e => Heap.get?_push_of_some _ e) (Nat.le_refl _) ⟨t, u, v, Heap.get?_push_size _ rfl⟩, rfl, ?_⟩
    exact fin _ _ _ _ (.newF rel .refl hn (.rng upd_same h1 h2)) q
  match ds, br, wp with
  | [.int j], br, ⟨h, q⟩ =>
    obtain ⟨x, rfl, b⟩ := brs1 br
    cases b.int
    obtain ⟨u, rfl, t, rfl⟩ := vals1 r
    exact call_range_1 (go 0 j _ _ _ _ ⟨by omega, by omega⟩ h q)
  | [.int i, .int j], br, ⟨⟨h1, h2⟩, q⟩ =>
    obtain ⟨x, y, rfl, b, c⟩ := brs2 br
    cases b.int; cases c.int
    obtain ⟨u1, u2, rfl, ⟨t1, rfl⟩, t2, rfl⟩ := vals2 r
    exact call_range_2 (go i j _ _ _ _ h1 h2 q)
theorem blt_ok (h : CkOk X k C K) {f : BI} {x : Str} {e : Expr} {es : List Expr} {ies : IE} {p pos : Pos} (hx : (match bltOf f with | some (y, _, _) => decide (x = y) | none => false) = true) (hg : K.gl x = true) (hn : (e :: es).all nst = true) (ha : PA X (e :: es) (tA C k true ies)) :
    PE X (.Call (.Name x p) (e :: es) [] pos) (tE C k (.blt f ies)) := by
  have hg := h.gl hg
  have h1 : ∀ {env}, starEach (e :: es) env = (false, eval e env) :: starEach es env := fun {env} => star1 (by simp only [List.all_cons, Bool.and_eq_true] at hn; exact hn.1)
  have h2 : ∀ {env pos}, (backTo pos (starEach es env)).any (·.1) = false := fun {env pos} => starA (by simp only [List.all_cons, Bool.and_eq_true] at hn; exact hn.2)
  have fB : ∀ {id : String}, CallR X (.builtin id) (rBlt k (bltP f)) → X.mg x = none → bootBuiltins x = some (.builtin id) → x ≠ "__name__" → (x == ("__debug__" : Str)) = false → PE X (.Call (.Name x p) (e :: es) [] pos) (tE C k (.blt f ies)) := fun c m b d1 d2 =>
    qe_blt (t := fun _ => tE C k .anil) (fun ta pa => pe_callB c hg m b pa d1 d2 h1 h2) ha
  have fT : ∀ {id : String}, CallR X (.type id) (rBlt k (bltP f)) → X.mg x = none → bootBuiltins x = some (.type id) → x ≠ "__name__" → (x == ("__debug__" : Str)) = false → PE X (.Call (.Name x p) (e :: es) [] pos) (tE C k (.blt f ies)) := fun c m b d1 d2 =>
    qe_blt (t := fun _ => tE C k .anil) (fun ta pa => pe_callTy c hg m b pa d1 d2 h1 h2) ha
  cases f <;> simp only [bltOf, decide_eq_true_eq, Bool.false_eq_true] at hx <;> subst hx
  · exact fB (cb_len h.hX) (h.blt _ (by decide +kernel)) boot_len (by decide +kernel) (by decide +kernel)
  · exact fT (cb_int h.hX) (h.blt _ (by decide +kernel)) (by decide +kernel) (by decide +kernel) (by decide +kernel)
  · exact fT (cb_str h.hX) (h.blt _ (by decide +kernel)) (by decide +kernel) (by decide +kernel) (by decide +kernel)
  · exact fT (cb_tuple h.hX) (h.blt _ (by decide +kernel)) (by decide +kernel) (by decide +kernel) (by decide +kernel)
  · exact fT (cb_list h.hX) (h.blt _ (by decide +kernel)) (by decide +kernel) (by decide +kernel) (by decide +kernel)
  · exact fB (cb_sorted h.hX) (h.blt _ (by decide +kernel)) (by decide +kernel) (by decide +kernel) (by decide +kernel)
  · exact fB (cb_min h.hX) (h.blt _ (by decide +kernel)) (by decide +kernel) (by decide +kernel) (by decide +kernel)
  · exact fB (cb_max h.hX) (h.blt _ (by decide +kernel)) (by decide +kernel) (by decide +kernel) (by decide +kernel)
  · exact fB (cb_sum h.hX) (h.blt _ (by decide +kernel)) (by decide +kernel) (by decide +kernel) (by decide +kernel)
  · exact fB (cb_any h.hX) (h.blt _ (by decide +kernel)) (by decide +kernel) (by decide +kernel) (by decide +kernel)
  · exact fB (cb_all h.hX) (h.blt _ (by decide +kernel)) (by decide +kernel) (by decide +kernel) (by decide +kernel)
  · exact fB (cb_abs h.hX) (h.blt _ (by decide +kernel)) (by decide +kernel) (by decide +kernel) (by decide +kernel)
  · exact fT (cb_range h.hX) (h.blt _ (by decide +kernel)) (by decide +kernel) (by decide +kernel) (by decide +kernel)
end
end PL
namespace PL
open PySem PySem.Spec PyProof.Rows L2
theorem pts_any {X : Cx} {k : RC} {C : PC} {c : IE} (h : (match c with | .cst (.bl true) => true | _ => false) = true) : PTs X [] (tT C k c) := by
  have : c = .cst (.bl true) := by
    split at h
    · rfl
    · cases h
  subst this
  exact ⟨fun pins s σ H Q I ⟨ρ, F, QQ, rel, wp, fin⟩ => pts_nil.run pins s σ H Q I (fin true ρ F H rel .refl wp)⟩
theorem nstA : ∀ {as : IE} {K : CK} {es : List Expr}, okA as K es = true → es.all nst = true
  | .anil, K, [], _ => rfl
  | .acons a as, K, e :: es, h => by
    have h : (nst e && okE a K e && okA as K es) = true := h
    simp only [Bool.and_eq_true] at h
    rw [List.all_cons, h.1.1, nstA h.2]
    rfl
  | .anil, K, _ :: _, h => absurd h Bool.false_ne_true
  | .acons _ _, K, [], h => absurd h Bool.false_ne_true
  | .cst _, _, _, h | .var _, _, _, h | .bor _, _, _, h | .bin _ _ _, _, _, h | .neg _, _, _, h | .cmp _ _ _, _, _, h | .cmp2 _ _ _ _ _, _, _, h | .tst _, _, _, h | .and _ _, _, _, h | .or _ _, _, _, h | .not _, _, _, h | .ite _ _ _, _, _, h
  | .tup _, _, _, h | .lst _, _, _, h | .dnew, _, _, h | .idx _ _, _, _, h | .slc _ _ _, _, _, h | .rev _, _, _, h | .call _ _, _, _, h | .callb _ _, _, _, h | .blt _ _, _, _, h | .isi _ _, _, _, h | .mth _ _ _, _, _, h | .itSeq _, _, _, h | .itR1 _, _, _, h
  | .itR2 _ _, _, _, h | .itEnum _, _, _, h | .itZip _ _, _, _, h | .itZip3 _ _ _, _, _, h | .itItems _, _, _, h | .comp _ _ _ _ _, _, _, h | .comp2 _ _ _ _ _ _ _ _ _, _, _, h | .mmd _ _ _, _, _, h | .dcomp _ _ _ _ _ _, _, _, h => absurd h Bool.false_ne_true
variable {k : RC} {C : PC}
mutual
theorem snd_E : ∀ (ie : IE) {X : Cx} {K : CK} {e : Expr}, CkOk X k C K → okE ie K e = true → PE X e (tE C k ie)
  | .cst d, X, K, e, h, v => by
    have v : (okC d e || okCg K d e) = true := v
    simp only [Bool.or_eq_true] at v
    exact v.elim okC_ok (okCg_ok h)
  | .var i, X, K, e, h, v => by
    cases e with
    | Name x p => exact qe_var (h.var v)
    | _ => exact absurd v Bool.false_ne_true
  | .bor i, X, K, e, h, v => by
    cases e with
    | Name x p => exact qe_bor (h.var v)
    | _ => exact absurd v Bool.false_ne_true
  | .bin o a b, X, K, e, h, v => by
    cases e with
    | BinOp ea op eb p =>
      have v : (decide (op = opOf o) && okE a K ea && okE b K eb) = true := v
      simp only [Bool.and_eq_true, decide_eq_true_eq] at v
      obtain ⟨⟨rfl, v1⟩, v2⟩ := v
      exact qe_bin h.hX (snd_E a h v1) (snd_E b h v2)
    | _ => exact absurd v Bool.false_ne_true
  | .neg a, X, K, e, h, v => by
    cases e with
    | UnaryOp op ea p =>
      cases op with
      | USub => exact qe_neg (snd_E a h v)
      | _ => exact absurd v Bool.false_ne_true
    | _ => exact absurd v Bool.false_ne_true
  | .cmp c a b, X, K, e, h, v => by
    unfold okE at v
    split at v
    · simp only [Bool.and_eq_true, decide_eq_true_eq, Bool.not_eq_true'] at v
      obtain ⟨⟨⟨rfl, v1⟩, v2⟩, v3⟩ := v
      exact qe_cmp h.hX (snd_E a h v1) (snd_E b h v2) v3
    · exact absurd v Bool.false_ne_true
  | .cmp2 c c' a b d, X, K, e, h, v => by
    unfold okE at v
    split at v
    · simp only [Bool.and_eq_true, decide_eq_true_eq, Bool.not_eq_true'] at v
      obtain ⟨⟨⟨⟨⟨rfl, rfl⟩, v1⟩, v2⟩, v3⟩, v4⟩ := v
      exact qe_cmp2 h.hX (snd_E a h v1) (snd_E b h v2) (snd_E d h v3) v4
    · exact absurd v Bool.false_ne_true
  | .and a b, X, K, e, h, v => by
    unfold okE at v
    split at v
    · rename_i ea eb rest pos
      simp only [Bool.and_eq_true] at v
      cases rest with
      | nil => exact qe_and (snd_E a h v.1) (pe_one (snd_E b h v.2))
      | cons e3 rest => exact qe_and (snd_E a h v.1) (snd_E b h v.2)
    · exact absurd v Bool.false_ne_true
  | .or a b, X, K, e, h, v => by
    unfold okE at v
    split at v
    · rename_i ea eb rest pos
      simp only [Bool.and_eq_true] at v
      cases rest with
      | nil => exact qe_or (snd_E a h v.1) (pe_one (snd_E b h v.2))
      | cons e3 rest => exact qe_or (snd_E a h v.1) (snd_E b h v.2)
    · exact absurd v Bool.false_ne_true
  | .not a, X, K, e, h, v => by
    cases e with
    | UnaryOp op ea p =>
      cases op with
      | Not => exact qe_not (snd_E a h v)
      | _ => exact absurd v Bool.false_ne_true
    | _ => exact absurd v Bool.false_ne_true
  | .ite c a b, X, K, e, h, v => by
    cases e with
    | IfExp ec ea eb p =>
      have v : (okT c K ec && okE a K ea && okE b K eb) = true := v
      simp only [Bool.and_eq_true] at v
      exact qe_ite (snd_T c h v.1.1).1 (snd_E a h v.1.2) (snd_E b h v.2)
    | _ => exact absurd v Bool.false_ne_true
  | .tup as, X, K, e, h, v => by
    cases e with
    | Tuple es kk p => exact qe_tup (snd_A as h v)
    | _ => exact absurd v Bool.false_ne_true
  | .lst as, X, K, e, h, v => by
    cases e with
    | List es p => exact qe_lst (snd_A as h v)
    | _ => exact absurd v Bool.false_ne_true
  | .dnew, X, K, e, h, v => by
    unfold okE at v
    split at v
    · exact qe_dnew
    · exact absurd v Bool.false_ne_true
  | .idx a b, X, K, e, h, v => by
    cases e with
    | Subscript ea eb p =>
      have v : (okE a K ea && okE b K eb && pix eb) = true := v
      simp only [Bool.and_eq_true] at v
      exact qe_idx h.hX (snd_E a h v.1.1) (snd_E b h v.1.2) (pix_ok v.2)
    | _ => exact absurd v Bool.false_ne_true
  | .slc a lo hi, X, K, e, h, v => by
    unfold okE at v
    split at v
    · rename_i ea l hh p2 p
      simp only [Bool.and_eq_true] at v
      obtain ⟨⟨v1, v2⟩, v3⟩ := v
      have pl : PO X l (tO C k lo) := by
        cases l with
        | none =>
          have : lo = .cst .non := by
            have v2 : isMiss lo = true := v2
            unfold isMiss at v2
            split at v2
            · rfl
            · cases v2
          subst this
          exact po_no
        | some el =>
          have v2 : (!isMiss lo && okE lo K el) = true := v2
          simp only [Bool.and_eq_true, Bool.not_eq_true'] at v2
          exact po_yes (snd_E lo h v2.2) v2.1
      have ph : PO X hh (tO C k hi) := by
        cases hh with
        | none =>
          have : hi = .cst .non := by
            have v3 : isMiss hi = true := v3
            unfold isMiss at v3
            split at v3
            · rfl
            · cases v3
          subst this
          exact po_no
        | some el =>
          have v3 : (!isMiss hi && okE hi K el) = true := v3
          simp only [Bool.and_eq_true, Bool.not_eq_true'] at v3
          exact po_yes (snd_E hi h v3.2) v3.1
      exact qe_slc h.hX (snd_E a h v1) pl ph
    · exact absurd v Bool.false_ne_true
  | .call f as, X, K, e, h, v => by
    unfold okE at v
    split at v
    · rename_i x p e1 es pos
      simp only [Bool.and_eq_true, decide_eq_true_eq, Bool.not_eq_true'] at v
      obtain ⟨⟨⟨v1, v2⟩, v3⟩, v4⟩ := v
      obtain ⟨i, j, c, hr, hij⟩ := h.fns f x v1
      have hn := nstA v4
      simp only [List.all_cons, Bool.and_eq_true] at hn
      exact qe_call h.hX c hr hij (h.gl v2) h.xe (snd_A as h v4) v3 (star1 hn.1) (starA hn.2)
    · simp only [Bool.and_eq_true, decide_eq_true_eq, Bool.not_eq_true'] at v
      obtain ⟨⟨⟨v1, v2⟩, v3⟩, v4⟩ := v
      cases isNil_eq v4
      obtain ⟨i, j, c, hr, hij⟩ := h.fns _ _ v1
      exact qe_call0 h.hX c hr hij (h.gl v2) h.xe v3
    · exact absurd v Bool.false_ne_true
  | .blt f as, X, K, e, h, v => by
    unfold okE at v
    split at v
    · rename_i x p e1 es pos
      simp only [Bool.and_eq_true] at v
      exact blt_ok h v.1.1 v.1.2 (nstA v.2) (snd_A as h v.2)
    · exact absurd v Bool.false_ne_true
  | .mmd mx a b, X, K, e, h, v => by
    unfold okE at v
    split at v
    · simp only [Bool.and_eq_true, decide_eq_true_eq] at v
      obtain ⟨⟨⟨⟨⟨rfl, v1⟩, v2⟩, v3⟩, v4⟩, v5⟩ := v
      exact mmd_ok h v1 v2 v3 (snd_E a h v4) (snd_E b h v5)
    · exact absurd v Bool.false_ne_true
  | .isi a t, X, K, e, h, v => by
    unfold okE at v
    split at v
    · rename_i x p ea y p2 pos
      simp only [Bool.and_eq_true, decide_eq_true_eq] at v
      obtain ⟨⟨⟨⟨⟨rfl, rfl⟩, v3⟩, v4⟩, v5⟩, v6⟩ := v
      refine qe_isi h.hX (h.gl v3) (h.blt _ (by decide +kernel)) (h.gl v4) ?_ ?_ ?_ ?_ (snd_E a h v6) (star1 v5)
      · cases t <;> exact h.blt _ (by decide +kernel)
      · cases t <;> decide +kernel
      · cases t <;> decide +kernel
      · cases t <;> decide +kernel
    · exact absurd v Bool.false_ne_true
  | .mth m a as, X, K, e, h, v => by
    cases m with
    | index =>
      unfold okE at v
      split at v
      · rename_i ea n apos e1 es cpos
        simp only [Bool.and_eq_true, decide_eq_true_eq] at v
        obtain ⟨⟨⟨⟨⟨rfl, v2⟩, v3⟩, v4⟩, v5⟩, v6⟩ := v
        have hn := nstA v4
        have hn' := hn
        simp only [List.all_cons, Bool.and_eq_true] at hn'
        exact qe_index h.hX (snd_E a h v3) (snd_A as h v4) (base_ok v2) (fewA hn v5) v6 (star1 hn'.1) (starA hn'.2)
      · exact absurd v Bool.false_ne_true
    | upper =>
      unfold okE at v
      split at v
      · rename_i ea n apos cpos
        simp only [Bool.and_eq_true, decide_eq_true_eq] at v
        obtain ⟨⟨⟨⟨v1, rfl⟩, v2⟩, v3⟩, v4⟩ := v
        have : as = .anil := by
          split at v1
          · rfl
          · cases v1
        subst this
        exact qe_upper (snd_E a h v3) (base_ok v2) v4
      · exact absurd v Bool.false_ne_true
    | _ => exact absurd v Bool.false_ne_true
  | .rev a, X, K, e, h, v => by
    unfold okE at v
    split at v
    · exact qe_rev h.hX (snd_E a h v)
    · exact absurd v Bool.false_ne_true
  | .comp vs tg it c el, X, K, e, h, v => by
    unfold okE at v
    split at v
    · rename_i ee et ei ifs s pos
      simp only [Bool.and_eq_true, Bool.not_eq_true', List.all_eq_true] at v
      obtain ⟨⟨⟨⟨⟨⟨⟨v1, v2⟩, v3⟩, v4⟩, v5⟩, v6⟩, v7⟩, v8⟩ := v
      obtain ⟨b1, b2, b3⟩ := okB0_ok h v1
      have hin := fun sh H A cl fp => h.into s b3 sh H A cl fp
      have pts : ∀ (sh : Shared) (H : Hp) (A : Addr) (cl : List (Str × Addr)) (fp : List Addr), PTs (X.blk sh H s (compEnvC s cl A X.env) fp) ifs (tT C k c) := fun sh H A cl fp => by
        cases ifs with
        | nil => exact pts_any v7
        | cons ec r =>
          cases r with
          | nil => exact pts_one (snd_T c (hin sh H A cl fp) v7).1
          | cons _ _ => exact absurd v7 Bool.false_ne_true
      have := pe_lc (pos := pos) h.hX.calm h.nd (snd_I it (b := true) (tp := tpOf it) (tg := et) h rfl (fun z => okG_tup v3 (by rw [z] at v5; exact v5)) v2) b1 (fun sh H A cl fp => okG_ok (hin sh H A cl fp) v3)
        pts
        (fun sh H A cl fp => snd_E el (hin sh H A cl fp) v8) (set_ok v6)
      rw [b2] at this
      exact weak this fun σ H Q q => lc_sem (fun z => by
        rw [z] at v5
        cases tg with
        | nm i => exact absurd v5 Bool.false_ne_true
        | tp is => exact ⟨is, rfl⟩) (fun i hi => by simpa using v4 i hi) q
    · exact absurd v Bool.false_ne_true
  | .comp2 vs vs1 tg it c tg1 it1 c1 el, X, K, e, h, v => by
    unfold okE at v
    split at v
    · rename_i ee et ei ifs et1 ei1 ifs1 s pos
      simp only [Bool.and_eq_true, Bool.not_eq_true', List.all_eq_true] at v
      obtain ⟨⟨⟨⟨⟨⟨⟨⟨v1, v2⟩, v3⟩, v4⟩, v5⟩, v6⟩, v7⟩, ⟨⟨⟨⟨⟨⟨u2, u3⟩, u4⟩, u9⟩, u5⟩, u6⟩, u7⟩⟩, v8⟩ := v
      obtain ⟨b1, b2, b3⟩ := okB0_ok h v1
      have hin := fun sh H A cl fp => h.into s b3 sh H A cl fp
      have pts : ∀ {ifs : List Expr} {c : IE} (_ : (match ifs with | [] => (match c with | .cst (.bl true) => true | _ => false) | [ec] => okT c (K.into s) ec | _ => false) = true) (sn : ∀ (ec : Expr) (sh : Shared) (H : Hp) (A : Addr) (cl : List (Str × Addr)) (fp : List Addr), okT c (K.into s) ec = true → PT (X.blk sh H s (compEnvC s cl A X.env) fp) ec (tT C k c)), ∀ (sh : Shared) (H : Hp) (A : Addr) (cl : List (Str × Addr)) (fp : List Addr), PTs (X.blk sh H s (compEnvC s cl A X.env) fp) ifs (tT C k c) := fun {ifs c} v7 sn sh H A cl fp => by
        cases ifs with
        | nil => exact pts_any v7
        | cons ec r =>
          cases r with
          | nil => exact pts_one (sn ec sh H A cl fp v7)
          | cons _ _ => exact absurd v7 Bool.false_ne_true
      have := pe_lc2 (pos := pos) (vs1 := vs1) h.hX.calm h.nd (snd_I it (b := true) (tp := tpOf it) (tg := et) h rfl (fun z => okG_tup v3 (by rw [z] at v5; exact v5)) v2) b1 (fun i hi => by rw [b2]; simpa using u9 i hi) (fun sh H A cl fp => okG_ok (hin sh H A cl fp) v3)
        (pts v7 fun ec sh H A cl fp v => (snd_T c (hin sh H A cl fp) v).1)
        (fun sh H A cl fp => snd_I it1 (b := false) (tp := tpOf it1) (tg := et1) (hin sh H A cl fp) rfl (fun z => okG_tup u3 (by rw [z] at u5; exact u5)) u2)
        (fun sh H A cl fp => okG_ok (hin sh H A cl fp) u3)
        (pts u7 fun ec sh H A cl fp v => (snd_T c1 (hin sh H A cl fp) v).1)
        (fun sh H A cl fp => snd_E el (hin sh H A cl fp) v8) (set_ok v6) (fun _ => set_ok u6)
      rw [b2] at this
      exact weak this fun σ H Q q => lc2_sem (fun z => by
        rw [z] at v5
        cases tg with
        | nm i => exact absurd v5 Bool.false_ne_true
        | tp is => exact ⟨is, rfl⟩) (fun i hi => by simpa using v4 i hi) (fun z => by
        rw [z] at u5
        cases tg1 with
        | nm i => exact absurd u5 Bool.false_ne_true
        | tp is => exact ⟨is, rfl⟩) (fun i hi => by simpa using u4 i hi) (fun i hi => by simpa using u9 i hi) q
    · exact absurd v Bool.false_ne_true
  | .dcomp vs tg it c ik iv, X, K, e, h, v => by
    unfold okE at v
    split at v
    · rename_i ek ev et ei ifs s pos
      simp only [Bool.and_eq_true, Bool.not_eq_true', List.all_eq_true] at v
      obtain ⟨⟨⟨⟨⟨⟨⟨⟨v1, v2⟩, v3⟩, v4⟩, v5⟩, v6⟩, v7⟩, v8⟩, v9⟩ := v
      obtain ⟨b1, b2, b3⟩ := okB0_ok h v1
      have hin := fun sh H A cl fp => h.into s b3 sh H A cl fp
      have pts : ∀ (sh : Shared) (H : Hp) (A : Addr) (cl : List (Str × Addr)) (fp : List Addr), PTs (X.blk sh H s (compEnvC s cl A X.env) fp) ifs (tT C k c) := fun sh H A cl fp => by
        cases ifs with
        | nil => exact pts_any v7
        | cons ec r =>
          cases r with
          | nil => exact pts_one (snd_T c (hin sh H A cl fp) v7).1
          | cons _ _ => exact absurd v7 Bool.false_ne_true
      have := pe_dx (pos := pos) h.hX h.nd (snd_I it (b := true) (tp := tpOf it) (tg := et) h rfl (fun z => okG_tup v3 (by rw [z] at v5; exact v5)) v2) b1 (fun sh H A cl fp => okG_ok (hin sh H A cl fp) v3)
        pts
        (fun sh H A cl fp => snd_E ik (hin sh H A cl fp) v8) (fun sh H A cl fp => snd_E iv (hin sh H A cl fp) v9) (set_ok v6)
      rw [b2] at this
      exact weak this fun σ H Q q => dx_sem (fun z => by
        rw [z] at v5
        cases tg with
        | nm i => exact absurd v5 Bool.false_ne_true
        | tp is => exact ⟨is, rfl⟩) (fun i hi => by simpa using v4 i hi) q
    · exact absurd v Bool.false_ne_true
  | .tst _, _, _, _, _, v | .anil, _, _, _, _, v | .acons _ _, _, _, _, _, v | .callb _ _, _, _, _, _, v | .itSeq _, _, _, _, _, v | .itR1 _, _, _, _, _, v | .itR2 _ _, _, _, _, _, v | .itEnum _, _, _, _, _, v | .itZip _ _, _, _, _, _, v
  | .itZip3 _ _ _, _, _, _, _, v | .itItems _, _, _, _, _, v => absurd v Bool.false_ne_true
theorem snd_T : ∀ (ie : IE) {X : Cx} {K : CK} {e : Expr}, CkOk X k C K → okT ie K e = true → PT X e (tT C k ie) ∧ ∀ op l p, e = .BoolOp op l p → PW X e (tT C k ie)
  | .cmp c a b, X, K, e, h, v => by
    unfold okT at v
    split at v
    · simp only [Bool.and_eq_true, decide_eq_true_eq, Bool.not_eq_true'] at v
      obtain ⟨⟨⟨rfl, v1⟩, v2⟩, v3⟩ := v
      exact ⟨qt_cmp h.hX (snd_E a h v1) (snd_E b h v2) v3, fun _ _ _ z => by cases z⟩
    · exact absurd v Bool.false_ne_true
  | .cmp2 c c' a b d, X, K, e, h, v => by
    unfold okT at v
    split at v
    · simp only [Bool.and_eq_true, decide_eq_true_eq, Bool.not_eq_true'] at v
      obtain ⟨⟨⟨⟨⟨rfl, rfl⟩, v1⟩, v2⟩, v3⟩, v4⟩ := v
      exact ⟨qt_cmp2 h.hX (snd_E a h v1) (snd_E b h v2) (snd_E d h v3) v4, fun _ _ _ z => by cases z⟩
    · exact absurd v Bool.false_ne_true
  | .and a b, X, K, e, h, v => by
    unfold okT at v
    split at v
    · rename_i ea eb rest pos
      simp only [Bool.and_eq_true] at v
      have w : PW X (.BoolOp .And (ea :: eb :: rest) pos) (tT C k (.and a b)) := by
        cases rest with
        | nil => exact qt_and (snd_T a h v.1).1 (pw_and1 (snd_T b h v.2).1)
        | cons e3 rest => exact qt_and (snd_T a h v.1).1 ((snd_T b h v.2).2 _ _ _ rfl)
      exact ⟨w.pt, fun _ _ _ _ => w⟩
    · exact absurd v Bool.false_ne_true
  | .or a b, X, K, e, h, v => by
    unfold okT at v
    split at v
    · rename_i ea eb rest pos
      simp only [Bool.and_eq_true] at v
      have w : PW X (.BoolOp .Or (ea :: eb :: rest) pos) (tT C k (.or a b)) := by
        cases rest with
        | nil => exact qt_or (snd_T a h v.1).1 (pw_or1 (snd_T b h v.2).1)
        | cons e3 rest => exact qt_or (snd_T a h v.1).1 ((snd_T b h v.2).2 _ _ _ rfl)
      exact ⟨w.pt, fun _ _ _ _ => w⟩
    · exact absurd v Bool.false_ne_true
  | .not a, X, K, e, h, v => by
    cases e with
    | UnaryOp op ea p =>
      cases op with
      | Not => exact ⟨qt_not (snd_T a h v).1, fun _ _ _ z => by cases z⟩
      | _ => exact absurd v Bool.false_ne_true
    | _ => exact absurd v Bool.false_ne_true
  | .tst a, X, K, e, h, v => by
    have v : (okE a K e && pln e) = true := v
    simp only [Bool.and_eq_true] at v
    exact ⟨qt_tst h.hX (snd_E a h v.1) (isT_pln v.2), fun _ _ _ z => by subst z; exact absurd v.2 Bool.false_ne_true⟩
  | .cst _, _, _, _, _, v | .var _, _, _, _, _, v | .bor _, _, _, _, _, v | .bin _ _ _, _, _, _, _, v | .neg _, _, _, _, _, v | .ite _ _ _, _, _, _, _, v | .tup _, _, _, _, _, v | .lst _, _, _, _, _, v | .dnew, _, _, _, _, v | .idx _ _, _, _, _, _, v | .slc _ _ _, _, _, _, _, v
  | .call _ _, _, _, _, _, v | .blt _ _, _, _, _, _, v | .isi _ _, _, _, _, _, v | .mth _ _ _, _, _, _, _, v | .comp _ _ _ _ _, _, _, _, _, v | .dcomp _ _ _ _ _ _, _, _, _, _, v
  | .anil, _, _, _, _, v | .acons _ _, _, _, _, _, v | .rev _, _, _, _, _, v | .callb _ _, _, _, _, _, v | .itSeq _, _, _, _, _, v | .itR1 _, _, _, _, _, v | .itR2 _ _, _, _, _, _, v | .itEnum _, _, _, _, _, v | .itZip _ _, _, _, _, _, v
  | .itZip3 _ _ _, _, _, _, _, v | .itItems _, _, _, _, _, v | .comp2 _ _ _ _ _ _ _ _ _, _, _, _, _, v | .mmd _ _ _, _, _, _, _, v => absurd v Bool.false_ne_true
theorem snd_A : ∀ (ie : IE) {b : Bool} {X : Cx} {K : CK} {es : List Expr}, CkOk X k C K → okA ie K es = true → PA X es (tA C k b ie)
  | .anil, b, X, K, es, h, v => by
    cases es with
    | nil => exact qa_nil
    | cons _ _ => exact absurd v Bool.false_ne_true
  | .acons a as, b, X, K, es, h, v => by
    cases es with
    | nil => exact absurd v Bool.false_ne_true
    | cons e es =>
      have v : (nst e && okE a K e && okA as K es) = true := v
      simp only [Bool.and_eq_true] at v
      exact qa_cons (snd_E a h v.1.2) (snd_A as h v.2) (star1 v.1.1)
  | .tst _, _, _, _, _, _, v | .cmp _ _ _, _, _, _, _, _, v | .cmp2 _ _ _ _ _, _, _, _, _, _, v | .and _ _, _, _, _, _, _, v | .or _ _, _, _, _, _, _, v | .not _, _, _, _, _, _, v
  | .cst _, _, _, _, _, _, v | .var _, _, _, _, _, _, v | .bor _, _, _, _, _, _, v | .bin _ _ _, _, _, _, _, _, v | .neg _, _, _, _, _, _, v | .ite _ _ _, _, _, _, _, _, v | .tup _, _, _, _, _, _, v | .lst _, _, _, _, _, _, v | .dnew, _, _, _, _, _, v | .idx _ _, _, _, _, _, _, v | .slc _ _ _, _, _, _, _, _, v
  | .call _ _, _, _, _, _, _, v | .blt _ _, _, _, _, _, _, v | .isi _ _, _, _, _, _, _, v | .mth _ _ _, _, _, _, _, _, v | .comp _ _ _ _ _, _, _, _, _, _, v | .dcomp _ _ _ _ _ _, _, _, _, _, _, v
  | .rev _, _, _, _, _, _, v | .callb _ _, _, _, _, _, _, v | .itSeq _, _, _, _, _, _, v | .itR1 _, _, _, _, _, _, v | .itR2 _ _, _, _, _, _, _, v | .itEnum _, _, _, _, _, _, v | .itZip _ _, _, _, _, _, _, v
  | .itZip3 _ _ _, _, _, _, _, _, v | .itItems _, _, _, _, _, _, v | .comp2 _ _ _ _ _ _ _ _ _, _, _, _, _, _, v | .mmd _ _ _, _, _, _, _, _, v => absurd v Bool.false_ne_true
theorem snd_I : ∀ (ie : IE) {b tp : Bool} {tg : Expr} {X : Cx} {K : CK} {e : Expr}, CkOk X k C K → tp = tpOf ie → (tpOf ie = true → ∃ es kk p, tg = .Tuple es kk p) → okI ie K e = true → PI X tg e (tI C k b tp ie)
  | .itSeq a, b, tp, tg, X, K, e, h, ht, htg, v => by
    subst ht
    exact qi_seq h.hX (snd_E a h v)
  | .itR1 a, b, tp, tg, X, K, e, h, ht, htg, v => by
    subst ht
    unfold okI at v
    split at v
    · rename_i x p ea pos
      simp only [Bool.and_eq_true, decide_eq_true_eq] at v
      obtain ⟨⟨⟨rfl, v2⟩, v3⟩, v4⟩ := v
      exact qi_rng1 (h.gl v2) (h.blt _ (by decide +kernel)) (snd_E a h v4) (star1 v3) (star1 v3)
    · exact absurd v Bool.false_ne_true
  | .itR2 a c, b, tp, tg, X, K, e, h, ht, htg, v => by
    subst ht
    unfold okI at v
    split at v
    · rename_i x p ea eb pos
      simp only [Bool.and_eq_true, decide_eq_true_eq] at v
      obtain ⟨⟨⟨⟨⟨rfl, v2⟩, v3⟩, v4⟩, v5⟩, v6⟩ := v
      exact qi_rng2 (h.gl v2) (h.blt _ (by decide +kernel)) (snd_E a h v5) (snd_E c h v6) (star1 v3) (star1 v4) (by rw [star1 v3, star1 v4]; rfl) (star1 v4)
    · exact absurd v Bool.false_ne_true
  | .itEnum a, b, tp, tg, X, K, e, h, ht, htg, v => by
    subst ht
    obtain ⟨es, kk, tp', rfl⟩ := htg rfl
    unfold okI at v
    split at v
    · rename_i x p ea pos
      simp only [Bool.and_eq_true, decide_eq_true_eq] at v
      obtain ⟨⟨⟨rfl, v2⟩, v3⟩, v4⟩ := v
      exact qi_enum h.hX (h.gl v2) (h.blt _ (by decide +kernel)) (qa_cons (snd_E a h v4) qa_nil (star1 v3)) (star1 v3)
    · exact absurd v Bool.false_ne_true
  | .itZip a c, b, tp, tg, X, K, e, h, ht, htg, v => by
    subst ht
    obtain ⟨es, kk, tp', rfl⟩ := htg rfl
    unfold okI at v
    split at v
    · rename_i x p ea ec pos
      simp only [Bool.and_eq_true, decide_eq_true_eq] at v
      obtain ⟨⟨⟨⟨⟨rfl, v2⟩, v3⟩, v4⟩, v5⟩, v6⟩ := v
      exact qi_zip2 h.hX (h.gl v2) (h.blt _ (by decide +kernel)) (qa_cons (snd_E a h v5) (qa_cons (snd_E c h v6) qa_nil (star1 v4)) (star1 v3)) (star1 v3) (by rw [star1 v4]; rfl)
    · exact absurd v Bool.false_ne_true
  | .itZip3 a c a3, b, tp, tg, X, K, e, h, ht, htg, v => by
    subst ht
    obtain ⟨es, kk, tp', rfl⟩ := htg rfl
    unfold okI at v
    split at v
    · rename_i x p ea ec e3 pos
      simp only [Bool.and_eq_true, decide_eq_true_eq] at v
      obtain ⟨⟨⟨⟨⟨⟨⟨rfl, v2⟩, v3⟩, v4⟩, v5⟩, v6⟩, v7⟩, v8⟩ := v
      exact qi_zip3 h.hX (h.gl v2) (h.blt _ (by decide +kernel)) (qa_cons (snd_E a h v6) (qa_cons (snd_E c h v7) (qa_cons (snd_E a3 h v8) qa_nil (star1 v5)) (star1 v4)) (star1 v3)) (star1 v3) (by rw [star1 v4, star1 v5]; rfl)
    · exact absurd v Bool.false_ne_true
  | .itItems a, b, tp, tg, X, K, e, h, ht, htg, v => by
    subst ht
    obtain ⟨es, kk, tp', rfl⟩ := htg rfl
    unfold okI at v
    split at v
    · rename_i ea n apos cpos
      simp only [Bool.and_eq_true, decide_eq_true_eq] at v
      obtain ⟨⟨⟨rfl, v2⟩, v3⟩, v4⟩ := v
      exact qi_items h.hX (snd_E a h v3) (base_ok v2) v4
    · exact absurd v Bool.false_ne_true
  | .tst _, _, _, _, _, _, _, _, _, _, v | .cmp _ _ _, _, _, _, _, _, _, _, _, _, v | .cmp2 _ _ _ _ _, _, _, _, _, _, _, _, _, _, v | .and _ _, _, _, _, _, _, _, _, _, _, v | .or _ _, _, _, _, _, _, _, _, _, _, v | .not _, _, _, _, _, _, _, _, _, _, v | .cst _, _, _, _, _, _, _, _, _, _, v | .var _, _, _, _, _, _, _, _, _, _, v | .bor _, _, _, _, _, _, _, _, _, _, v | .bin _ _ _, _, _, _, _, _, _, _, _, _, v | .neg _, _, _, _, _, _, _, _, _, _, v | .ite _ _ _, _, _, _, _, _, _, _, _, _, v | .tup _, _, _, _, _, _, _, _, _, _, v | .lst _, _, _, _, _, _, _, _, _, _, v | .dnew, _, _, _, _, _, _, _, _, _, v | .idx _ _, _, _, _, _, _, _, _, _, _, v | .slc _ _ _, _, _, _, _, _, _, _, _, _, v | .call _ _, _, _, _, _, _, _, _, _, _, v | .blt _ _, _, _, _, _, _, _, _, _, _, v | .isi _ _, _, _, _, _, _, _, _, _, _, v | .mth _ _ _, _, _, _, _, _, _, _, _, _, v | .comp _ _ _ _ _, _, _, _, _, _, _, _, _, _, v | .dcomp _ _ _ _ _ _, _, _, _, _, _, _, _, _, _, v | .anil, _, _, _, _, _, _, _, _, _, v | .acons _ _, _, _, _, _, _, _, _, _, _, v | .rev _, _, _, _, _, _, _, _, _, _, v | .callb _ _, _, _, _, _, _, _, _, _, _, v | .comp2 _ _ _ _ _ _ _ _ _, _, _, _, _, _, _, _, _, _, v | .mmd _ _ _, _, _, _, _, _, _, _, _, _, v => absurd v Bool.false_ne_true
end
end PL
namespace PL
open PySem PySem.Spec PyProof.Rows L2
section
variable {X : Cx} {k : RC} {C : PC} {pos : Pos}
theorem set_core {i : Nat} {ie : IE} {D : Ends} {σ : L2.St} {H : Hp} (h : tS C k (.asg (.nm i) ie) D σ H) : tE C k ie σ H (fun x H1 => gName i x σ H1 D.nx) := by
  obtain ⟨ρ, F, F0, H0, G, E, rel, tr, wp, en⟩ := h
  exact ⟨ρ, F, _, rel, wp, fun r ρ' v F' H' p q => by
    obtain ⟨s, q1, q2, q3⟩ := p.slot rel q
    obtain ⟨x1, x2⟩ := p.store (i := i) rel tr q2 q3
    exact en.nx _ _ _ _ x1 x2 q1⟩
theorem ps_setDx (hX : XOk X k) {i : Nat} {y : Str} {py : Pos} {kx vx tg iter : Expr} {ifs : List Expr} {scope : Scope} {own : List (Str × Nat)} {pos spos : Pos} {wi : TI} {g : TG} {tt : TT} {tk tv : TE} (hN : X.N.Nodup) (hy : X.N[i]? = some y) (hyl : X.env.scope.names.lookup y = some .local)
    (hsw : swapsWith (.DictComp kx vx [⟨tg, iter, ifs, 0⟩] scope pos) (some (.Name y py)) spos.line X.env = pure true) (hi : PI X tg iter wi) (ok : BlkOk X.N X.env.scope scope own)
    (hg : ∀ (s : Shared) (H : Hp) (C : Addr) (cl : List (Str × Addr)) (fp : List Addr), PG (X.blk s H scope (compEnvC scope cl C X.env) fp) tg g)
    (ht : ∀ (s : Shared) (H : Hp) (C : Addr) (cl : List (Str × Addr)) (fp : List Addr), PTs (X.blk s H scope (compEnvC scope cl C X.env) fp) ifs tt)
    (hk : ∀ (s : Shared) (H : Hp) (C : Addr) (cl : List (Str × Addr)) (fp : List Addr), PE (X.blk s H scope (compEnvC scope cl C X.env) fp) kx tk)
    (he : ∀ (s : Shared) (H : Hp) (C : Addr) (cl : List (Str × Addr)) (fp : List Addr), PE (X.blk s H scope (compEnvC scope cl C X.env) fp) vx tv) (hs : ∀ x, foldedSetIterable iter X.env x = pure x) :
    PS X (.Assign [.Name y py] (.DictComp kx vx [⟨tg, iter, ifs, 0⟩] scope pos) spos) (tAsg (tDx k wi g tt tk tv (own.map (·.2))) (gName i)) := by
  refine ⟨fun pins s σ H D I h => ?_⟩
  rw [exec_Assign_Name_used _ _ _ _ hsw]
  refine wpAny_bind (wpAny_standAt (wpAny_bind ?_))
  show wpAny _ X.A (do let _ ← comprehension (.DictComp kx vx [⟨tg, iter, ifs, 0⟩] scope pos) scope X.env (firstIterPos [⟨tg, iter, ifs, 0⟩] pos) newDict false (eval iter X.env) (some (assign (.Name y py) X.env))) _ _ s
  have h : tDx k wi g tt tk tv (own.map (·.2)) σ H (fun x H1 => gName i x σ H1 D.nx) := h
  refine wpAny_bind (thn (dx_core hX (Qf := fun _ s' => SP X pins D .next s') hN I hi ok hg ht hk he hs h fun L C s' m H' I' q hn f => ?_) fun _ s' hq => wpAny_pure (wpAny_pure hq))
  show wpAny _ _ (assign (.Name y py) X.env (.ref L)) _ _ _
  refine wpAny_assign_Name (store_ok2 (v := V.ref L) I' hN hy (.inl hyl) rfl (fun s2 I2 ⟨a, sb, ha⟩ => ?_) (.inr hyl))
  obtain ⟨f0, f1, f2, f3, f4, f5⟩ := f
  have haC : C ≠ a := by
    rcases ha with z | z
    · rw [z]; exact f1
    · exact fun e => f4 y a z e.symm
  refine ⟨m, hn.sameBut sb haC, fun h3 sb3 => ?_⟩
  exact ⟨_, H', I2.turned (t' := s2.toks) (fun b o hb e => (sb3.2 b hb).trans e) f0 f1 f3 f4 f5, q⟩
theorem sw_trueD {kx vx : Expr} {gs : List Comprehension} {scope : Scope} {pos py : Pos} {y : Str} {l : Nat} {env : Env} (hk : env.scope.kind = .function) (hy : env.scope.names.lookup y = some .local) (hl : (py.line == pos.line) = true)
    (ha : (scope.names.any fun (n, k) => n == y && (k == .local || k == .cell)) = false) : swapsWith (.DictComp kx vx gs scope pos) (some (.Name y py)) l env = pure true := by
  have ky : env.kindOf y = some .local := hy
  have hb : env.blockKind = .function := by unfold Env.blockKind; rw [hk]; rfl
  unfold swapsWith
  simp only [hb, ky, ha, Expr.pos, hl]
  rfl
end
theorem sw_cellL {elt : Expr} {gs : List Comprehension} {scope : Scope} {pos py : Pos} {y : Str} {l : Nat} {env : Env} (hy : env.scope.names.lookup y = some .cell) : swapsWith (.ListComp elt gs scope pos) (some (.Name y py)) l env = pure false := by
  have ky : env.kindOf y = some .cell := hy
  unfold swapsWith
  simp only [ky]
  have : (some NameKind.cell == some NameKind.local) = false := by decide
  rw [this, Bool.and_false]; rfl
theorem sw_cellD {kx vx : Expr} {gs : List Comprehension} {scope : Scope} {pos py : Pos} {y : Str} {l : Nat} {env : Env} (hy : env.scope.names.lookup y = some .cell) : swapsWith (.DictComp kx vx gs scope pos) (some (.Name y py)) l env = pure false := by
  have ky : env.kindOf y = some .cell := hy
  unfold swapsWith
  simp only [ky]
  have : (some NameKind.cell == some NameKind.local) = false := by decide
  rw [this, Bool.and_false]; rfl
def swB (K : CK) (y : Str) (py : Pos) (s : Scope) (cp : Pos) : Bool := decide (K.lk y = some .local) && (py.line == cp.line) && !(s.names.any fun (n, k) => n == y && (k == .local || k == .cell))
def parO (K : CK) (is : List Nat) (es : List Expr) (ev : Expr) (e : IE) : Bool := match is, es, ev, e with
  | [i, j], [.Name x px, .Name y py], .Tuple [a, b] _ _, .tup _ => !(i == j) && !decide (x = y) && decide (K.lk x = some .local) && decide (K.lk y = some .local) && (py.line == px.line) && parC a b
  | _, _, _, _ => false
mutual
def okS : IS → CK → Stmt → Bool
  | .skip, _, st => match st with
    | .Pass _ => true
    | .Expr (.Constant (.str _) _ _) _ => true
    | _ => false
  | .asg (.nm i) e, K, st => match st with
    | .Assign [.Name x px] (.ListComp a b s cp) _ => K.sto i x && okE e K (.ListComp a b s cp) && (swB K x px s cp || decide (K.lk x = some .cell))
    | .Assign [.Name x px] (.DictComp a a' b s cp) _ => K.sto i x && okE e K (.DictComp a a' b s cp) && (swB K x px s cp || decide (K.lk x = some .cell))
    | .Assign [.Name x _] ev _ => K.sto i x && okE e K ev && !isComp ev
    | _ => false
  | .asg (.tp is) e, K, st => match st with
    | .Assign [.Tuple es kk tp] ev _ => okG K (.tp is) (.Tuple es kk tp) && okE e K ev && (!isTup ev || parO K is es ev e)
    | _ => false
  | .asgS i ik e, K, st => match st with
    | .Assign [.Subscript (.Name x _) ek _] ev _ => K.var i x && okE ik K ek && okE e K ev && pix ek
    | _ => false
  | .aug i e, K, st => match st with
    | .AugAssign (.Name x _) .Add ev _ => K.sto i x && okE e K ev
    | _ => false
  | .app i e, K, st => match st with
    | .Expr (.Call (.Attribute (.Name x _) n apos) [ev] [] cpos) _ => decide (n = "append") && K.var i x && okE e K ev && nst ev && (apos.endLine == cpos.line)
    | _ => false
  | .remv i e, K, st => match st with
    | .Expr (.Call (.Attribute (.Name x _) n apos) [ev] [] cpos) _ => decide (n = "remove") && K.var i x && okE e K ev && nst ev && (apos.endLine == cpos.line)
    | _ => false
  | .popT j i e, K, st => match st with
    | .Assign [.Name x _] (.BinOp (.Name x2 _) .Add (.Tuple [.Call (.Attribute (.Name y _) n apos) [ev] [] cpos] _ _) _) _ => decide (n = "pop") && K.sto j x && K.var j x2 && K.var i y && okE e K ev && nst ev && (apos.endLine == cpos.line)
    | _ => false
  | .ifs c a b, K, st => match st with
    | .If ec ba bb _ => okT c K ec && okB a K ba && okB b K bb
    | _ => false
  | .fr tg it b, K, st => match st with
    | .For et ei eb [] _ => okG K tg et && okI it K ei && (!tpOf it || tgTp tg) && !isSet ei && okB b K eb
    | _ => false
  | .whl c b, K, st => match st with
    | .While ec eb [] _ => okT c K ec && okB b K eb
    | _ => false
  | .ret e, K, st => match st with
    | .Return (some ev) _ => okE e K ev
    | _ => false
  | .ret0, _, st => match st with
    | .Return none _ => true
    | _ => false
  | .reto i, K, st => match st with
    | .Return (some (.Name x _)) _ => K.var i x
    | _ => false
  | .brk, _, st => match st with
    | .Break _ => true
    | _ => false
  | .cnt, _, st => match st with
    | .Continue _ => true
    | _ => false
  | .ex e, K, st => match st with
    | .Expr ev _ => okE e K ev && !isComp ev
    | _ => false
  | .rais _, _, st => match st with
    | .Raise _ _ _ => true
    | _ => false
  | _, _, _ => false
def okB : IS → CK → List Stmt → Bool
  | .skip, _, sts => match sts with
    | [] => true
    | _ => false
  | .seq a b, K, sts => match sts with
    | st :: rest => okS a K st && okB b K rest
    | [] => false
  | _, _, _ => false
end
section
variable {k : RC} {C : PC}
theorem set_lc {X : Cx} {K : CK} {pos : Pos} {i : Nat} {x : Str} {px cp : Pos} {s : Scope} {a : Expr} {b : List Comprehension} {e : IE} (h : CkOk X k C K) (v1 : K.sto i x = true) (v2 : okE e K (.ListComp a b s cp) = true) (v3 : swB K x px s cp = true) : PS X (.Assign [.Name x px] (.ListComp a b s cp) pos) (tS C k (.asg (.nm i) e)) := by
  unfold swB at v3
  simp only [Bool.and_eq_true, decide_eq_true_eq, Bool.not_eq_true'] at v3
  obtain ⟨⟨w1, w2⟩, w3⟩ := v3
  have hyl : X.env.scope.names.lookup x = some .local := by rw [h.lk]; exact w1
  cases e with
  | comp vs tg it c el =>
    unfold okE at v2
    split at v2
    · rename_i hh
      cases hh
      rename_i et ei ifs
      simp only [Bool.and_eq_true, Bool.not_eq_true', List.all_eq_true] at v2
      obtain ⟨⟨⟨⟨⟨⟨⟨u1, u2⟩, u3⟩, u4⟩, u5⟩, u6⟩, u7⟩, u8⟩ := v2
      obtain ⟨b1, b2, b3⟩ := okB0_ok h u1
      have hin := fun sh H A cl fp => h.into s b3 sh H A cl fp
      have pts : ∀ (sh : Shared) (H : Hp) (A : Addr) (cl : List (Str × Addr)) (fp : List Addr), PTs (X.blk sh H s (compEnvC s cl A X.env) fp) ifs (tT C k c) := fun sh H A cl fp => by
        cases ifs with
        | nil => exact pts_any u7
        | cons ec r =>
          cases r with
          | nil => exact pts_one (snd_T c (hin sh H A cl fp) u7).1
          | cons _ _ => exact absurd u7 Bool.false_ne_true
      have := ps_setLc (pos := cp) (spos := pos) (py := px) h.hX.calm h.nd (h.sto v1).1 hyl (sw_true (by rw [h.sc]; exact h.kind) hyl w2 w3) (snd_I it (b := true) (tp := tpOf it) (tg := et) h rfl (fun z => okG_tup u3 (by rw [z] at u5; exact u5)) u2) b1 (fun sh H A cl fp => okG_ok (hin sh H A cl fp) u3) pts
        (fun sh H A cl fp => snd_E el (hin sh H A cl fp) u8) (set_ok u6)
      rw [b2] at this
      exact weakS this fun D σ H q => lc_sem (fun z => by
        rw [z] at u5
        cases tg with
        | nm i => exact absurd u5 Bool.false_ne_true
        | tp is => exact ⟨is, rfl⟩) (fun i hi => by simpa using u4 i hi) (set_core q)
    · cases v2
  | comp2 vs vs1 tg it c tg1 it1 c1 el =>
    unfold okE at v2
    split at v2
    · rename_i hh
      cases hh
      rename_i et ei ifs et1 ei1 ifs1
      simp only [Bool.and_eq_true, Bool.not_eq_true', List.all_eq_true] at v2
      obtain ⟨⟨⟨⟨⟨⟨⟨⟨z1, v2⟩, v3⟩, v4⟩, v5⟩, v6⟩, v7⟩, ⟨⟨⟨⟨⟨⟨u2, u3⟩, u4⟩, u9⟩, u5⟩, u6⟩, u7⟩⟩, v8⟩ := v2
      obtain ⟨b1, b2, b3⟩ := okB0_ok h z1
      have hin := fun sh H A cl fp => h.into s b3 sh H A cl fp
      have pts : ∀ {ifs : List Expr} {c : IE} (_ : (match ifs with | [] => (match c with | .cst (.bl true) => true | _ => false) | [ec] => okT c (K.into s) ec | _ => false) = true) (sn : ∀ (ec : Expr) (sh : Shared) (H : Hp) (A : Addr) (cl : List (Str × Addr)) (fp : List Addr), okT c (K.into s) ec = true → PT (X.blk sh H s (compEnvC s cl A X.env) fp) ec (tT C k c)), ∀ (sh : Shared) (H : Hp) (A : Addr) (cl : List (Str × Addr)) (fp : List Addr), PTs (X.blk sh H s (compEnvC s cl A X.env) fp) ifs (tT C k c) := fun {ifs c} v7 sn sh H A cl fp => by
        cases ifs with
        | nil => exact pts_any v7
        | cons ec r =>
          cases r with
          | nil => exact pts_one (sn ec sh H A cl fp v7)
          | cons _ _ => exact absurd v7 Bool.false_ne_true
      have := ps_setLc2 (pos := cp) (spos := pos) (py := px) (vs1 := vs1) h.hX.calm h.nd (h.sto v1).1 hyl (sw_true (by rw [h.sc]; exact h.kind) hyl w2 w3) (snd_I it (b := true) (tp := tpOf it) (tg := et) h rfl (fun z => okG_tup v3 (by rw [z] at v5; exact v5)) v2) b1 (fun i hi => by rw [b2]; simpa using u9 i hi) (fun sh H A cl fp => okG_ok (hin sh H A cl fp) v3)
        (pts v7 fun ec sh H A cl fp v => (snd_T c (hin sh H A cl fp) v).1)
        (fun sh H A cl fp => snd_I it1 (b := false) (tp := tpOf it1) (tg := et1) (hin sh H A cl fp) rfl (fun z => okG_tup u3 (by rw [z] at u5; exact u5)) u2)
        (fun sh H A cl fp => okG_ok (hin sh H A cl fp) u3)
        (pts u7 fun ec sh H A cl fp v => (snd_T c1 (hin sh H A cl fp) v).1)
        (fun sh H A cl fp => snd_E el (hin sh H A cl fp) v8) (set_ok v6) (fun _ => set_ok u6)
      rw [b2] at this
      exact weakS this fun D σ H q => lc2_sem (fun z => by
        rw [z] at v5
        cases tg with
        | nm i => exact absurd v5 Bool.false_ne_true
        | tp is => exact ⟨is, rfl⟩) (fun i hi => by simpa using v4 i hi) (fun z => by
        rw [z] at u5
        cases tg1 with
        | nm i => exact absurd u5 Bool.false_ne_true
        | tp is => exact ⟨is, rfl⟩) (fun i hi => by simpa using u4 i hi) (fun i hi => by simpa using u9 i hi) (set_core q)
    · cases v2
  | _ => first | exact absurd v2 Bool.false_ne_true | (rename_i m _ _; cases m <;> exact absurd v2 Bool.false_ne_true) | (rename_i d; cases d <;> exact absurd v2 Bool.false_ne_true)
theorem set_dx {X : Cx} {K : CK} {pos : Pos} {i : Nat} {x : Str} {px cp : Pos} {s : Scope} {a a' : Expr} {b : List Comprehension} {e : IE} (h : CkOk X k C K) (v1 : K.sto i x = true) (v2 : okE e K (.DictComp a a' b s cp) = true) (v3 : swB K x px s cp = true) : PS X (.Assign [.Name x px] (.DictComp a a' b s cp) pos) (tS C k (.asg (.nm i) e)) := by
  unfold swB at v3
  simp only [Bool.and_eq_true, decide_eq_true_eq, Bool.not_eq_true'] at v3
  obtain ⟨⟨w1, w2⟩, w3⟩ := v3
  have hyl : X.env.scope.names.lookup x = some .local := by rw [h.lk]; exact w1
  cases e with
  | dcomp vs tg it c ik iv =>
    unfold okE at v2
    split at v2
    · rename_i hh
      cases hh
      rename_i et ei ifs
      simp only [Bool.and_eq_true, Bool.not_eq_true', List.all_eq_true] at v2
      obtain ⟨⟨⟨⟨⟨⟨⟨⟨u1, u2⟩, u3⟩, u4⟩, u5⟩, u6⟩, u7⟩, u8⟩, u9⟩ := v2
      obtain ⟨b1, b2, b3⟩ := okB0_ok h u1
      have hin := fun sh H A cl fp => h.into s b3 sh H A cl fp
      have pts : ∀ (sh : Shared) (H : Hp) (A : Addr) (cl : List (Str × Addr)) (fp : List Addr), PTs (X.blk sh H s (compEnvC s cl A X.env) fp) ifs (tT C k c) := fun sh H A cl fp => by
        cases ifs with
        | nil => exact pts_any u7
        | cons ec r =>
          cases r with
          | nil => exact pts_one (snd_T c (hin sh H A cl fp) u7).1
          | cons _ _ => exact absurd u7 Bool.false_ne_true
      have := ps_setDx (pos := cp) (spos := pos) (py := px) h.hX h.nd (h.sto v1).1 hyl (sw_trueD (by rw [h.sc]; exact h.kind) hyl w2 w3) (snd_I it (b := true) (tp := tpOf it) (tg := et) h rfl (fun z => okG_tup u3 (by rw [z] at u5; exact u5)) u2) b1 (fun sh H A cl fp => okG_ok (hin sh H A cl fp) u3) pts
        (fun sh H A cl fp => snd_E ik (hin sh H A cl fp) u8) (fun sh H A cl fp => snd_E iv (hin sh H A cl fp) u9) (set_ok u6)
      rw [b2] at this
      exact weakS this fun D σ H q => dx_sem (fun z => by
        rw [z] at u5
        cases tg with
        | nm i => exact absurd u5 Bool.false_ne_true
        | tp is => exact ⟨is, rfl⟩) (fun i hi => by simpa using u4 i hi) (set_core q)
    · cases v2
  | _ => first | exact absurd v2 Bool.false_ne_true | (rename_i m _ _; cases m <;> exact absurd v2 Bool.false_ne_true) | (rename_i d; cases d <;> exact absurd v2 Bool.false_ne_true)
theorem sws_other {e t : Expr} {l : Nat} {env : Env} (h : ∀ x p, t ≠ .Name x p) : swapsWithSole [t] e l env = pure false := by
  show swapsWith e (some t) l env = pure false
  exact sw_other h
mutual
theorem snd_S : ∀ (is : IS) {X : Cx} {K : CK} {st : Stmt}, CkOk X k C K → okS is K st = true → PS X st (tS C k is)
  | .skip, X, K, st, h, v => by
    unfold okS at v
    split at v
    · exact qs_pass
    · exact qs_doc
    · cases v
  | .asg (.nm i) e, X, K, st, h, v => by
    unfold okS at v
    split at v
    · simp only [Bool.and_eq_true, Bool.or_eq_true, decide_eq_true_eq] at v
      rcases v.2 with z | z
      · exact set_lc h v.1.1 v.1.2 z
      · obtain ⟨a, b, c⟩ := h.sto v.1.1
        exact qs_set h.nd a b (snd_E e h v.1.2) (sw_cellL (by rw [h.lk]; exact z)) c
    · simp only [Bool.and_eq_true, Bool.or_eq_true, decide_eq_true_eq] at v
      rcases v.2 with z | z
      · exact set_dx h v.1.1 v.1.2 z
      · obtain ⟨a, b, c⟩ := h.sto v.1.1
        exact qs_set h.nd a b (snd_E e h v.1.2) (sw_cellD (by rw [h.lk]; exact z)) c
    · simp only [Bool.and_eq_true, Bool.not_eq_true'] at v
      obtain ⟨a, b, c⟩ := h.sto v.1.1
      exact qs_set h.nd a b (snd_E e h v.1.2) (sw_no v.2) c
    · cases v
  | .asg (.tp is) e, X, K, st, h, v => by
    unfold okS at v
    split at v
    · simp only [Bool.and_eq_true, Bool.not_eq_true'] at v
      obtain ⟨v1, v2⟩ := v
      cases hp : isTup _ with
      | false => exact qs_tup h.hX (snd_E e h v1.2) (okG_ok h v1.1) (sws_other fun x p z => Expr.noConfusion z) (swp_ok hp) rfl
      | true =>
        rw [hp] at v2
        have v2 : parO K is _ _ e = true := v2
        unfold parO at v2
        split at v2
        · rename_i i j x px y py a b k2 pt2 ias _
          simp only [Bool.and_eq_true, Bool.not_eq_true', decide_eq_true_eq, decide_eq_false_iff_not] at v2
          obtain ⟨⟨⟨⟨⟨n1, n2⟩, n3⟩, n4⟩, n5⟩, n6⟩ := v2
          have g : okG.okN K [i, j] [.Name x px, .Name y py] = true := v1.1
          have g : (K.sto i x && (K.sto j y && true)) = true := g
          simp only [Bool.and_eq_true] at g
          have hx : X.env.scope.names.lookup x = some .local := by rw [h.lk]; exact n3
          have hy : X.env.scope.names.lookup y = some .local := by rw [h.lk]; exact n4
          have hk : X.env.scope.kind = .function := by rw [h.sc]; exact h.kind
          have hb : X.env.blockKind = .function := by unfold Env.blockKind; rw [hk]; rfl
          exact qs_par h.hX h.nd (h.sto g.1).1 (h.sto g.2.1).1 (fun z => by subst z; simp at n1) hx hy (snd_A ias h v1.2) (swp_pair hb hx hy n5 n2 n6) rfl
        · cases v2
    · cases v
  | .asgS i ik e, X, K, st, h, v => by
    unfold okS at v
    split at v
    · simp only [Bool.and_eq_true] at v
      exact qs_asgS h.hX (h.var v.1.1.1) (snd_E ik h v.1.1.2) (snd_E e h v.1.2) (asgS_ok v.2) (sws_other fun x p z => Expr.noConfusion z) rfl rfl
    · cases v
  | .aug i e, X, K, st, h, v => by
    unfold okS at v
    split at v
    · simp only [Bool.and_eq_true] at v
      obtain ⟨a, b, c⟩ := h.sto v.1
      exact qs_aug h.nd a b (snd_E e h v.2) c
    · cases v
  | .app i e, X, K, st, h, v => by
    unfold okS at v
    split at v
    · simp only [Bool.and_eq_true, decide_eq_true_eq] at v
      obtain ⟨⟨⟨⟨rfl, v2⟩, v3⟩, v4⟩, v5⟩ := v
      exact qs_app (h.var v2) (snd_E e h v3) rfl rfl (fewA (by rw [List.all_cons, v4]; rfl) (show 1 < 30 by decide)) v5 (star1 v4)
    · cases v
  | .remv i e, X, K, st, h, v => by
    unfold okS at v
    split at v
    · simp only [Bool.and_eq_true, decide_eq_true_eq] at v
      obtain ⟨⟨⟨⟨rfl, v2⟩, v3⟩, v4⟩, v5⟩ := v
      exact qs_remv (h.var v2) (snd_E e h v3) rfl rfl (fewA (by rw [List.all_cons, v4]; rfl) (show 1 < 30 by decide)) v5 (star1 v4)
    · cases v
  | .popT j i e, X, K, st, h, v => by
    unfold okS at v
    split at v
    · simp only [Bool.and_eq_true, decide_eq_true_eq] at v
      obtain ⟨⟨⟨⟨⟨⟨rfl, v2⟩, v3⟩, v4⟩, v5⟩, v6⟩, v7⟩ := v
      obtain ⟨a, b, c⟩ := h.sto v2
      exact qs_popT h.hX h.nd a b c (h.var v3) (h.var v4) (snd_E e h v5) rfl rfl (fewA (by rw [List.all_cons, v6]; rfl) (show 1 < 30 by decide)) v7 (star1 v6) rfl
    · cases v
  | .ifs c a b, X, K, st, h, v => by
    unfold okS at v
    split at v
    · simp only [Bool.and_eq_true] at v
      exact qs_if (snd_T c h v.1.1).1 (snd_B a h v.1.2) (snd_B b h v.2)
    · cases v
  | .fr tg it b, X, K, st, h, v => by
    unfold okS at v
    split at v
    · simp only [Bool.and_eq_true, Bool.not_eq_true'] at v
      obtain ⟨⟨⟨⟨v1, v2⟩, v3⟩, v4⟩, v5⟩ := v
      exact qs_for h.hX (tp := tpOf it) h.nox (snd_I it h rfl (fun z => okG_tup v1 (by rw [z] at v3; exact v3)) v2) (okG_ok h v1) (fun z => by
        rw [z] at v3
        cases tg with
        | nm i => exact absurd v3 Bool.false_ne_true
        | tp is => exact ⟨is, rfl⟩) (snd_B b h v5) (set_ok v4)
    · cases v
  | .whl c b, X, K, st, h, v => by
    unfold okS at v
    split at v
    · simp only [Bool.and_eq_true] at v
      exact qs_whl h.nox (snd_T c h v.1).1 (snd_B b h v.2)
    · cases v
  | .ret e, X, K, st, h, v => by
    unfold okS at v
    split at v
    · exact qs_ret (snd_E e h v)
    · cases v
  | .ret0, X, K, st, h, v => by
    unfold okS at v
    split at v
    · exact qs_ret0
    · cases v
  | .reto i, X, K, st, h, v => by
    unfold okS at v
    split at v
    · exact qs_reto (h.var v)
    · cases v
  | .brk, X, K, st, h, v => by
    unfold okS at v
    split at v
    · exact qs_brk
    · cases v
  | .cnt, X, K, st, h, v => by
    unfold okS at v
    split at v
    · exact qs_cnt
    · cases v
  | .ex e, X, K, st, h, v => by
    unfold okS at v
    split at v
    · simp only [Bool.and_eq_true, Bool.not_eq_true'] at v
      exact qs_ex (snd_E e h v.1) (sw_no v.2)
    · cases v
  | .rais n, X, K, st, h, v => by
    refine ⟨fun pins s σ H D I hh => ?_⟩
    obtain ⟨ρ, F, F0, H0, G, E, rel, tr, wp, en⟩ := hh
    have wp : C.xe n ρ.dr := wp
    rw [h.xe] at wp
    exact wp.elim
  | .seq _ _, _, _, _, _, v | .ext _ _, _, _, _, _, v | .pop0 _ _, _, _, _, _, v | .pop1 _ _ _, _, _, _, _, v | .sdef _ _ _, _, _, _, _, v | .frl _ _ _, _, _, _, _, v => absurd v Bool.false_ne_true
theorem snd_B : ∀ (is : IS) {X : Cx} {K : CK} {sts : List Stmt}, CkOk X k C K → okB is K sts = true → PSs X sts (tS C k is)
  | .skip, X, K, sts, h, v => by
    cases sts with
    | nil => exact qss_nil
    | cons _ _ => exact absurd v Bool.false_ne_true
  | .seq a b, X, K, sts, h, v => by
    cases sts with
    | nil => exact absurd v Bool.false_ne_true
    | cons st rest =>
      have v : (okS a K st && okB b K rest) = true := v
      simp only [Bool.and_eq_true] at v
      exact qss_cons (snd_S a h v.1) (snd_B b h v.2)
  | .asg _ _, _, _, _, _, v | .asgS _ _ _, _, _, _, _, v | .aug _ _, _, _, _, _, v | .app _ _, _, _, _, _, v | .popT _ _ _, _, _, _, _, v | .ifs _ _ _, _, _, _, _, v | .fr _ _ _, _, _, _, _, v | .whl _ _, _, _, _, _, v | .ret _, _, _, _, _, v | .ret0, _, _, _, _, v
  | .reto _, _, _, _, _, v | .brk, _, _, _, _, v | .cnt, _, _, _, _, v | .ex _, _, _, _, _, v | .ext _ _, _, _, _, _, v | .remv _ _, _, _, _, _, v | .pop0 _ _, _, _, _, _, v | .pop1 _ _ _, _, _, _, _, v | .sdef _ _ _, _, _, _, _, v | .frl _ _ _, _, _, _, _, v
  | .rais _, _, _, _, _, v => absurd v Bool.false_ne_true
end
end
section
variable {P : Program} {w : World} {K : PySem.W.Frag} {mg : Str → Option Value} {base : Heap}
def BltOk (mg : Str → Option Value) : Prop := ∀ x ∈ (["len", "int", "str", "tuple", "list", "sorted", "min", "max", "sum", "any", "all", "abs", "range", "isinstance", "bool", "dict", "zip", "enumerate"] : List Str), mg x = none
def CsOk (K : PySem.W.Frag) (mg : Str → Option Value) (cs : List (Str × D)) : Prop := ∀ x d, (x, d) ∈ cs → ∃ v u, mg x = some u ∧ RelV v u ∧ ∀ (k : RC) (F : Hp), k.K = K → R k F v d
def FnsOk (P : Program) (w : World) (K : PySem.W.Frag) (mg : Str → Option Value) (base : Heap) (j : Nat) (fs : List (Nat × Str)) (sp : Nat → Spec) : Prop :=
  ∀ f x, (f, x) ∈ fs → ∃ i, i ≤ j ∧ C8.Cal P w K mg base i x (lift K w (sp f)) []
theorem start_get {N : List Str} {vs : List V} {i : Nat} : (L2.start N vs)[i]? = if i < vs.length then (vs[i]?).map some else if i < N.length then some none else none := by
  unfold L2.start
  by_cases h : i < vs.length
  · rw [if_pos h, List.getElem?_append_left (by simpa using h), List.getElem?_map]
  · rw [if_neg h, List.getElem?_append_right (by simpa using h), List.getElem?_replicate]
    simp only [List.length_map]
    by_cases h2 : i < N.length
    · rw [if_pos h2, if_pos (by omega)]
    · rw [if_neg h2, if_neg (by omega)]
theorem rel_start {k : RC} {N : List Str} {vs : List V} {ds : List D} {dr : Nat} {F H : Hp} (hl : ds.length ≤ N.length) (sub : Same F H) (pool : PoolOk k F H dr) (r : Rs k F vs ds) :
    Rel k ⟨ds.map SV.val ++ List.replicate (N.length - ds.length) SV.no, dr⟩ (L2.start N vs) F H ∧ ∀ i a, ¬ OwnAt ⟨ds.map SV.val ++ List.replicate (N.length - ds.length) SV.no, dr⟩ (L2.start N vs) i a := by
  have len := r.length
  have gt : ∀ i, PEnv.get ⟨ds.map SV.val ++ List.replicate (N.length - ds.length) SV.no, dr⟩ i = match ds[i]? with | some d => .val d | none => .no := fun i => by
    unfold PEnv.get
    rw [List.getD_eq_getElem?_getD]
    by_cases h : i < ds.length
    · rw [List.getElem?_append_left (by simpa using h), List.getElem?_map, List.getElem?_eq_getElem h]; rfl
    · rw [List.getElem?_append_right (by simpa using h), List.getElem?_replicate, List.getElem?_eq_none (by omega)]
      split <;> rfl
  have no : ∀ i a, ¬ OwnAt ⟨ds.map SV.val ++ List.replicate (N.length - ds.length) SV.no, dr⟩ (L2.start N vs) i a := fun i a ⟨h, _⟩ => by
    rw [gt] at h
    cases e : ds[i]? <;> rw [e] at h <;> cases h
  refine ⟨⟨?_, sub, fun i => ?_, fun i j a x => absurd x (no i a), pool⟩, no⟩
  · unfold L2.start
    simp only [List.length_append, List.length_map, List.length_replicate]
    omega
  · rw [gt]
    cases e : ds[i]? with
    | none => trivial
    | some d =>
      obtain ⟨v, h1, h2⟩ := r.get e
      refine ⟨v, ?_, h2⟩
      rw [start_get, if_pos (List.getElem?_eq_some_iff.mp h1).1, h1]
      rfl
theorem def_ok {x : Str} {st : Stmt} {f : Addr} {fd : FuncData} {N ps : List Str} {j : Nat} {fs : List (Nat × Str)} {cs : List (Str × D)} {sps : Nat → Spec} {sp : Spec} {body : IS} (F : C8.Def K mg x st f fd) (b : Binds K fd ps []) (S : FnScope N ps (C8.fnScope st)) (hp : ps.length ≤ N.length)
    (hb : BltOk mg) (hcs : CsOk K mg cs) (hf : FnsOk P w K mg base j fs sps) (ck : okB body ⟨N, C8.fnScope st, none, fs, cs⟩ (C8.fnBody st) = true) (len : ∀ ds dr Q xe, sp ds dr Q xe → ds.length = ps.length)
    (hw : ∀ ds dr Q, sp ds dr Q (fun _ _ => False) → wpF ⟨sps, fun _ _ => False⟩ N.length body ds dr Q) : C8.Cal P w K mg base (j + 1) x (lift K w sp) [] := by
  refine C8.cal0 F b .nil S (fun vs H Q E ⟨P', F', ds, dr, QQ, _, _, rs, hs, _⟩ => by rw [rs.length]; exact len _ _ _ _ hs) fun cdv A outer s H vs Q E hr ⟨P', F', ds, dr, QQ, sub, pool, rs, hs, fin⟩ => ?_
  refine ⟨tS ⟨sps, fun _ _ => False⟩ ⟨K, w, P'⟩ body, snd_B body (K := ⟨N, C8.fnScope st, none, fs, cs⟩) ?_ ck, ?_⟩
  · exact ⟨⟨rfl, rfl, rfl, hr.mono (Nat.zero_le _)⟩, rfl, S.nd, rfl, fun _ _ => rfl, rfl, PassesOwn.never, S.kind, hb, fun x d h => let ⟨v, u, h1, h2, h3⟩ := hcs x d h; ⟨v, u, h1, h2, fun F => h3 _ F rfl⟩, fun f x h => let ⟨i, hi, c⟩ := hf f x h; ⟨i, j, c, hr, hi⟩⟩
  · have hl := len _ _ _ _ hs
    obtain ⟨rel, no⟩ := rel_start (N := N) (by omega) sub pool rs
    refine ⟨_, F', F', H, F', _, rel, ⟨fun _ _ h => h, .refl, fun _ h => h, fun _ _ => rfl, fun i a z => absurd z (no i a), fun _ _ h => h⟩, hw ds dr QQ hs, ?_⟩
    refine ⟨fun ρ σ F1 H1 r t q => ?_, fun ρ σ F1 H1 r t q => q.elim, fun ρ σ F1 H1 r t q => q.elim, fun r dr' v F1 H1 cp q => fin r dr' v F1 H1 cp q⟩
    exact fin (.val .non) _ _ _ _ (t.post r.sub r.pool (show R _ F1 .non .non from .non)) q
end
end PL
namespace PL
open PySem PySem.Spec PyProof.Rows L2
section
variable {P : Program} {w : World} {K : PySem.W.Frag} {mg : Str → Option Value} {base : Heap}
theorem ck_entry {x : Str} {st : Stmt} {f : Addr} {N ps : List Str} {j : Nat} {fs : List (Nat × Str)} {cs : List (Str × D)} {sps : Nat → Spec} {cdv : Value} {A : Around} {outer : List Env} {s : Shared} {H : Hp} {E : XK} {P' : Option (Addr × Addr × Addr)} (S : FnScope N ps (C8.fnScope st)) (hb : BltOk mg) (hcs : CsOk K mg cs)
    (hf : FnsOk P w K mg base j fs sps) (hr : Room j (A.deeper (envOfC x (C8.fnScope st) s.heap.objs.size f cdv))) :
    CkOk (cxOf C8.CX0 P w K mg base N x (C8.fnScope st) f cdv A outer s H E).nox ⟨K, w, P'⟩ ⟨sps, fun _ _ => False⟩ ⟨N, C8.fnScope st, none, fs, cs⟩ :=
  ⟨⟨rfl, rfl, rfl, hr.mono (Nat.zero_le _)⟩, rfl, S.nd, rfl, fun _ _ => rfl, rfl, PassesOwn.never, S.kind, hb, fun x d h => let ⟨v, u, h1, h2, h3⟩ := hcs x d h; ⟨v, u, h1, h2, fun F => h3 _ F rfl⟩, fun f x h => let ⟨i, hi, c⟩ := hf f x h; ⟨i, j, c, hr, hi⟩⟩
def spCell (K : PySem.W.Frag) : Sp := fun vs H Q _ => ∃ a ns n, vs = [.ref a, .int (n : Nat)] ∧ SqL K H a (List.map V.int ns) ∧ ∀ i, Q (.int i) H
theorem cell_ok {st : Stmt} {f : Addr} {fd : FuncData} {p1 p2 p3 p4 p5 p6 p7 p8 p9 p10 p11 p12 : Pos} {c1 j : Nat} (F : C8.Def K mg "_law_cell" st f fd) (b : Binds K fd ["script", "k"] []) (S : FnScope ["script", "k"] ["script", "k"] (C8.fnScope st)) (hb : BltOk mg)
    (ck : ((⟨["script", "k"], C8.fnScope st, none, [], []⟩ : CK).var 0 "script" && (⟨["script", "k"], C8.fnScope st, none, [], []⟩ : CK).var 1 "k" && (⟨["script", "k"], C8.fnScope st, none, [], []⟩ : CK).gl "len") = true)
    (hbody : C8.fnBody st = [.If (.Compare (.Name "k" p1) [.Lt] [.Call (.Name "len" p2) [.Name "script" p3] [] p4] p5) [.Return (some (.Subscript (.Name "script" p6) (.Name "k" p7) p8)) p9] [] p10, .Return (some (.Constant (.int 0) c1 p11)) p12]) :
    C8.Cal P w K mg base (j + 1) "_law_cell" (spCell K) [] := by
  refine C8.cal0 F b .nil S (fun vs H Q E ⟨a, ns, n, e, _⟩ => by rw [e]; rfl) fun cdv A outer s H vs Q E hr ⟨a, ns, n, e, hq, fin⟩ => ?_
  simp only [Bool.and_eq_true] at ck
  have h := ck_entry (P := P) (K := K) (w := w) (base := base) (x := "_law_cell") (cs := []) (fs := []) (sps := fun _ _ _ _ _ => False) (P' := none) S hb (fun x d h => by simp at h) (fun f x h => by simp at h) (outer := outer) (H := H) (E := E) hr
  have v0 : ∀ p, PE _ (.Name "script" p) (tVar 0) := fun p => h.var ck.1.1
  have v1 : ∀ p, PE _ (.Name "k" p) (tVar 1) := fun p => h.var ck.1.2
  rw [hbody]
  refine ⟨_, pss_cons (ps_if (pt_cmp (pc_lt (v1 p1) (pe_callB (id := "len") call_len (h.gl ck.2) (hb _ (by decide +kernel)) boot_len (pa_cons (v0 p3) pa_nil)))) (pss_one (ps_ret (pe_ix ix_list (v0 p6) (v1 p7) (pix_ok rfl)))) pss_nil) (pss_one (ps_ret pe_int)), ?_⟩
  subst e
  refine ⟨.int n, rfl, .ref a, rfl, .ref a, ns.length, rfl, .inl ⟨_, hq, by simp⟩, n, ns.length, rfl, rfl, _, rfl, ?_⟩
  show (if decide ((n : Int) < (ns.length : Nat)) = true then _ else _)
  by_cases hlt : (n : Int) < (ns.length : Nat)
  · rw [if_pos (decide_eq_true hlt)]
    have hlt' : n < ns.length := by omega
    refine ⟨.ref a, rfl, .int n, rfl, a, _, n, .int ns[n], rfl, rfl, hq, atI_nat (by simp [hlt']), fin _⟩
  · rw [if_neg (by rw [decide_eq_false hlt]; exact Bool.false_ne_true)]
    exact fin 0
def sp_draw : Spec := fun ds dr Q _ => ∃ m : Int, ds = [.pool, .int m] ∧ 0 < m ∧ dr < 2 ^ 40 ∧ ∀ v : Int, 0 ≤ v → v < m → Q (.val (.int v)) (dr + 1)
theorem draw_ok {st : Stmt} {f : Addr} {fd : FuncData} {p1 p2 p3 p4 p5 p6 p7 p8 p9 p10 p11 p12 p13 p14 p15 p16 p17 p18 p19 p20 p21 p22 p23 p24 p25 p26 p27 p28 p29 p30 p31 p32 p33 p34 p35 p36 p37 p38 p39 p40 p41 p42 p43 p44 p45 p46 p47 p48 p49 p50 p1' : Pos} {c1 c2 c3 c4 c5 c6 c7 c8 c9 c10 j : Nat}
    (F : C8.Def K mg "_law_draw" st f fd) (b : Binds K fd ["pool", "many"] []) (S : FnScope ["pool", "many", "at", "turn"] ["pool", "many"] (C8.fnScope st)) (hb : BltOk mg)
    (ck : ((⟨["pool", "many", "at", "turn"], C8.fnScope st, none, [], []⟩ : CK).var 0 "pool" && (⟨["pool", "many", "at", "turn"], C8.fnScope st, none, [], []⟩ : CK).var 1 "many" && (⟨["pool", "many", "at", "turn"], C8.fnScope st, none, [], []⟩ : CK).var 2 "at" && (⟨["pool", "many", "at", "turn"], C8.fnScope st, none, [], []⟩ : CK).var 3 "turn"
      && (⟨["pool", "many", "at", "turn"], C8.fnScope st, none, [], []⟩ : CK).sto 2 "at" && (⟨["pool", "many", "at", "turn"], C8.fnScope st, none, [], []⟩ : CK).sto 3 "turn" && (⟨["pool", "many", "at", "turn"], C8.fnScope st, none, [], []⟩ : CK).gl "len" && (⟨["pool", "many", "at", "turn"], C8.fnScope st, none, [], []⟩ : CK).gl "int") = true)
    (hbody : C8.fnBody st = [.Assign [.Name "at" p1] (.Subscript (.Subscript (.Name "pool" p2) (.Constant (.int 1) c1 p3) p4) (.Constant (.int 0) c2 p5) p6) p7,
      .Assign [.Subscript (.Subscript (.Name "pool" p8) (.Constant (.int 1) c3 p9) p10) (.Constant (.int 0) c4 p11) p12] (.BinOp (.Name "at" p13) .Add (.Constant (.int 1) c5 p14) p15) p16,
      .Assign [.Name "turn" p17] (.BinOp (.Name "at" p18) .FloorDiv (.Call (.Name "len" p19) [.Subscript (.Name "pool" p20) (.Constant (.int 0) c6 p21) p22] [] p23) p24) p25,
      .Return (some (.BinOp (.Call (.Name "int" p26) [.BinOp (.BinOp (.Subscript (.Subscript (.Name "pool" p27) (.Constant (.int 0) c7 p28) p29) (.BinOp (.Name "at" p30) .Mod (.Call (.Name "len" p31) [.Subscript (.Name "pool" p32) (.Constant (.int 0) c8 p33) p34] [] p35) p36) p37) .Add
        (.BinOp (.Name "turn" p38) .Mult (.Constant (.int 1013) c9 p39) p40) p41) .Add (.BinOp (.BinOp (.Name "turn" p42) .Mult (.Name "at" p43) p44) .Mult (.Constant (.int 7) c10 p45) p46) p47] [] p48) .Mod (.Name "many" p49) p50)) p1']) :
    C8.Cal P w K mg base (j + 1) "_law_draw" (lift K w sp_draw) [] := by
  refine C8.cal0 F b .nil S (fun vs H Q E ⟨P', F', ds, dr, QQ, _, _, rs, ⟨m, e, _⟩, _⟩ => by rw [rs.length, e]; rfl) fun cdv A outer s H vs Q E hr ⟨P', F', ds, dr, QQ, sub, pool, rs, ⟨m, e, hm, hdr, hq⟩, fin⟩ => ?_
  subst e
  cases rs with
  | cons r1 rs =>
  cases rs with
  | cons r2 rs =>
  cases rs
  cases r2
  cases r1 with
  | @pool p r c hP =>
  obtain ⟨⟨f1, f2, f3⟩, ⟨n1, n2⟩, hp, ⟨rows, ⟨hne, hlen⟩, hrw⟩, n, hn0, hn1, hc⟩ := id (pool p r c hP)
  simp only [Bool.and_eq_true] at ck
  obtain ⟨⟨⟨⟨⟨⟨⟨k1, k2⟩, k3⟩, k4⟩, k5⟩, k6⟩, k7⟩, k8⟩ := ck
  have h := ck_entry (P := P) (K := K) (w := w) (base := base) (x := "_law_draw") (cs := []) (fs := []) (sps := fun _ _ _ _ _ => False) (P' := none) S hb (fun x d h => by simp at h) (fun f x h => by simp at h) (outer := outer) (H := H) (E := E) hr
  have v0 : ∀ p, PE _ (.Name "pool" p) (tVar 0) := fun p => h.var k1
  have v1 : ∀ p, PE _ (.Name "many" p) (tVar 1) := fun p => h.var k2
  have v2 : ∀ p, PE _ (.Name "at" p) (tVar 2) := fun p => h.var k3
  have v3 : ∀ p, PE _ (.Name "turn" p) (tVar 3) := fun p => h.var k4
  obtain ⟨a1, a2, a3⟩ := h.sto k5
  obtain ⟨b1, b2, b3⟩ := h.sto k6
  have ln : ∀ {e : Expr} {te : TE} {q1 q2 : Pos}, PE _ e te → nst e = true → PE _ (.Call (.Name "len" q1) [e] [] q2) (tCB _ (tCons te tNil)) := fun {e te q1 q2} he hs =>
    pe_callB (id := "len") call_len (h.gl k7) (hb _ (by decide +kernel)) boot_len (pa_cons he pa_nil (star1 hs)) (by decide +kernel) (by decide +kernel) (star1 hs) rfl
  rw [hbody]
  refine ⟨_, pss_cons (ps_set h.nd a1 a2 (pe_ix ix_list (pe_ix ix_list (v0 p2) pe_int (pix_ok rfl)) pe_int (pix_ok rfl)) (sw_no rfl) a3)
    (pss_cons (ps_asg (pe_op op_add (v2 p13) pe_int) (pg_sub (pe_ix ix_list (v0 p8) pe_int (pix_ok rfl)) pe_int set_list (asgS_ok rfl)) (sws_other fun x p z => Expr.noConfusion z) rfl rfl)
    (pss_cons (ps_set h.nd b1 b2 (pe_op op_fdivN (v2 p18) (ln (pe_ix ix_list (v0 p20) pe_int (pix_ok rfl)) rfl)) (sw_no rfl) b3)
    (pss_one (ps_ret (pe_op op_modN (pe_callTy (T := "int") call_int1 (h.gl k8) (hb _ (by decide +kernel)) boot_int (pa_cons
      (pe_op op_add (pe_op op_add (pe_ix ix_list (pe_ix ix_list (v0 p27) pe_int (pix_ok rfl)) (pe_op op_modN (v2 p30) (ln (pe_ix ix_list (v0 p32) pe_int (pix_ok rfl)) rfl)) (pix_ok rfl)) (pe_op op_mul (v3 p38) pe_int)) (pe_op op_mul (pe_op op_mul (v3 p42) (v2 p43)) pe_int)) pa_nil (star1 rfl)) (by decide +kernel) (by decide +kernel) (star1 rfl) rfl) (v1 p49)))))), ?_⟩
  have hl0 : 0 < rows.length := List.length_pos_iff.mpr hne
  have hpc : p ≠ c := fun z => n1 z.symm
  have hrc : r ≠ c := fun z => n2 z.symm
  have hp' : upd H c (.lst [.int (n + 1)]) p = some (.lst [.ref r, .ref c]) := (upd_ne hpc).trans hp
  have hr' : upd H c (.lst [.int (n + 1)]) r = some (.lst (rows.map V.int)) := (upd_ne hrc).trans hrw
  have fc : F' c = none := f3
  have key : ∀ v : Int, 0 ≤ v → v < m → Q (.int v) (upd H c (.lst [.int (n + 1)])) := fun v g0 g1 => by
    refine fin (.val (.int v)) (dr + 1) (.int v) F' _ ?_ (hq v g0 g1)
    refine ⟨fun a o e => ?_, fun _ _ e => e, fun a o e nc => ?_, fun a ha => ?_, fun _ _ => rfl, fun p' r' c' e => ?_, R.int _⟩
    · rw [upd_ne (ne_of_none e fc)]; exact sub a o e
    · by_cases z : a = c
      · exact absurd ⟨p, r, z ▸ hP⟩ nc
      · rw [upd_ne z]; exact e
    · by_cases z : a = c
      · subst z; rw [upd_same]; simp
      · rw [upd_ne z]; exact ha
    · have := hP.symm.trans e
      cases this
      exact ⟨⟨f1, f2, f3⟩, ⟨n1, n2⟩, hp', ⟨rows, ⟨hne, hlen⟩, hr'⟩, n + 1, by omega, by omega, upd_same⟩
  -- at = pool[1][0]
  refine ⟨.ref p, rfl, p, _, 1, .ref c, rfl, rfl, .of hp, rfl, c, _, 0, .int n, rfl, rfl, .of hc, rfl, ?_⟩
  -- pool[1][0] = at + 1
  refine ⟨.int n, rfl, n, 1, rfl, rfl, .ref p, rfl, p, _, 1, .ref c, rfl, rfl, .of hp, rfl, c, _, 0, 0, rfl, rfl, hc, rfl, ?_⟩
  show tSeq _ _ _ _ (upd H c (.lst [.int (n + 1)]))
  -- turn = at // len(pool[0])
  refine ⟨.int n, rfl, .ref p, rfl, p, _, 0, .ref r, rfl, rfl, .of hp', rfl, .ref r, (rows.map V.int).length, rfl, .inl ⟨_, .of hr', rfl⟩, n, (rows.map V.int).length, rfl, rfl, ⟨by rw [List.length_map]; omega, by rw [List.length_map]; omega⟩, ?_⟩
  rw [List.length_map]
  have hat : ∃ v, atI (rows.map V.int) (n.fmod (rows.length : Nat)) = some (.int v) := by
    have g0 : 0 ≤ n.fmod (rows.length : Nat) := Int.fmod_nonneg_of_pos n (by omega)
    have g1 : n.fmod (rows.length : Nat) < (rows.length : Nat) := Int.fmod_lt_of_pos n (by omega)
    obtain ⟨i, hi⟩ : ∃ i : Nat, n.fmod (rows.length : Nat) = i := ⟨_, (Int.toNat_of_nonneg g0).symm⟩
    rw [hi] at g1 ⊢
    have hlt : i < rows.length := by omega
    exact ⟨rows[i], atI_nat (by simp [hlt])⟩
  obtain ⟨z, hz⟩ := hat
  have hfd : 0 ≤ n.fdiv (rows.length : Nat) ∧ n.fdiv (rows.length : Nat) ≤ n := by
    rw [Int.fdiv_eq_ediv_of_nonneg _ (by omega)]
    exact ⟨Int.ediv_nonneg hn0 (by omega), Int.ediv_le_self _ hn0⟩
  have big : (2 : Int) ^ 64 = 18446744073709551616 := by decide
  have dr40 : (dr : Int) < 1099511627776 := by
    have : (2 : Nat) ^ 40 = 1099511627776 := by decide
    omega
  -- the answer
  refine ⟨.ref p, rfl, p, _, 0, .ref r, rfl, rfl, .of hp', rfl, .int n, rfl, .ref p, rfl, p, _, 0, .ref r, rfl, rfl, .of hp', rfl, .ref r, (rows.map V.int).length, rfl, .inl ⟨_, .of hr', rfl⟩, n, (rows.map V.int).length, rfl, rfl, by rw [List.length_map]; omega, ?_⟩
  rw [List.length_map]
  refine ⟨r, _, _, .int z, rfl, rfl, .of hr', hz, .int _, rfl, _, 1013, rfl, rfl, .inr ⟨by decide, by decide⟩, z, _, rfl, rfl, .int _, rfl, .int n, rfl, _, n, rfl, rfl, .inr ⟨by omega, by omega⟩, _, 7, rfl, rfl, .inr ⟨by decide, by decide⟩, _, _, rfl, rfl, .inl ⟨_, rfl, ?_⟩⟩
  refine ⟨.int m, rfl, _, m, rfl, rfl, by omega, ?_⟩
  exact key _ (Int.fmod_nonneg_of_pos _ hm) (Int.fmod_lt_of_pos _ hm)
end
end PL
namespace PL
open PySem PySem.Spec PyProof.Rows L2
theorem for_inv {tg : Tg} {fb : PEnv → PEnds → Prop} {E : PEnds} (I : Nat → PEnv → Prop) : ∀ (ds : List D) (i0 : Nat) {ρ : PEnv}, I i0 ρ →
    (∀ i d ρ, ds[i]? = some d → I (i0 + i) ρ → ∀ Nx : PEnv → Prop, (∀ ρ', I (i0 + i + 1) ρ' → Nx ρ') → tgP tg d ρ fun ρ1 => fb ρ1 ⟨Nx, E.rt, E.nx, Nx⟩) → (∀ ρ, I (i0 + ds.length) ρ → E.nx ρ) → forL tg fb ds ρ E
  | [], i0, ρ, h, _, fin => fin ρ h
  | d :: ds, i0, ρ, h, step, fin => by
    refine step 0 d ρ rfl h _ fun ρ' h' => ?_
    refine for_inv I ds (i0 + 1) h' (fun i d ρ e hi Nx hN => step (i + 1) d ρ (by simpa using e) (by rw [← Nat.add_assoc, Nat.add_right_comm]; exact hi) Nx fun ρ' z => hN ρ' (by rw [Nat.add_right_comm i0 1 i]; exact z)) fun ρ z => fin ρ (by rw [List.length_cons, ← Nat.add_assoc, Nat.add_right_comm]; exact z)
theorem comp_fm {α : Type} {vs : List Nat} {tg : Tg} {fc fe : PEnv → RK → Prop} {ρ : PEnv} {Q : List D → PEnv → Prop} {f : α → D} (p : α → Bool) (g : α → D) : ∀ (xs : List α) (acc : List D), acc.length + xs.length ≤ sizeLine →
    (∀ a ∈ xs, ∀ K : Option D → PEnv → Prop, (p a = true → K (some (g a)) ρ) → (p a = false → K none ρ) → tgP tg (f a) ρ fun ρ1 => fc ρ1 fun c ρ2 => ∃ b, c = .val (.bl b) ∧ brn b (fe ρ2 fun r ρ3 => r.kept fun x => K (some x) (ρ3.wipe vs)) (K none (ρ2.wipe vs))) →
    Q (acc ++ (xs.filter p).map g) ρ → compL vs tg fc fe (xs.map f) ρ acc Q
  | [], acc, _, _, q => by simpa [compL] using q
  | a :: xs, acc, hz, h, q => by
    have hz' : acc.length + (xs.length + 1) ≤ sizeLine := hz
    have key := h a (List.mem_cons_self ..) (fun o ρ' => match o with | some x => acc.length < sizeLine ∧ compL vs tg fc fe (xs.map f) ρ' (acc ++ [x]) Q | none => compL vs tg fc fe (xs.map f) ρ' acc Q)
    refine key (fun e => ⟨by omega, comp_fm p g xs (acc ++ [g a]) (by simp; omega) (fun d hd => h d (List.mem_cons_of_mem _ hd)) (by simpa [List.filter_cons, e] using q)⟩) (fun e => comp_fm p g xs acc (by omega) (fun d hd => h d (List.mem_cons_of_mem _ hd)) (by simpa [List.filter_cons, e] using q))
end PL
namespace PL
open PySem PySem.Spec PyProof.Rows L2
def nm__law_numbers : List Str := ["cell", "many", "rows", "left", "k", "mixed"]
def ir__law_numbers : IS :=
(.seq (.asg (.nm 2) (.lst .anil))
  (.seq (.asg (.nm 3) (.var 0))
  (.seq (.fr (.nm 4) (.itR1 (.bor 1))
 (.seq (.ifs (.and (.cmp .ge (.bor 0) (.bin .pow (.cst (.int 10)) (.cst (.int 18)))) (.cmp .gt (.bor 3) (.cst (.int 0))))
 (.seq (.app 2 (.bin .mod (.blt .int (.acons (.bor 3) .anil)) (.cst (.int 4099))))
  (.seq (.asg (.nm 3) (.bin .fdiv (.bor 3) (.cst (.int 4099))))
  .skip))
 (.seq (.asg (.nm 5) (.bin .mod (.blt .int (.acons (.bin .add (.bin .mul (.bor 0) (.cst (.int 69621))) (.bin .mul (.bin .add (.bor 4) (.cst (.int 1))) (.cst (.int 48271)))) .anil)) (.cst (.int 2147483647))))
  (.seq (.asg (.nm 5) (.bin .mod (.blt .int (.acons (.bin .add (.bin .add (.bin .mul (.bor 5) (.bor 5)) (.bin .mul (.bor 5) (.cst (.int 16807)))) (.bin .mul (.bor 4) (.cst (.int 7919)))) .anil)) (.cst (.int 2147483629))))
  (.seq (.asg (.nm 5) (.bin .mod (.blt .int (.acons (.bin .add (.bin .add (.bin .mul (.bor 5) (.bor 5)) (.bor 0)) (.bin .mul (.cst (.int 17)) (.bor 4))) .anil)) (.cst (.int 2147483587))))
  (.seq (.app 2 (.bin .mod (.bin .fdiv (.bor 5) (.cst (.int 5))) (.cst (.int 4099))))
  .skip)))))
  .skip))
  (.seq (.ret (.var 2))
  .skip))))
def fs__law_numbers : List (Nat × Str) := []
def cs__law_numbers : List (Str × D) := []
def sp_numbers : Spec := fun ds dr Q _ => ∃ (c : Int) (n : Nat), ds = [.int c, .int (n : Nat)] ∧ n ≤ 1000 ∧ ∀ is : List Int, is.length = n → Q (.val (.lst (is.map .int))) dr
theorem rng_get {lo hi : Int} {i : Nat} {d : D} (h : (rngL lo hi)[i]? = some d) : d = .int (lo + i) ∧ i < (hi - lo).toNat := by
  unfold rngL at h
  rw [List.getElem?_map] at h
  obtain ⟨j, h1, rfl⟩ := Option.map_eq_some_iff.mp h
  obtain ⟨h2, h3⟩ := List.getElem?_eq_some_iff.mp h1
  rw [List.getElem_range] at h3
  subst h3
  exact ⟨rfl, by simpa using h2⟩
theorem rng_len {lo hi : Int} : (rngL lo hi).length = (hi - lo).toNat := by unfold rngL; simp
theorem numbers_wp (C : PC) : ∀ ds dr Q, sp_numbers ds dr Q (fun _ _ => False) → wpF C nm__law_numbers.length ir__law_numbers ds dr Q := by
  rintro ds dr Q ⟨c, n, rfl, hn, hq⟩
  show wpF C 6 ir__law_numbers _ dr Q
  conv => whnf
  refine ⟨by decide, ?_⟩
  conv => whnf
  refine ⟨_, rfl, ⟨by omega, by omega⟩, ?_⟩
  refine for_inv (fun i ρ => ∃ (is : List Int) (left : Int) (a b : SV), ρ = ⟨[.val (.int c), .val (.int n), .own (is.map .int), .val (.int left), a, b], dr⟩ ∧ is.length = i) _ 0 ⟨[], c, .no, .no, rfl, rfl⟩ ?_ ?_
  · rintro i d ρ hd ⟨is, left, a, b, rfl, hl⟩ Nx hN
    obtain ⟨rfl, hi⟩ := rng_get hd
    conv => whnf
    refine ⟨⟨by decide, by decide, by decide⟩, ?_⟩
    conv => whnf
    refine ⟨_, rfl, ?_⟩
    conv => whnf
    have sz := sizeLine_eq
    have big : ∀ x : Int, 0 ≤ x → x < 2147483647 → -(2 ^ 64 : Int) < x ∧ x < 2 ^ 64 := fun x h0 h1 => by
      have : (2 : Int) ^ 64 = 18446744073709551616 := by decide
      omega
    have fin : ∀ (x l : Int) (a b : SV) (ρ' : PEnv), ρ' = ⟨[.val (.int c), .val (.int n), .own (is.map .int ++ [.int x]), .val (.int l), a, b], dr⟩ → Nx ρ' := fun x l a b ρ' e =>
      hN _ ⟨is ++ [x], l, a, b, by rw [e]; simp, by simp [hl]⟩
    have other : ∀ (ρ' : PEnv) (E' : PEnds), E'.nx = Nx → ρ' = ⟨[.val (.int c), .val (.int n), .own (is.map .int), .val (.int left), .val (.int (0 + i)), b], dr⟩ → 
      wpS C (.seq (.asg (.nm 5) (.bin .mod (.blt .int (.acons (.bin .add (.bin .mul (.bor 0) (.cst (.int 69621))) (.bin .mul (.bin .add (.bor 4) (.cst (.int 1))) (.cst (.int 48271)))) .anil)) (.cst (.int 2147483647))))
  (.seq (.asg (.nm 5) (.bin .mod (.blt .int (.acons (.bin .add (.bin .add (.bin .mul (.bor 5) (.bor 5)) (.bin .mul (.bor 5) (.cst (.int 16807)))) (.bin .mul (.bor 4) (.cst (.int 7919)))) .anil)) (.cst (.int 2147483629))))
  (.seq (.asg (.nm 5) (.bin .mod (.blt .int (.acons (.bin .add (.bin .add (.bin .mul (.bor 5) (.bor 5)) (.bor 0)) (.bin .mul (.cst (.int 17)) (.bor 4))) .anil)) (.cst (.int 2147483587))))
  (.seq (.app 2 (.bin .mod (.bin .fdiv (.bor 5) (.cst (.int 5))) (.cst (.int 4099))))
  .skip)))) ρ' E' := fun ρ' E' eN e => by
      subst e
      conv => whnf
      refine ⟨.inr ⟨by decide, by decide⟩, ?_⟩
      conv => whnf
      refine ⟨.inr ⟨by decide, by decide⟩, ?_⟩
      conv => whnf
      refine ⟨by decide, ?_⟩
      conv => whnf
      refine ⟨.inl (big _ (Int.fmod_nonneg_of_pos _ (by decide)) (Int.lt_of_lt_of_le (Int.fmod_lt_of_pos _ (by decide)) (by decide))), ?_⟩
      conv => whnf
      refine ⟨.inr ⟨by decide, by decide⟩, ?_⟩
      conv => whnf
      refine ⟨.inr ⟨by decide, by decide⟩, ?_⟩
      conv => whnf
      refine ⟨by decide, ?_⟩
      conv => whnf
      refine ⟨.inl (big _ (Int.fmod_nonneg_of_pos _ (by decide)) (Int.lt_of_lt_of_le (Int.fmod_lt_of_pos _ (by decide)) (by decide))), ?_⟩
      conv => whnf
      refine ⟨.inl ⟨by decide, by decide⟩, ?_⟩
      conv => whnf
      refine ⟨by decide, ?_⟩
      conv => whnf
      refine ⟨rfl, ?_⟩
      conv => whnf
      refine ⟨⟨by decide, by decide⟩, ?_⟩
      conv => whnf
      refine ⟨by decide, ?_⟩
      conv => whnf
      refine ⟨_, rfl, by rw [List.length_map]; omega, ?_⟩
      show E'.nx _
      rw [eN]
      exact fin _ _ _ _ _ rfl
    refine ⟨fun h1 => ?_, fun h1 => ?_⟩
    · conv => whnf
      refine ⟨_, rfl, ?_⟩
      conv => whnf
      refine ⟨fun h2 => ?_, fun h2 => ?_⟩
      · conv => whnf
        refine ⟨rfl, ?_⟩
        conv => whnf
        refine ⟨by decide, ?_⟩
        conv => whnf
        refine ⟨_, rfl, by rw [List.length_map]; omega, ?_⟩
        conv => whnf
        refine ⟨⟨by decide, by decide⟩, ?_⟩
        exact fin _ _ _ _ _ rfl
      · exact other _ _ rfl rfl
    · conv => whnf
      refine ⟨_, rfl, ?_⟩
      conv => whnf
      refine ⟨fun h2 => (by cases h2), fun h2 => ?_⟩
      exact other _ _ rfl rfl
  · rintro ρ ⟨is, left, a, b, rfl, hl⟩
    conv => whnf
    exact hq is (by rw [hl, rng_len]; simp)
theorem ints_map : ∀ is : List Int, ints? (is.map D.int) = some is
  | [] => rfl
  | i :: is => by simp [ints?, ints_map is]
theorem sq_mono {K : PySem.W.Frag} {H H' : Hp} {a : Addr} {xs : List V} (h : SqL K H a xs) (s : Same H H') : SqL K H' a xs := h.imp (fun z => Rd.mono z s) id
def spPool (K : PySem.W.Frag) : Sp := fun vs H Q _ => ∃ a ns, vs = [.ref a] ∧ SqL K H a (List.map V.int ns) ∧ ∀ p r c (rows : List Int) H', Same H H' → c ≠ p → c ≠ r → (rows ≠ [] ∧ rows.length ≤ 1000000) →
  H' p = some (.lst [.ref r, .ref c]) → H' r = some (.lst (rows.map V.int)) → H' c = some (.lst [.int 0]) → Q (.ref p) H'
section
variable {P : Program} {w : World} {K : PySem.W.Frag} {mg : Str → Option Value} {base : Heap}
theorem pool_ok {st : Stmt} {f : Addr} {fd : FuncData} {p1 p2 p3 p4 p5 p6 p7 p8 p9 p10 p11 p12 p13 p14 p15 p16 p17 p18 p19 p20 p21 p22 p23 p24 p25 p26 p27 p28 p29 p30 p31 p32 p33 p34 p35 p36 : Pos} {c1 c2 c3 c4 c5 j i1 i2 : Nat}
    (F : C8.Def K mg "_law_pool" st f fd) (b : Binds K fd ["script"] []) (S : FnScope ["script", "rows", "k"] ["script"] (C8.fnScope st)) (hb : BltOk mg)
    (hc : C8.Cal P w K mg base i1 "_law_cell" (spCell K) []) (hi1 : i1 ≤ j) (hn : C8.Cal P w K mg base i2 "_law_numbers" (lift K w sp_numbers) []) (hi2 : i2 ≤ j)
    (ck : ((⟨["script", "rows", "k"], C8.fnScope st, none, [], []⟩ : CK).var 0 "script" && (⟨["script", "rows", "k"], C8.fnScope st, none, [], []⟩ : CK).var 1 "rows" && (⟨["script", "rows", "k"], C8.fnScope st, none, [], []⟩ : CK).var 2 "k"
      && (⟨["script", "rows", "k"], C8.fnScope st, none, [], []⟩ : CK).sto 1 "rows" && (⟨["script", "rows", "k"], C8.fnScope st, none, [], []⟩ : CK).sto 2 "k" && (["len", "min", "max", "range", "_law_cell", "_law_numbers"] : List Str).all (fun x => (⟨["script", "rows", "k"], C8.fnScope st, none, [], []⟩ : CK).gl x)) = true)
    (hbody : C8.fnBody st = [.Assign [.Name "rows" p1] (.List [] p2) p3,
      .For (.Name "k" p4) (.Call (.Name "range" p5) [.Call (.Name "min" p6) [.Constant (.int 6) c1 p7, .Call (.Name "max" p8) [.Constant (.int 1) c2 p9, .Call (.Name "len" p10) [.Name "script" p11] [] p12] [] p13] [] p14] [] p15)
        [.Assign [.Name "rows" p16] (.BinOp (.Name "rows" p17) .Add (.Call (.Name "_law_numbers" p18) [.BinOp (.Call (.Name "_law_cell" p19) [.Name "script" p20, .Name "k" p21] [] p22) .Add (.BinOp (.Constant (.int 11) c3 p23) .Mult (.Name "k" p24) p25) p26, .Constant (.int 24) c4 p27] [] p28) p29) p30] [] p31,
      .Return (some (.List [.Name "rows" p32, .List [.Constant (.int 0) c5 p33] p34] p35)) p36]) :
    C8.Cal P w K mg base (j + 1) "_law_pool" (spPool K) [] := by
  refine C8.cal0 F b .nil S (fun vs H Q E ⟨a, ns, e, _⟩ => by rw [e]; rfl) fun cdv A outer s H vs Q E hr ⟨a, ns, e, hq, fin⟩ => ?_
  subst e
  simp only [Bool.and_eq_true, List.all_eq_true] at ck
  obtain ⟨⟨⟨⟨⟨k1, k2⟩, k3⟩, k4⟩, k5⟩, k6⟩ := ck
  have h := ck_entry (P := P) (K := K) (w := w) (base := base) (x := "_law_pool") (cs := []) (fs := []) (sps := fun _ _ _ _ _ => False) (P' := none) S hb (fun x d h => by simp at h) (fun f x h => by simp at h) (outer := outer) (H := H) (E := E) hr
  have v0 : ∀ p, PE _ (.Name "script" p) (tVar 0) := fun p => h.var k1
  have v1 : ∀ p, PE _ (.Name "rows" p) (tVar 1) := fun p => h.var k2
  have v2 : ∀ p, PE _ (.Name "k" p) (tVar 2) := fun p => h.var k3
  obtain ⟨a1, a2, a3⟩ := h.sto k4
  obtain ⟨b1, b2, b3⟩ := h.sto k5
  have g : ∀ x ∈ (["len", "min", "max", "range", "_law_cell", "_law_numbers"] : List Str), Gl _ x := fun x hx => h.gl (k6 x hx)
  rw [hbody]
  refine ⟨_, pss_cons (ps_set h.nd a1 a2 (pe_lst pa_nil) (sw_no rfl) a3)
    (pss_cons (ps_for PassesOwn.never rfl (pi_range1 (g _ (by decide +kernel)) (hb _ (by decide +kernel)) (pa_cons (pe_callB (id := "min") (call_min2 rfl) (g _ (by decide +kernel)) (hb _ (by decide +kernel)) (by decide +kernel) (pa_cons pe_int (pa_cons
        (pe_callB (id := "max") (call_max2 rfl) (g _ (by decide +kernel)) (hb _ (by decide +kernel)) (by decide +kernel) (pa_cons pe_int (pa_cons (pe_callB (id := "len") call_len (g _ (by decide +kernel)) (hb _ (by decide +kernel)) boot_len (pa_cons (v0 p11) pa_nil) (by decide +kernel) (by decide +kernel) (star1 rfl) rfl) pa_nil (star1 rfl)) (star1 rfl))
          (by decide +kernel) (by decide +kernel) (star1 rfl) rfl) pa_nil (star1 rfl)) (star1 rfl)) (by decide +kernel) (by decide +kernel) (star1 rfl) rfl) pa_nil (star1 rfl)) (star1 rfl)) (pg_name h.nd b1 b2 b3)
      (pss_one (ps_set h.nd a1 a2 (pe_op op_cat (v1 p17) (C8.pe_c hn hr hi2 (g _ (by decide +kernel)) (pa_cons (pe_op op_add (C8.pe_c hc hr hi1 (g _ (by decide +kernel)) (pa_cons (v0 p20) (pa_cons (v2 p21) pa_nil (star1 rfl)) (star1 rfl)) (by decide +kernel) (star1 rfl) rfl) (pe_op op_mul pe_int (v2 p24)))
        (pa_cons pe_int pa_nil (star1 rfl)) (star1 rfl)) (by decide +kernel) (star1 rfl) rfl)) (sw_no rfl) a3)) (set_ok rfl))
    (pss_one (ps_ret (pe_lst (pa_cons (v1 p32) (pa_cons (pe_lst (pa_cons pe_int pa_nil (star1 rfl))) pa_nil (star1 rfl)) (star1 rfl)))))), ?_⟩
  -- rows = []
  refine ⟨by show 0 ≤ sizeLine; decide, fun r0 hr0 => ?_⟩
  show tSeq _ _ _ (L2.start ["script", "rows", "k"] [V.ref a] |>.set 1 (some (.ref r0))) (upd H r0 (.lst []))
  have hq0 := sq_mono hq (Same.upd_new (o := .lst []) hr0)
  -- how many rows
  obtain ⟨m, hm⟩ : ∃ m : Int, (if (if ((List.map V.int ns).length : Int) > 1 then ((List.map V.int ns).length : Int) else 1) < 6 then (if ((List.map V.int ns).length : Int) > 1 then ((List.map V.int ns).length : Int) else 1) else 6) = m := ⟨_, rfl⟩
  have hm1 : 1 ≤ m ∧ m ≤ 6 := by
    rw [← hm]
    split <;> split <;> omega
  refine ⟨.ref a, rfl, .ref a, _, rfl, .inl ⟨_, hq0, rfl⟩, 1, _, rfl, 6, _, rfl, m, by rw [hm], by omega, by omega, ?_⟩
  refine for_range (fun i σ H' => ∃ (r : Addr) (rows : List Int) (z : Option V), σ = [some (.ref a), some (.ref r), z] ∧ H' r = some (.lst (rows.map V.int)) ∧ rows.length = 24 * i ∧ Same H H') ⟨r0, [], none, rfl, upd_same, rfl, Same.upd_new hr0⟩ ?_ ?_
  · rintro i σ H' hi ⟨r, rows, z, rfl, h1, h2, h3⟩
    have hqa := sq_mono hq h3
    refine ⟨.ref r, rfl, .ref a, rfl, .int (0 + (i : Nat)), rfl, a, ns, i, by simp, hqa, fun cell => ?_⟩
    refine ⟨.int (0 + (i : Nat)), rfl, 11, _, rfl, rfl, .inl ⟨by decide, by decide⟩, cell, _, rfl, rfl, ?_⟩
    refine ⟨none, fun _ => none, [.int _, .int 24], 0, fun r _ => ∃ is : List Int, r = .val (.lst (is.map .int)) ∧ is.length = 24, fun _ _ e => (by cases e), fun _ _ _ e => (by cases e), .cons (.int _) (.cons (.int _) .nil), ⟨_, 24, rfl, by decide, fun is his => ⟨is, rfl, his⟩⟩, ?_⟩
    rintro r2 dr' v F' H2 cp ⟨is, rfl, his⟩
    have s2 : Same H' H2 := fun b o e => cp.heap b o e fun ⟨_, _, z⟩ => by cases z
    have rv : R ⟨K, w, none⟩ F' v (.lst (is.map .int)) := cp.res
    cases rv with
    | @lst a2 vs _ e1 e2 =>
      have ev := ints_vs e2 (ints_map is)
      subst ev
      refine ⟨r, a2, rows.map V.int, is.map V.int, rfl, rfl, s2 _ _ h1, cp.ins _ _ e1, ?_, fun p hp => ?_⟩
      · have := sizeLine_eq
        rw [List.length_map, List.length_map, h2, his]; omega
      · refine ⟨p, rows ++ is, _, rfl, by rw [upd_same, List.map_append], by rw [List.length_append, h2, his]; omega, fun b o e => ?_⟩
        have e3 := s2 b o (h3 b o e)
        rw [upd_ne (ne_of_none e3 hp)]; exact e3
  · rintro σ H' ⟨r, rows, z, rfl, h1, h2, h3⟩
    refine ⟨.ref r, rfl, by show 1 ≤ sizeLine; decide, fun c hc0 => ⟨by show 2 ≤ sizeLine; decide, fun p hp0 => ?_⟩⟩
    have rc : c ≠ r := fun z => by subst z; rw [h1] at hc0; cases hc0
    have hcp : c ≠ p := fun z => by subst z; rw [upd_same] at hp0; cases hp0
    have hrp : r ≠ p := fun z => by subst z; rw [upd_ne rc.symm, h1] at hp0; cases hp0
    refine fin p r c rows _ (fun b o e => ?_) hcp rc ⟨fun z => ?_, ?_⟩ upd_same ((upd_ne hrp).trans ((upd_ne rc.symm).trans h1)) ((upd_ne hcp).trans upd_same)
    · have e1 := h3 b o e
      have e2 : upd H' c (.lst [.int 0]) b = some o := by rw [upd_ne (ne_of_none e1 hc0)]; exact e1
      rw [upd_ne (ne_of_none e2 hp0)]; exact e2
    · rw [z] at h2; simp at h2; omega
    · rw [h2]; omega
end
end PL
namespace PL
open PySem PySem.Spec PyProof.Rows L2
def spLaw (K : PySem.W.Frag) : Sp := fun vs H Q _ => ∃ a ns, vs = [.ref a] ∧ SqL K H a (List.map V.int ns) ∧ ∀ H', Q (.bl true) H'
def lawEnv (n : Nat) : PEnv := ⟨[SV.no, SV.val .pool] ++ List.replicate (n - 2) SV.no, 0⟩
section
variable {P : Program} {w : World} {K : PySem.W.Frag} {mg : Str → Option Value} {base : Heap}
theorem law_ok {st : Stmt} {f : Addr} {fd : FuncData} {N : List Str} {rest : List Stmt} {body : IS} {fs : List (Nat × Str)} {cs : List (Str × D)} {sps : Nat → Spec} {p1 p2 p3 p4 p5 : Pos} {i j : Nat}
    (F : C8.Fun K "law" "law" st f fd) (S : FnScope N ["script"] (C8.fnScope st)) (hN : 2 ≤ N.length) (hb : BltOk mg) (hcs : CsOk K mg cs) (hf : FnsOk P w K mg base j fs sps)
    (hp : C8.Cal P w K mg base i "_law_pool" (spPool K) []) (hij : i ≤ j)
    (hbody : C8.fnBody st = .Assign [.Name "pool" p1] (.Call (.Name "_law_pool" p2) [.Name "script" p3] [] p4) p5 :: rest)
    (ck2 : ((⟨N, C8.fnScope st, none, fs, cs⟩ : CK).var 0 "script" && (⟨N, C8.fnScope st, none, fs, cs⟩ : CK).sto 1 "pool" && (⟨N, C8.fnScope st, none, fs, cs⟩ : CK).gl "_law_pool") = true)
    (ck : okB body ⟨N, C8.fnScope st, none, fs, cs⟩ rest = true)
    (hw : wpS ⟨sps, fun _ _ => False⟩ body (lawEnv N.length) ⟨fun _ => False, fun r _ => r = .val (.bl true), fun _ => False, fun _ => False⟩) :
    FnOk P w K mg base C8.CX0 (j + 1) f fd ["script"] (spLaw K) := by
  refine C8.fn0 F S (fun vs H Q E ⟨a, ns, e, _⟩ => by rw [e]; rfl) fun cdv A outer s H vs Q E hr ⟨a, ns, e, hq, fin⟩ => ?_
  subst e
  simp only [Bool.and_eq_true] at ck2
  have h := fun P' => ck_entry (P := P) (K := K) (w := w) (base := base) (x := "law") (cs := cs) (fs := fs) (sps := sps) (P' := P') S hb hcs hf (outer := outer) (H := H) (E := E) hr
  obtain ⟨a1, a2, a3⟩ := (h none).sto ck2.1.2
  have hrest : PSs _ rest (fun D σ H => ∃ P', tS ⟨sps, fun _ _ => False⟩ ⟨K, w, P'⟩ body D σ H) := ⟨fun pins s σ H D I ⟨P', q⟩ => (snd_B body (h P') ck).run pins s σ H D I q⟩
  rw [hbody]
  refine ⟨_, pss_cons (ps_set (h none).nd a1 a2 (C8.pe_c hp hr hij ((h none).gl ck2.2) (pa_cons ((h none).var ck2.1.1) pa_nil (star1 rfl)) (by decide +kernel) (star1 rfl) rfl) (sw_no rfl) a3) hrest, ?_⟩
  refine ⟨.ref a, ?_, a, ns, rfl, hq, fun p r c rows H' sH hcp hcr hrows e1 e2 e3 => ?_⟩
  · rw [start_get]; rfl
  refine ⟨some (p, r, c), lawEnv N.length, fun _ => none, fun _ => none, H', fun _ => none, _, ?_, ?_, hw, ?_⟩
  · have gt : ∀ i, (lawEnv N.length).get i = if i = 1 then .val .pool else .no := fun i => by
      unfold PEnv.get lawEnv
      rw [List.getD_eq_getElem?_getD]
      match i with
      | 0 => rfl
      | 1 => rfl
      | i + 2 =>
        rw [if_neg (by omega)]
        show ((List.replicate (N.length - 2) SV.no)[i]?).getD .no = _
        rw [List.getElem?_replicate]
        split <;> rfl
    refine ⟨?_, fun _ _ e => (by cases e), fun i => ?_, fun i j b ⟨x, _⟩ => ?_, fun p' r' c' e => ?_⟩
    · unfold lawEnv L2.start
      simp only [List.length_append, List.length_cons, List.length_nil, List.length_replicate, List.length_set, List.length_map]
      omega
    · rw [gt]
      by_cases z : i = 1
      · subst z
        rw [if_pos rfl]
        refine ⟨.ref p, ?_, .pool rfl⟩
        rw [List.getElem?_set_self]
        unfold L2.start
        simp only [List.length_append, List.length_map, List.length_replicate, List.length_cons, List.length_nil]
        omega
      · rw [if_neg z]; trivial
    · rw [gt] at x
      split at x <;> cases x
    · cases e
      exact ⟨⟨rfl, rfl, rfl⟩, ⟨hcp, hcr⟩, e1, ⟨rows, hrows, e2⟩, 0, Int.le_refl _, Int.natCast_nonneg _, e3⟩
  · refine ⟨fun _ _ e => e, .refl, fun _ h => h, fun _ _ => rfl, fun i b ⟨x, _⟩ => ?_, fun _ _ e => e⟩
    exfalso
    have gt : (lawEnv N.length).get i = .no ∨ (lawEnv N.length).get i = .val .pool := by
      unfold PEnv.get lawEnv
      rw [List.getD_eq_getElem?_getD]
      match i with
      | 0 => exact .inl rfl
      | 1 => exact .inr rfl
      | i + 2 =>
        left
        show ((List.replicate (N.length - 2) SV.no)[i]?).getD .no = _
        rw [List.getElem?_replicate]
        split <;> rfl
    rcases gt with g | g <;> rw [g] at x <;> cases x
  · refine ⟨fun _ _ _ _ _ _ q => q.elim, fun _ _ _ _ _ _ q => q.elim, fun _ _ _ _ _ _ q => q.elim, fun r dr v F1 H1 cp q => ?_⟩
    subst q
    have z : R _ F1 v (.bl true) := cp.res
    cases z
    exact fin _
end
end PL
namespace PL
open PySem PySem.Spec PyProof.Rows L2
def dI (xs : List Int) : D := .tup (xs.map .int)
theorem ints_mapf {α : Type} (f : α → Int) : ∀ xs : List α, ints? (xs.map fun x => D.int (f x)) = some (xs.map f)
  | [] => rfl
  | x :: xs => by simp [ints?, ints_mapf f xs]
end PL
namespace PL
open PySem PySem.Spec PyProof.Rows L2
section
variable {α : Type} [DecidableEq α]
structure Lin (lt : α → α → Bool) : Prop where
  ir : ∀ a, lt a a = false
  tr : ∀ a b c, lt a b = true → lt b c = true → lt a c = true
  tot : ∀ a b, a ≠ b → lt a b = true ∨ lt b a = true
theorem Lin.asym {lt : α → α → Bool} (L : Lin lt) {a b : α} (h : lt a b = true) : lt b a = false := by
  cases e : lt b a with
  | false => rfl
  | true => have := L.tr _ _ _ h e; rw [L.ir] at this; cases this
def below (lt : α → α → Bool) (xs : List α) (p : α) : Nat := (xs.filter fun q => lt q p).length
end
theorem linI : Lin (fun a b : Int => decide (a < b)) := ⟨fun a => by simp, fun a b c h1 h2 => by simp at *; omega, fun a b h => by simp; omega⟩
theorem lay_all : ∀ {xs : List D}, (∀ x ∈ xs, x.py.canLay0 = true) → PyData.canLayAll0 (D.pys xs) = true
  | [], _ => rfl
  | x :: xs, h => by
    simp only [D.pys, PyData.canLayAll0, Bool.and_eq_true]
    exact ⟨h x (List.mem_cons_self ..), lay_all fun y hy => h y (List.mem_cons_of_mem _ hy)⟩
theorem dep_all {n : Nat} : ∀ {xs : List D}, (∀ x ∈ xs, x.py.depth ≤ n) → PyData.depthAll (D.pys xs) ≤ n
  | [], _ => Nat.zero_le _
  | x :: xs, h => by
    simp only [D.pys, PyData.depthAll]
    exact Nat.max_le.mpr ⟨h x (List.mem_cons_self ..), dep_all fun y hy => h y (List.mem_cons_of_mem _ hy)⟩
theorem deq_int (a b : Int) : deq (.int a) (.int b) = decide (a = b) := by
  simp only [deq, D.py, PyData.eqv]
  rw [Bool.eq_iff_iff, beq_iff_eq, decide_eq_true_eq]
theorem idx_map {α : Type} [DecidableEq α] {f : α → D} (hf : ∀ a b, deq (f a) (f b) = decide (a = b)) (xs : List α) (a : α) : idxOfD (xs.map f) (f a) = xs.findIdx? (fun z => decide (z = a)) := by
  unfold idxOfD
  rw [List.findIdx?_map]
  congr 1
  funext z
  exact hf z a
theorem any_map {α : Type} [DecidableEq α] {f : α → D} (hf : ∀ a b, deq (f a) (f b) = decide (a = b)) (xs : List α) (a : α) : ((xs.map f).any fun z => deq z (f a)) = decide (a ∈ xs) := by
  rw [List.any_map, Bool.eq_iff_iff, List.any_eq_true, decide_eq_true_eq]
  constructor
  · rintro ⟨b, hb, h⟩
    have h : deq (f b) (f a) = true := h
    rw [hf, decide_eq_true_eq] at h
    exact h ▸ hb
  · intro h
    exact ⟨a, h, by show deq (f a) (f a) = true; rw [hf]; simp⟩
theorem deq_nat (a b : Nat) : deq (.int (a : Nat)) (.int (b : Nat)) = decide (a = b) := by
  rw [deq_int]
  congr 1
  exact propext Int.ofNat_inj
end PL
namespace PL
open PySem PySem.Spec PyProof.Rows L2
class En (α : Type) where
  enc : α → D
open En
instance iEnInt : En Int := ⟨D.int⟩
instance iEnNat : En Nat := ⟨fun n => .int (n : Nat)⟩
instance iEnBool : En Bool := ⟨D.bl⟩
instance iEnStr : En Str := ⟨D.str⟩
instance iEnList {α : Type} [En α] : En (List α) := ⟨fun xs => .tup (xs.map enc)⟩
instance iEnProd {α β : Type} [En α] [En β] : En (α × β) := ⟨fun p => .tup [enc p.1, enc p.2]⟩
structure Ls (α : Type) where
  l : List α
  deriving DecidableEq
instance iEnLs {α : Type} [En α] : En (Ls α) := ⟨fun xs => .lst (xs.l.map enc)⟩
instance iEnD : En D := ⟨id⟩
class Dt (α : Type) [En α] [DecidableEq α] where
  dep : Nat
  lay : ∀ a : α, (enc a).py.canLay0 = true ∧ (enc a).py.depth ≤ dep
  eqv : ∀ a b : α, deq (enc a) (enc b) = decide (a = b)
section
variable {α β : Type} [En α] [DecidableEq α] [Dt α] [En β] [DecidableEq β] [Dt β]
theorem eqvAll_map : ∀ xs ys : List α, PyData.eqvAll (D.pys (xs.map enc)) (D.pys (ys.map enc)) = decide (xs = ys)
  | [], [] => rfl
  | [], _ :: _ => rfl
  | _ :: _, [] => rfl
  | x :: xs, y :: ys => by
    have h : PyData.eqv (enc x).py (enc y).py = decide (x = y) := Dt.eqv x y
    simp only [List.map_cons, D.pys, PyData.eqvAll, eqvAll_map xs ys, h]
    rw [← Bool.decide_and]
    congr 1
    exact propext (by rw [List.cons.injEq])
theorem lay_map {n : Nat} (h : Dt.dep α ≤ n) (xs : List α) : ∀ x ∈ xs.map (enc : α → D), x.py.canLay0 = true ∧ x.py.depth ≤ n := fun x hx => by
  obtain ⟨a, _, rfl⟩ := List.mem_map.mp hx
  exact ⟨(Dt.lay a).1, Nat.le_trans (Dt.lay a).2 h⟩
theorem lay_tup {n : Nat} {xs : List D} (h : ∀ x ∈ xs, x.py.canLay0 = true ∧ x.py.depth ≤ n) : (D.tup xs).py.canLay0 = true ∧ (D.tup xs).py.depth ≤ n + 1 := by
  refine ⟨?_, ?_⟩
  · simp only [D.py, PyData.canLay0]; exact lay_all fun x hx => (h x hx).1
  · have := dep_all (n := n) fun x hx => (h x hx).2
    simp only [D.py, PyData.depth]
    omega
theorem lay_lst {n : Nat} {xs : List D} (h : ∀ x ∈ xs, x.py.canLay0 = true ∧ x.py.depth ≤ n) : (D.lst xs).py.canLay0 = true ∧ (D.lst xs).py.depth ≤ n + 1 := by
  refine ⟨?_, ?_⟩
  · simp only [D.py, PyData.canLay0]; exact lay_all fun x hx => (h x hx).1
  · have := dep_all (n := n) fun x hx => (h x hx).2
    simp only [D.py, PyData.depth]
    omega
end
instance iDtInt : Dt Int where
  dep := 0
  lay a := ⟨rfl, Nat.le_refl _⟩
  eqv a b := deq_int a b
instance iDtNat : Dt Nat where
  dep := 0
  lay a := ⟨rfl, Nat.le_refl _⟩
  eqv a b := deq_nat a b
instance iDtBool : Dt Bool where
  dep := 0
  lay a := ⟨rfl, Nat.le_refl _⟩
  eqv a b := by cases a <;> cases b <;> rfl
instance iDtList {α : Type} [En α] [DecidableEq α] [Dt α] : Dt (List α) where
  dep := Dt.dep α + 1
  lay a := lay_tup (lay_map (Nat.le_refl _) a)
  eqv a b := eqvAll_map a b
instance iDtLs {α : Type} [En α] [DecidableEq α] [Dt α] : Dt (Ls α) where
  dep := Dt.dep α + 1
  lay a := lay_lst (lay_map (Nat.le_refl _) a.l)
  eqv a b := by
    have : deq (enc a) (enc b) = decide (a.l = b.l) := eqvAll_map a.l b.l
    rw [this]
    congr 1
    cases a; cases b
    simp
instance iDtProd {α β : Type} [En α] [DecidableEq α] [Dt α] [En β] [DecidableEq β] [Dt β] : Dt (α × β) where
  dep := max (Dt.dep α) (Dt.dep β) + 1
  lay a := lay_tup fun x hx => by
    rcases List.mem_cons.mp hx with rfl | hx
    · exact ⟨(Dt.lay a.1).1, Nat.le_trans (Dt.lay a.1).2 (Nat.le_max_left ..)⟩
    · rw [List.mem_singleton.mp hx]
      exact ⟨(Dt.lay a.2).1, Nat.le_trans (Dt.lay a.2).2 (Nat.le_max_right ..)⟩
  eqv a b := by
    have h1 : PyData.eqv (enc a.1).py (enc b.1).py = decide (a.1 = b.1) := Dt.eqv a.1 b.1
    have h2 : PyData.eqv (enc a.2).py (enc b.2).py = decide (a.2 = b.2) := Dt.eqv a.2 b.2
    have : deq (enc a) (enc b) = (PyData.eqv (enc a.1).py (enc b.1).py && (PyData.eqv (enc a.2).py (enc b.2).py && true)) := by
      simp only [deq, enc, D.py, D.pys, PyData.eqv, PyData.eqvAll]
    rw [this, h1, h2, Bool.and_true, ← Bool.decide_and]
    congr 1
    exact propext Prod.ext_iff.symm
section
variable {α : Type} [En α] [DecidableEq α] [Dt α]
theorem shp_of {d : D} {n : Nat} (h : d.py.canLay0 = true ∧ d.py.depth ≤ n) (hn : n ≤ 60) : shp d = true := by
  unfold shp SeqAt.shaped
  rw [Bool.and_eq_true, decide_eq_true_eq]
  exact ⟨h.1, by have := h.2; omega⟩
theorem shp_enc (a : α) (h : Dt.dep α ≤ 50 := by decide) : shp (enc a) = true := shp_of (Dt.lay a) (by omega)
theorem shp_tupE (xs : List α) (h : Dt.dep α ≤ 50 := by decide) : shp (.tup (xs.map enc)) = true := shp_of (lay_tup (lay_map (Nat.le_refl _) xs)) (by omega)
theorem shp_lstE (xs : List α) (h : Dt.dep α ≤ 50 := by decide) : shp (.lst (xs.map enc)) = true := shp_of (lay_lst (lay_map (Nat.le_refl _) xs)) (by omega)
theorem anyE (xs : List α) (a : α) : ((xs.map enc).any fun z => deq z (enc a)) = decide (a ∈ xs) := any_map Dt.eqv xs a
theorem idxE (xs : List α) (a : α) : idxOfD (xs.map enc) (enc a) = xs.findIdx? (fun z => decide (z = a)) := idx_map Dt.eqv xs a
end
theorem eqP_of {a b : D} {Q : Bool → Prop} (ha : shp a = true) (hb : shp b = true) (q : Q (deq a b)) : eqP a b Q := by
  unfold eqP
  split
  · rw [deq_int] at q; exact q
  · rename_i x y
    have this : deq (.str x) (.str y) = (x == y) := by simp only [deq, D.py, PyData.eqv]
    rw [this] at q
    have e : (x == y) = decide (x = y) := by
      by_cases h : x = y
      · subst h; simp
      · rw [decide_eq_false h]; exact beq_false_of_ne h
    rw [e] at q; exact q
  · rename_i x y
    have e : deq (.bl x) (.bl y) = decide (x = y) := by cases x <;> cases y <;> rfl
    rw [e] at q; exact q
  · exact q
  · exact q
  · exact q
  · exact ⟨⟨ha, hb⟩, q⟩
class Od (α : Type) [En α] [DecidableEq α] [Dt α] where
  lt : α → α → Bool
  lin : Lin lt
  dlt : ∀ a b : α, PySem.W.dataLt (enc a).py (enc b).py = lt a b
  al : ∀ a b : α, PySem.W.alike (enc a).py (enc b).py = true
  nn : ∀ a : α, (enc a).py ≠ .none
  ltd : ∀ a b : α, ltD (enc a) (enc b) = some (lt a b)
instance iOdInt : Od Int where
  lt a b := decide (a < b)
  lin := linI
  dlt a b := PySem.W.dataLt_int a b
  al a b := by simp [enc, D.py, PySem.W.alike]
  nn a := by simp [enc, D.py]
  ltd a b := rfl
theorem linN : Lin (fun a b : Nat => decide (a < b)) := ⟨fun a => by simp, fun a b c h1 h2 => by simp at *; omega, fun a b h => by simp; omega⟩
instance iOdNat : Od Nat where
  lt a b := decide (a < b)
  lin := linN
  dlt a b := by
    have := PySem.W.dataLt_int a b
    show PySem.W.dataLt (.int a) (.int b) = _
    rw [this]
    congr 1
    exact propext Int.ofNat_lt
  al a b := by simp [enc, D.py, PySem.W.alike]
  nn a := by simp [enc, D.py]
  ltd a b := by
    show some (decide ((a : Int) < (b : Int))) = _
    congr 2
    exact propext Int.ofNat_lt
section
variable {α β : Type} [En α] [DecidableEq α] [Dt α] [Od α] [En β] [DecidableEq β] [Dt β] [Od β]
def ltL : List α → List α → Bool
  | [], [] => false
  | [], _ :: _ => true
  | _ :: _, [] => false
  | x :: xs, y :: ys => if x = y then ltL xs ys else Od.lt x y
theorem ltL_irrefl : ∀ a : List α, ltL a a = false
  | [] => rfl
  | x :: xs => by rw [ltL, if_pos rfl, ltL_irrefl xs]
theorem ltL_trans : ∀ a b c : List α, ltL a b = true → ltL b c = true → ltL a c = true
  | [], [], _, h, _ => by cases h
  | [], _ :: _, [], _, h => by cases h
  | [], _ :: _, _ :: _, _, _ => rfl
  | _ :: _, [], _, h, _ => by cases h
  | _ :: _, _ :: _, [], _, h => by cases h
  | x :: xs, y :: ys, z :: zs, h1, h2 => by
    rw [ltL] at *
    by_cases e1 : x = y
    · subst e1
      rw [if_pos rfl] at h1
      by_cases e2 : x = z
      · subst e2
        rw [if_pos rfl] at *
        exact ltL_trans _ _ _ h1 h2
      · rw [if_neg e2] at *; exact h2
    · rw [if_neg e1] at h1
      by_cases e2 : y = z
      · subst e2
        rw [if_neg e1]; exact h1
      · rw [if_neg e2] at h2
        have h3 := Od.lin.tr _ _ _ h1 h2
        have e3 : x ≠ z := fun e => by subst e; rw [Od.lin.ir] at h3; cases h3
        rw [if_neg e3]; exact h3
theorem ltL_tot : ∀ a b : List α, a ≠ b → ltL a b = true ∨ ltL b a = true
  | [], [], h => absurd rfl h
  | [], _ :: _, _ => .inl rfl
  | _ :: _, [], _ => .inr rfl
  | x :: xs, y :: ys, h => by
    rw [ltL, ltL]
    by_cases e1 : x = y
    · subst e1
      rw [if_pos rfl, if_pos rfl]
      exact ltL_tot xs ys fun e => h (by rw [e])
    · rw [if_neg e1, if_neg fun e => e1 e.symm]
      exact Od.lin.tot _ _ e1
theorem linL : Lin (ltL (α := α)) := ⟨ltL_irrefl, ltL_trans, ltL_tot⟩
theorem rowE : ∀ xs ys : List α, PySem.W.rowLt (D.pys (xs.map enc)) (D.pys (ys.map enc)) = ltL xs ys
  | [], [] => by
    have e : PySem.W.rowLt [] [] = false := PyProof.Rows.lex_irrefl _
    exact e
  | [], y :: ys => by
    show PySem.W.rowLt [] _ = true
    unfold PySem.W.rowLt
    rw [List.map_cons, D.pys, PySem.W.toks_all_cons]
    simp only [PySem.W.keyToksAll]
    rw [PyProof.Rows.lex_diff (O := itemOrd) (by simp)]
    rfl
  | x :: xs, [] => by
    show PySem.W.rowLt _ [] = false
    unfold PySem.W.rowLt
    rw [List.map_cons, D.pys, PySem.W.toks_all_cons]
    simp only [PySem.W.keyToksAll]
    rw [PyProof.Rows.lex_diff (O := itemOrd) (by simp)]
    rfl
  | x :: xs, y :: ys => by
    have ih := rowE xs ys
    unfold PySem.W.rowLt at ih ⊢
    rw [List.map_cons, List.map_cons, D.pys, D.pys, PySem.W.dataLt_cons (Od.al x y), ih, Od.dlt]
    have h : PyData.eqv (enc x).py (enc y).py = decide (x = y) := Dt.eqv x y
    rw [h, ltL]
    by_cases e : x = y
    · rw [if_pos e, if_pos (by simpa using e)]
    · rw [if_neg e, if_neg (by simpa using e)]
theorem alikeE : ∀ xs ys : List α, PySem.W.alikeAll (D.pys (xs.map enc)) (D.pys (ys.map enc)) = true
  | [], _ => by simp [D.pys, PySem.W.alikeAll]
  | _ :: _, [] => by simp [D.pys, PySem.W.alikeAll]
  | x :: xs, y :: ys => by
    simp only [List.map_cons, D.pys]
    rw [PySem.W.alikeAll, alikeE xs ys, Od.al x y]
    rfl
theorem ltDsE : ∀ xs ys : List α, ltDs (xs.map enc) (ys.map enc) = some (ltL xs ys)
  | [], [] => rfl
  | [], _ :: _ => rfl
  | _ :: _, [] => rfl
  | x :: xs, y :: ys => by
    simp only [List.map_cons, ltDs, ltDsE xs ys, Dt.eqv, Od.ltd, ltL]
    by_cases e : x = y
    · simp [e]
    · simp [e]
def ltPr (a b : α × β) : Bool := if a.1 = b.1 then Od.lt a.2 b.2 else Od.lt a.1 b.1
theorem linPr : Lin (ltPr (α := α) (β := β)) := by
  refine ⟨fun a => ?_, fun a b c h1 h2 => ?_, fun a b h => ?_⟩
  · unfold ltPr; rw [if_pos rfl]; exact Od.lin.ir _
  · unfold ltPr at *
    by_cases e1 : a.1 = b.1
    · rw [if_pos e1] at h1
      by_cases e2 : b.1 = c.1
      · rw [if_pos e2] at h2; rw [if_pos (e1.trans e2)]; exact Od.lin.tr _ _ _ h1 h2
      · rw [if_neg e2] at h2; rw [e1, if_neg e2]; exact h2
    · rw [if_neg e1] at h1
      by_cases e2 : b.1 = c.1
      · rw [← e2, if_neg e1]; exact h1
      · rw [if_neg e2] at h2
        have h3 := Od.lin.tr _ _ _ h1 h2
        rw [if_neg fun e => by rw [e, Od.lin.ir] at h3; cases h3]; exact h3
  · unfold ltPr
    by_cases e1 : a.1 = b.1
    · rw [if_pos e1, if_pos e1.symm]
      exact Od.lin.tot _ _ fun e => h (Prod.ext e1 e)
    · rw [if_neg e1, if_neg fun e => e1 e.symm]
      exact Od.lin.tot _ _ e1
end
instance iOdList {α : Type} [En α] [DecidableEq α] [Dt α] [Od α] : Od (List α) where
  lt := ltL
  lin := linL
  dlt a b := by
    show PySem.W.dataLt (.tuple (D.pys (a.map enc))) (.tuple (D.pys (b.map enc))) = _
    rw [PySem.W.dataLt_tuple]
    exact rowE a b
  al a b := by
    show PySem.W.alike (.tuple (D.pys (a.map enc))) (.tuple (D.pys (b.map enc))) = true
    rw [PySem.W.alike]; exact alikeE a b
  nn a := by simp [enc, D.py]
  ltd a b := by
    show ltD (.tup (a.map enc)) (.tup (b.map enc)) = _
    rw [ltD]; exact ltDsE a b
instance iOdProd {α β : Type} [En α] [DecidableEq α] [Dt α] [Od α] [En β] [DecidableEq β] [Dt β] [Od β] : Od (α × β) where
  lt := ltPr
  lin := linPr
  dlt a b := by
    show PySem.W.dataLt (.tuple [(enc a.1).py, (enc a.2).py]) (.tuple [(enc b.1).py, (enc b.2).py]) = _
    rw [PySem.W.dataLt_pair (Od.al _ _) (Od.al _ _), Od.dlt, Od.dlt]
    have h1 : PyData.eqv (enc a.1).py (enc b.1).py = decide (a.1 = b.1) := Dt.eqv a.1 b.1
    have h2 : PyData.eqv (enc a.2).py (enc b.2).py = decide (a.2 = b.2) := Dt.eqv a.2 b.2
    rw [h1, h2, ltPr]
    by_cases e : a.1 = b.1
    · rw [if_pos e, if_pos (by simpa using e)]
      by_cases e2 : a.2 = b.2
      · rw [if_pos (by simpa using e2), e2, Od.lin.ir]
      · rw [if_neg (by simpa using e2)]
    · rw [if_neg e, if_neg (by simpa using e)]
  al a b := by
    show PySem.W.alike (.tuple [(enc a.1).py, (enc a.2).py]) (.tuple [(enc b.1).py, (enc b.2).py]) = true
    rw [PySem.W.alike, PySem.W.alikeAll, PySem.W.alikeAll, PySem.W.alikeAll, Od.al, Od.al]; rfl
  nn a := by simp [enc, D.py]
  ltd a b := by
    show ltD (.tup [enc a.1, enc a.2]) (.tup [enc b.1, enc b.2]) = _
    rw [ltD]
    simp only [ltDs, Dt.eqv, Od.ltd, ltPr]
    by_cases e : a.1 = b.1
    · by_cases e2 : a.2 = b.2
      · simp [e, e2, Od.lin.ir]
      · simp [e, e2]
    · by_cases e2 : a.2 = b.2
      · simp [e, e2]
      · simp [e, e2]
section
variable {α : Type} [En α] [DecidableEq α] [Dt α] [Od α]
theorem leB_enc (a b : α) : leB (enc a) (enc b) = !Od.lt b a := by
  have : leB (enc a) (enc b) = !PySem.W.dataLt (enc b).py (enc a).py := rfl
  rw [this, Od.dlt]
def srt (xs : List α) : List α := xs.mergeSort fun a b => !Od.lt b a
theorem sortD_enc (xs : List α) : sortD (xs.map enc) = (srt xs).map enc := by
  unfold sortD srt
  rw [List.map_mergeSort (s := leB)]
  exact fun a _ b _ => (leB_enc a b).symm
theorem sortable_enc (xs : List α) (h : Dt.dep α ≤ 50 := by decide) : sortable (xs.map enc) := by
  refine ⟨fun x hx => ?_, fun x hx y hy => ?_⟩
  · obtain ⟨i, _, rfl⟩ := List.mem_map.mp hx
    exact ⟨shp_enc i h, Od.nn i⟩
  · obtain ⟨i, _, rfl⟩ := List.mem_map.mp hx
    obtain ⟨j, _, rfl⟩ := List.mem_map.mp hy
    exact Od.al i j
theorem srt_perm (xs : List α) : (srt xs).Perm xs := List.mergeSort_perm ..
theorem srt_le (xs : List α) : (srt xs).Pairwise fun a b => Od.lt b a = false := by
  have h1 := List.pairwise_mergeSort (le := fun a b : α => !Od.lt b a) (fun a b c h1 h2 => ?_) (fun a b => ?_) xs
  · exact h1.imp fun {a b} h => by simpa using h
  · cases e1 : Od.lt c a with
    | false => rfl
    | true =>
      simp only [Bool.not_eq_true'] at h1 h2
      by_cases e : a = b
      · subst e; rw [h2] at e1; cases e1
      · have z := (Od.lin.tot a b e).resolve_right (by rw [h1]; simp)
        rw [Od.lin.tr _ _ _ e1 z] at h2; cases h2
  · cases e : Od.lt b a with
    | false => simp
    | true => simp [Od.lin.asym e]
end
class Ky (α : Type) [En α] where
  kd : Nat
  sc : Bool
  key : ∀ a : α, ∃ n, nk (enc a) = some n ∧ n.depth ≤ kd
  scl : ∀ a : α, scal (enc a) = sc
instance iKyInt : Ky Int := ⟨0, true, fun a => ⟨.num a, rfl, by simp [NestedKey.depth]⟩, fun _ => rfl⟩
instance iKyNat : Ky Nat := ⟨0, true, fun a => ⟨.num a, rfl, by simp [NestedKey.depth]⟩, fun _ => rfl⟩
instance iKyStr : Ky Str := ⟨0, true, fun a => ⟨.text a, rfl, by simp [NestedKey.depth]⟩, fun _ => rfl⟩
theorem nks_map {α : Type} [En α] [Ky α] : ∀ xs : List α, ∃ ns, nks (xs.map enc) = some ns ∧ NestedKey.depthAll ns ≤ Ky.kd α
  | [] => ⟨[], rfl, by simp [NestedKey.depthAll]⟩
  | x :: xs => by
    obtain ⟨n, h1, h2⟩ := Ky.key x
    obtain ⟨ns, h3, h4⟩ := nks_map xs
    refine ⟨n :: ns, by simp [nks, h1, h3], ?_⟩
    simp only [NestedKey.depthAll]
    exact Nat.max_le.mpr ⟨h2, h4⟩
instance iKyList {α : Type} [En α] [Ky α] : Ky (List α) := ⟨Ky.kd α + 1, false, fun a => by
  obtain ⟨ns, h1, h2⟩ := nks_map a
  exact ⟨.tup ns, by show (nks (a.map enc)).map NestedKey.tup = _; rw [h1]; rfl, by simp only [NestedKey.depth]; omega⟩, fun _ => rfl⟩
instance iKyProd {α β : Type} [En α] [Ky α] [En β] [Ky β] : Ky (α × β) := ⟨max (Ky.kd α) (Ky.kd β) + 1, false, fun a => by
  obtain ⟨n, h1, h2⟩ := Ky.key a.1
  obtain ⟨m, h3, h4⟩ := Ky.key a.2
  refine ⟨.tup [n, m], by show (nks [enc a.1, enc a.2]).map NestedKey.tup = _; simp [nks, h1, h3], ?_⟩
  simp only [NestedKey.depth, NestedKey.depthAll]
  have := Nat.le_max_left (Ky.kd α) (Ky.kd β)
  have := Nat.le_max_right (Ky.kd α) (Ky.kd β)
  simp
  omega, fun _ => rfl⟩
def encKV {κ ν : Type} [En κ] [En ν] (kvs : List (κ × ν)) : List (D × D) := kvs.map fun p => (enc p.1, enc p.2)
def lk {κ ν : Type} [DecidableEq κ] (kvs : List (κ × ν)) (k : κ) : Option ν := (kvs.find? fun p => decide (p.1 = k)).map (·.2)
def pt {κ ν : Type} [DecidableEq κ] (kvs : List (κ × ν)) (k : κ) (v : ν) : List (κ × ν) := if kvs.any (fun p => decide (p.1 = k)) then kvs.map (fun p => if p.1 = k then (p.1, v) else p) else kvs ++ [(k, v)]
section
variable {κ ν : Type} [En κ] [DecidableEq κ] [Dt κ] [Ky κ] [En ν]
theorem keyOkE (kvs : List (κ × ν)) (k : κ) (h : Ky.kd κ ≤ 8 := by decide) : keyOk (encKV kvs) (enc k) = true := by
  obtain ⟨n, h1, h2⟩ := Ky.key k
  unfold keyOk encKV
  rw [h1, Bool.and_eq_true]
  refine ⟨by show decide (n.depth ≤ 8) = true; exact decide_eq_true (by omega), ?_⟩
  rw [List.all_map, List.all_eq_true]
  intro p _
  show (scal (enc p.1) == scal (enc k)) = true
  rw [Ky.scl, Ky.scl]
  simp
theorem lookE (kvs : List (κ × ν)) (k : κ) : lookD (encKV kvs) (enc k) = (lk kvs k).map enc := by
  unfold lookD lk encKV
  rw [List.find?_map]
  have : ((fun p : D × D => deq p.1 (enc k)) ∘ fun p : κ × ν => (enc p.1, enc p.2)) = fun p => decide (p.1 = k) := by
    funext p; exact Dt.eqv p.1 k
  rw [this, Option.map_map, Option.map_map]
  rfl
theorem anyKE (kvs : List (κ × ν)) (k : κ) : ((encKV kvs).any fun p => deq p.1 (enc k)) = decide (k ∈ kvs.map (·.1)) := by
  unfold encKV
  rw [List.any_map, Bool.eq_iff_iff, List.any_eq_true, decide_eq_true_eq, List.mem_map]
  constructor
  · rintro ⟨p, hp, h⟩
    have h : deq (enc p.1) (enc k) = true := h
    rw [Dt.eqv, decide_eq_true_eq] at h
    exact ⟨p, hp, h⟩
  · rintro ⟨p, hp, rfl⟩
    exact ⟨p, hp, by show deq (enc p.1) (enc p.1) = true; rw [Dt.eqv]; simp⟩
theorem putE (kvs : List (κ × ν)) (k : κ) (v : ν) : putD (encKV kvs) (enc k) (enc v) = encKV (pt kvs k v) := by
  unfold putD pt
  have e : ((encKV kvs).any fun p => deq p.1 (enc k)) = kvs.any fun p => decide (p.1 = k) := by
    unfold encKV
    rw [List.any_map]
    congr 1
    funext p; exact Dt.eqv p.1 k
  rw [e]
  split
  · unfold encKV
    rw [List.map_map, List.map_map]
    refine List.map_congr_left fun p _ => ?_
    show (if deq (enc p.1) (enc k) = true then ((enc p.1 : D), (enc v : D)) else (enc p.1, enc p.2)) = _
    rw [Dt.eqv]
    by_cases h : p.1 = k
    · simp [h]
    · simp [h]
  · unfold encKV
    rw [List.map_append]; rfl
end
end PL
namespace PL
open PySem PySem.Spec PyProof.Rows L2
open En
def Ev (C : PC) (e : IE) (ρ : PEnv) (r : RV) (ρ' : PEnv) : Prop := ∀ Q : RK, Q r ρ' → wpE C e ρ Q
def Kp (r : RV) (d : D) : Prop := ∀ K : D → Prop, K d → r.kept K
def EvK (C : PC) (e : IE) (ρ : PEnv) (d : D) (ρ' : PEnv) : Prop := ∃ r, Ev C e ρ r ρ' ∧ Kp r d
def EvA (C : PC) (b : Bool) (as : IE) (ρ : PEnv) (ds : List D) (ρ' : PEnv) : Prop := ∀ Q : AK, Q ds ρ' → wpA C b as ρ Q
def EvI (C : PC) (b : Bool) (it : IE) (ρ : PEnv) (ds : List D) (ρ' : PEnv) : Prop := ∀ Q : AK, (ds.length ≤ sizeLine → Q ds ρ') → wpI C b it ρ Q
def BinR (o : Op2) (a b : D) (r : RV) : Prop := ∀ Q : RV → Prop, Q r → binP o a b Q
def CmpR (c : Cm) (a b : D) (t : Bool) : Prop := ∀ Q : Bool → Prop, Q t → cmpP c a b Q
def IdxR (a b d : D) : Prop := ∀ Q : D → Prop, Q d → idxP a b Q
def SlcR (a : D) (l h : Option Int) (r : RV) : Prop := ∀ Q : RV → Prop, Q r → slcP a l h Q
def BltR (f : BI) (as : List D) (r : RV) : Prop := ∀ Q : RV → Prop, Q r → bltP f as Q
def MthR (m : MT) (a : D) (as : List D) (r : RV) : Prop := recvOk m a = true ∧ ∀ Q : RV → Prop, Q r → mthP m a as Q
def TruR (d : D) (b : Bool) : Prop := truthD d = some b
def TgR (tg : Tg) (d : D) (ρ ρ' : PEnv) : Prop := ∀ Q : PEnv → Prop, Q ρ' → tgP tg d ρ Q
def ItmR (d : D) (ds : List D) : Prop := itemsD d = some ds ∧ (isRng d = true → ds.length ≤ sizeLine)
def SeqR (d : D) (ds : List D) : Prop := seqD d = some ds
def VlR (S : Spec) (ds : List D) (r : RV) : Prop := ∀ dr (Q : RV → Nat → Prop) xe, Q r dr → S ds dr Q xe
variable {C : PC} {ρ ρ' ρ1 ρ2 ρ3 : PEnv} {r s t : RV} {d d' : D}
theorem kp_val : Kp (.val d) d := fun _ h => h
theorem kp_own {xs : List D} : Kp (.own xs) (.lst xs) := fun _ h => h
theorem kp_owd {xs : List (D × D)} : Kp (.owd xs) (.dct xs) := fun _ h => h
theorem evk {e : IE} (h : Ev C e ρ r ρ') (k : Kp r d) : EvK C e ρ d ρ' := ⟨r, h, k⟩
theorem ev_cst : Ev C (.cst d) ρ (.val d) ρ := fun _ q => q
theorem ev_var {i : Nat} (h : ρ.get i = .val d) : Ev C (.var i) ρ (.val d) ρ := fun Q q => by show rdV ρ i Q; unfold rdV; rw [h]; exact q
theorem ev_varO {i : Nat} {xs : List D} (h : ρ.get i = .own xs) : Ev C (.var i) ρ (.val (.lst xs)) (ρ.put i (.val (.lst xs))) := fun Q q => by show rdV ρ i Q; unfold rdV; rw [h]; exact q
theorem ev_varD {i : Nat} {xs : List (D × D)} (h : ρ.get i = .owd xs) : Ev C (.var i) ρ (.val (.dct xs)) (ρ.put i (.val (.dct xs))) := fun Q q => by show rdV ρ i Q; unfold rdV; rw [h]; exact q
theorem ev_bor {i : Nat} (h : ρ.get i = .val d) : Ev C (.bor i) ρ (.val d) ρ := fun Q q => by show rdB ρ i Q; unfold rdB; rw [h]; exact q
theorem ev_borO {i : Nat} {xs : List D} (h : ρ.get i = .own xs) : Ev C (.bor i) ρ (.brw (.lst xs)) ρ := fun Q q => by show rdB ρ i Q; unfold rdB; rw [h]; exact q
theorem ev_borD {i : Nat} {xs : List (D × D)} (h : ρ.get i = .owd xs) : Ev C (.bor i) ρ (.brw (.dct xs)) ρ := fun Q q => by show rdB ρ i Q; unfold rdB; rw [h]; exact q
theorem ev_bin {o : Op2} {a b : IE} (ha : Ev C a ρ r ρ1) (hb : Ev C b ρ1 s ρ2) (h : BinR o r.toD s.toD t) : Ev C (.bin o a b) ρ t ρ2 := fun Q q => ha _ (hb _ (h (fun z => Q z ρ2) q))
theorem ev_neg {a : IE} {i : Int} (ha : Ev C a ρ r ρ1) (h : r.toD = .int i) : Ev C (.neg a) ρ (.val (.int (-i))) ρ1 := fun Q q => ha _ ⟨i, h, q⟩
theorem ev_cmp {c : Cm} {a b : IE} {x : Bool} (ha : Ev C a ρ r ρ1) (hb : Ev C b ρ1 s ρ2) (h : CmpR c r.toD s.toD x) : Ev C (.cmp c a b) ρ (.val (.bl x)) ρ2 := fun Q q => ha _ (hb _ (h (fun z => Q (.val (.bl z)) ρ2) q))
theorem ev_cmp2 {c c' : Cm} {a b e : IE} {x y : Bool} (ha : Ev C a ρ r ρ1) (hb : Ev C b ρ1 s ρ2) (h : CmpR c r.toD s.toD x) (he : Ev C e ρ2 t ρ2) (h' : CmpR c' s.toD t.toD y) : Ev C (.cmp2 c c' a b e) ρ (.val (.bl (x && y))) ρ2 := fun Q q => ha _ (hb _ (h _ ⟨fun hx => he _ (h' (fun z => Q (.val (.bl z)) ρ2) (by rw [hx] at q; exact q)), fun hx => by rw [hx] at q; exact q⟩))
theorem ev_tst {a : IE} {b : Bool} (ha : Ev C a ρ r ρ1) (h : TruR r.toD b) : Ev C (.tst a) ρ (.val (.bl b)) ρ1 := fun Q q => ha _ ⟨b, h, q⟩
theorem ev_and {a b : IE} {x y : Bool} (ha : Ev C a ρ (.val (.bl x)) ρ1) (hb : x = true → Ev C b ρ1 (.val (.bl y)) ρ1) : Ev C (.and a b) ρ (.val (.bl (x && y))) ρ1 := fun Q q => ha _ ⟨x, rfl, fun hx => hb hx _ (by rw [hx] at q; exact q), fun hx => by rw [hx] at q; exact q⟩
theorem ev_or {a b : IE} {x y : Bool} (ha : Ev C a ρ (.val (.bl x)) ρ1) (hb : x = false → Ev C b ρ1 (.val (.bl y)) ρ1) : Ev C (.or a b) ρ (.val (.bl (x || y))) ρ1 := fun Q q => ha _ ⟨x, rfl, fun hx => by rw [hx] at q; exact q, fun hx => hb hx _ (by rw [hx] at q; exact q)⟩
theorem ev_not {a : IE} {x : Bool} (ha : Ev C a ρ (.val (.bl x)) ρ1) : Ev C (.not a) ρ (.val (.bl (!x))) ρ1 := fun Q q => ha _ ⟨x, rfl, q⟩
theorem ev_ite {c a b : IE} {k : Bool} {x y : D} (hc : Ev C c ρ (.val (.bl k)) ρ1) (ha : k = true → Ev C a ρ1 (.val x) ρ1) (hb : k = false → Ev C b ρ1 (.val y) ρ1) : Ev C (.ite c a b) ρ (.val (if k = true then x else y)) ρ1 := fun Q q => hc _ ⟨k, rfl, fun hx => ha hx _ (by rw [if_pos hx] at q; exact q), fun hx => hb hx _ (by rw [if_neg (by rw [hx]; exact Bool.false_ne_true)] at q; exact q)⟩
theorem ev_tup {as : IE} {ds : List D} (ha : EvA C false as ρ ds ρ1) (hz : ds.length ≤ sizeLine) : Ev C (.tup as) ρ (.val (.tup ds)) ρ1 := fun Q q => ha _ ⟨hz, q⟩
theorem ev_lst {as : IE} {ds : List D} (ha : EvA C false as ρ ds ρ1) (hz : ds.length ≤ sizeLine) : Ev C (.lst as) ρ (.own ds) ρ1 := fun Q q => ha _ ⟨hz, q⟩
theorem ev_dnew : Ev C .dnew ρ (.owd []) ρ := fun _ q => q
theorem ev_idx {a b : IE} (ha : Ev C a ρ r ρ1) (hb : Ev C b ρ1 s ρ2) (h : IdxR r.toD s.toD d) : Ev C (.idx a b) ρ (.val d) ρ2 := fun Q q => ha _ (hb _ (h (fun z => Q (.val z) ρ2) q))
theorem ev_rev {a : IE} (ha : Ev C a ρ r ρ1) (h : ∀ Q : RV → Prop, Q t → revP r.toD Q) : Ev C (.rev a) ρ t ρ1 := fun Q q => ha _ (h (fun z => Q z ρ1) q)
theorem ev_slc0 {a : IE} (ha : Ev C a ρ r ρ1) (h : SlcR r.toD none none t) : Ev C (.slc a (.cst .non) (.cst .non)) ρ t ρ1 := fun Q q => ha _ (h (fun z => Q z ρ1) q)
theorem ev_slcF {a lo : IE} {i : Int} (hm : isMiss lo = false) (ha : Ev C a ρ r ρ1) (hl : Ev C lo ρ1 s ρ2) (hi : s.toD = .int i) (h : SlcR r.toD (some i) none t) : Ev C (.slc a lo (.cst .non)) ρ t ρ2 := fun Q q => ha _ (by
  show optP (isMiss lo) (wpE C lo) ρ1 _
  unfold optP
  rw [hm, if_neg Bool.false_ne_true]
  exact hl _ ⟨i, hi, h (fun z => Q z ρ2) q⟩)
theorem ev_slcT {a hi : IE} {i : Int} (hm : isMiss hi = false) (ha : Ev C a ρ r ρ1) (hl : Ev C hi ρ1 s ρ2) (he : s.toD = .int i) (h : SlcR r.toD none (some i) t) : Ev C (.slc a (.cst .non) hi) ρ t ρ2 := fun Q q => ha _ (by
  show optP (isMiss hi) (wpE C hi) ρ1 (fun h ρ3 => slcP r.toD none h fun r => Q r ρ3)
  unfold optP
  rw [hm, if_neg Bool.false_ne_true]
  exact hl _ ⟨i, he, h (fun z => Q z ρ2) q⟩)
theorem ev_slc2 {a lo hi : IE} {i j : Int} {s' : RV} (hm : isMiss lo = false) (hm' : isMiss hi = false) (ha : Ev C a ρ r ρ1) (hl : Ev C lo ρ1 s ρ2) (hi' : s.toD = .int i) (hh : Ev C hi ρ2 s' ρ3) (hj : s'.toD = .int j) (h : SlcR r.toD (some i) (some j) t) : Ev C (.slc a lo hi) ρ t ρ3 := fun Q q => ha _ (by
  show optP (isMiss lo) (wpE C lo) ρ1 _
  unfold optP
  rw [hm, if_neg Bool.false_ne_true]
  refine hl _ ⟨i, hi', ?_⟩
  show optP (isMiss hi) (wpE C hi) ρ2 (fun h ρ3 => slcP r.toD (some i) h fun r => Q r ρ3)
  unfold optP
  rw [hm', if_neg Bool.false_ne_true]
  exact hh _ ⟨j, hj, h (fun z => Q z ρ3) q⟩)
theorem ev_call {f : Nat} {as : IE} {ds : List D} {S : Spec} (hS : C.sp f = S) (ha : EvA C false as ρ ds ρ1) (h : VlR S ds r) : Ev C (.call f as) ρ r ρ1 := fun Q q => ha _ (by rw [hS]; exact h _ _ _ q)
theorem ev_blt {f : BI} {as : IE} {ds : List D} (ha : EvA C true as ρ ds ρ1) (h : BltR f ds r) : Ev C (.blt f as) ρ r ρ1 := fun Q q => ha _ (h (fun z => Q z ρ1) q)
theorem ev_isi {a : IE} {ty : Ty} {b : Bool} (ha : Ev C a ρ r ρ1) (h : hasTy r.toD = true) (hb : isTy ty r.toD = b) : Ev C (.isi a ty) ρ (.val (.bl b)) ρ1 := fun Q q => ha _ ⟨h, by rw [hb]; exact q⟩
theorem ev_mth {m : MT} {a as : IE} {ds : List D} (ha : Ev C a ρ r ρ1) (hs : EvA C (lends m) as ρ1 ds ρ2) (h : MthR m r.toD ds t) : Ev C (.mth m a as) ρ t ρ2 := fun Q q => ha _ ⟨h.1, hs _ (h.2 (fun z => Q z ρ2) q)⟩
theorem eva_nil {b : Bool} : EvA C b .anil ρ [] ρ := fun _ q => q
theorem eva_T {a as : IE} {ds : List D} (ha : Ev C a ρ r ρ1) (hd : r.toD = d) (hs : EvA C true as ρ1 ds ρ2) : EvA C true (.acons a as) ρ (d :: ds) ρ2 := fun Q q => ha _ (by show wpA C true as ρ1 _; rw [hd]; exact hs _ q)
theorem eva_F {a as : IE} {ds : List D} (ha : Ev C a ρ r ρ1) (hd : Kp r d) (hs : EvA C false as ρ1 ds ρ2) : EvA C false (.acons a as) ρ (d :: ds) ρ2 := fun Q q => ha _ (hd _ (hs _ q))
theorem evi_T {a : IE} {ds : List D} (ha : Ev C a ρ r ρ1) (h : ItmR r.toD ds) : EvI C true (.itSeq a) ρ ds ρ1 := fun Q q => ha _ ⟨ds, h.1, fun hz => q (by
  cases e : isRng r.toD with
  | true => exact h.2 e
  | false => exact hz e)⟩
theorem evi_F {a : IE} {ds : List D} (ha : Ev C a ρ r ρ1) (hd : Kp r d) (h : ItmR d ds) : EvI C false (.itSeq a) ρ ds ρ1 := fun Q q => ha _ (hd _ ⟨ds, h.1, fun hz => q (by
  cases e : isRng d with
  | true => exact h.2 e
  | false => exact hz e)⟩)
theorem evi_r1 {b : Bool} {a : IE} {n : Nat} (ha : Ev C a ρ r ρ1) (h : r.toD = .int (n : Nat)) (hz : n ≤ 16777216) : EvI C b (.itR1 a) ρ ((List.range n).map enc) ρ1 := fun Q q => ha _ ⟨n, h, ⟨by omega, by omega⟩, by
  have : rngL 0 (n : Nat) = (List.range n).map enc := by
    unfold rngL
    rw [Int.sub_zero, Int.toNat_natCast]
    exact List.map_congr_left fun i _ => by rw [Int.zero_add]; rfl
  rw [this]
  exact q (by rw [List.length_map, List.length_range, sizeLine_eq]; exact hz)⟩
theorem evi_r2 {b : Bool} {a e : IE} {n m : Nat} (ha : Ev C a ρ r ρ1) (he : Ev C e ρ1 s ρ2) (h : r.toD = .int (n : Nat)) (h' : s.toD = .int (m : Nat)) (hz : m ≤ 16777216) (hz' : n ≤ 16777216) : EvI C b (.itR2 a e) ρ ((List.range' n (m - n)).map enc) ρ2 := fun Q q => ha _ (he _ ⟨n, m, h, h', ⟨⟨by omega, by omega⟩, by omega, by omega⟩, by
  have : rngL (n : Nat) (m : Nat) = (List.range' n (m - n)).map enc := by
    unfold rngL
    rw [show ((m : Int) - (n : Int)).toNat = m - n by omega, List.range'_eq_map_range, List.map_map]
    exact List.map_congr_left fun i _ => by show D.int _ = D.int _; congr 1
  rw [this]
  exact q (by rw [List.length_map, List.length_range', sizeLine_eq]; omega)⟩)
theorem evi_r21 {b : Bool} {a e : IE} {m : Nat} (ha : Ev C a ρ r ρ1) (he : Ev C e ρ1 s ρ2) (h : r.toD = .int 1) (h' : s.toD = .int (m : Nat)) (hz : m ≤ 16777216) : EvI C b (.itR2 a e) ρ ((List.range' 1 (m - 1)).map enc) ρ2 := evi_r2 (n := 1) ha he h h' hz (by decide)
theorem evi_zipT {α β : Type} {_ : En α} {_ : En β} {a c : IE} {xs : List α} {ys : List β} (ha : Ev C a ρ r ρ1) (hc : Ev C c ρ1 s ρ2) (h1 : SeqR r.toD (xs.map enc)) (h2 : SeqR s.toD (ys.map enc)) : EvI C true (.itZip a c) ρ ((xs.zip ys).map enc) ρ2 := fun Q q => ha _ (hc _ ⟨_, _, h1, h2, fun hz => by
  rw [List.zip_map, List.map_map]
  refine q ?_
  rw [List.length_map, List.length_zip]; rw [List.length_map] at hz; omega⟩)
theorem evi_zipF {α β : Type} {_ : En α} {_ : En β} {a c : IE} {d e : D} {xs : List α} {ys : List β} (ha : Ev C a ρ r ρ1) (k1 : Kp r d) (hc : Ev C c ρ1 s ρ2) (k2 : Kp s e) (h1 : SeqR d (xs.map enc)) (h2 : SeqR e (ys.map enc)) : EvI C false (.itZip a c) ρ ((xs.zip ys).map enc) ρ2 := fun Q q => ha _ (k1 _ (hc _ (k2 _ ⟨_, _, h1, h2, fun hz => by
  rw [List.zip_map, List.map_map]
  refine q ?_
  rw [List.length_map, List.length_zip]; rw [List.length_map] at hz; omega⟩)))
def enc3 {α β γ : Type} [En α] [En β] [En γ] (p : α × β × γ) : D := .tup [enc p.1, enc p.2.1, enc p.2.2]
theorem evi_zip3T {α β γ : Type} {_ : En α} {_ : En β} {_ : En γ} {a c e : IE} {xs : List α} {ys : List β} {zs : List γ} (ha : Ev C a ρ r ρ1) (hc : Ev C c ρ1 s ρ2) (he : Ev C e ρ2 t ρ3) (h1 : SeqR r.toD (xs.map enc)) (h2 : SeqR s.toD (ys.map enc)) (h3 : SeqR t.toD (zs.map enc)) : EvI C true (.itZip3 a c e) ρ ((xs.zip (ys.zip zs)).map enc3) ρ3 := fun Q q => ha _ (hc _ (he _ ⟨_, _, _, h1, h2, h3, fun hz => by
  rw [List.zip_map, List.zip_map, List.map_map]
  refine q ?_
  rw [List.length_map, List.length_zip]; rw [List.length_map] at hz; omega⟩))
theorem evi_enumT {α : Type} {_ : En α} {a : IE} {xs : List α} (ha : Ev C a ρ r ρ1) (h1 : SeqR r.toD (xs.map enc)) : EvI C true (.itEnum a) ρ ((xs.mapIdx fun k x => (k, x)).map enc) ρ1 := fun Q q => ha _ ⟨_, h1, fun hz => by
  have : (xs.map enc).mapIdx (fun k d => D.tup [.int (k : Nat), d]) = (xs.mapIdx fun k x => (k, x)).map enc := by
    apply List.ext_getElem
    · simp
    · intro i h1 h2; simp [enc]
  rw [this]
  refine q ?_
  rw [List.length_map, List.length_mapIdx]; rw [List.length_map] at hz; exact hz⟩
theorem evi_itemsT {κ ν : Type} {_ : En κ} {_ : En ν} {a : IE} {kvs : List (κ × ν)} (ha : Ev C a ρ r ρ1) (h1 : r.toD = .dct (encKV kvs)) : EvI C true (.itItems a) ρ (kvs.map enc) ρ1 := fun Q q => ha _ ⟨_, h1, fun hz => by
  unfold encKV at *
  rw [List.map_map]
  refine q ?_
  rw [List.length_map]; rw [List.length_map] at hz; exact hz⟩
theorem evi_itemsF {κ ν : Type} {_ : En κ} {_ : En ν} {a : IE} {d : D} {kvs : List (κ × ν)} (ha : Ev C a ρ r ρ1) (k : Kp r d) (h1 : d = .dct (encKV kvs)) : EvI C false (.itItems a) ρ (kvs.map enc) ρ1 := fun Q q => ha _ (k _ ⟨_, h1, fun hz => by
  unfold encKV at *
  rw [List.map_map]
  refine q ?_
  rw [List.length_map]; rw [List.length_map] at hz; exact hz⟩)
theorem itm_tup {ds : List D} : ItmR (.tup ds) ds := ⟨rfl, fun h => by cases h⟩
theorem itm_lst {ds : List D} : ItmR (.lst ds) ds := ⟨rfl, fun h => by cases h⟩
theorem itm_dct {κ ν : Type} [En κ] [En ν] {kvs : List (κ × ν)} : ItmR (.dct (encKV kvs)) ((kvs.map (·.1)).map enc) := ⟨by unfold encKV; show some _ = _; rw [List.map_map, List.map_map]; rfl, fun h => by cases h⟩
theorem itm_rng {n : Nat} (hz : n ≤ 16777216) : ItmR (.rng 0 (n : Nat)) ((List.range n).map enc) := ⟨by
  show some (rngL 0 (n : Nat)) = _
  congr 1
  unfold rngL
  rw [Int.sub_zero, Int.toNat_natCast]
  exact List.map_congr_left fun i _ => by rw [Int.zero_add]; rfl, fun _ => by rw [List.length_map, List.length_range, sizeLine_eq]; exact hz⟩
theorem sq_tup {ds : List D} : SeqR (.tup ds) ds := rfl
theorem sq_lst {ds : List D} : SeqR (.lst ds) ds := rfl
theorem tg_nm {i : Nat} : TgR (.nm i) d ρ (ρ.put i (.val d)) := fun _ q => q
theorem tg_tp1 {i : Nat} {a : D} : TgR (.tp [i]) (.tup [a]) ρ (ρ.put i (.val a)) := fun _ q => ⟨_, _, rfl, rfl, q⟩
theorem tg_tp2 {i j : Nat} {a b : D} : TgR (.tp [i, j]) (.tup [a, b]) ρ ((ρ.put i (.val a)).put j (.val b)) := fun _ q => ⟨_, _, rfl, rfl, q⟩
theorem tg_tp3 {i j k : Nat} {a b c : D} : TgR (.tp [i, j, k]) (.tup [a, b, c]) ρ (((ρ.put i (.val a)).put j (.val b)).put k (.val c)) := fun _ q => ⟨_, _, rfl, rfl, q⟩
theorem tg_tp4 {i j k l : Nat} {a b c e : D} : TgR (.tp [i, j, k, l]) (.tup [a, b, c, e]) ρ ((((ρ.put i (.val a)).put j (.val b)).put k (.val c)).put l (.val e)) := fun _ q => ⟨_, _, rfl, rfl, q⟩
theorem ev_compG {α β : Type} {_ : En β} {vs : List Nat} {tg : Tg} {it c e : IE} {xs : List α} {f : α → D} {p : α → Bool} {g : α → β} {T : α → PEnv} (hp : ρ.plainAt vs = true) (hi : EvI C true it ρ (xs.map f) ρ1)
    (ht : ∀ x, TgR tg (f x) (ρ1.wipe vs) (T x)) (hw : ∀ x, (T x).wipe vs = ρ1.wipe vs) (hb : ρ1.back (ρ1.wipe vs) vs = ρ1) (hc : ∀ x ∈ xs, Ev C c (T x) (.val (.bl (p x))) (T x)) (he : ∀ x ∈ xs, p x = true → EvK C e (T x) (enc (g x)) (T x)) :
    Ev C (.comp vs tg it c e) ρ (.own (((xs.filter p).map g).map enc)) ρ1 := fun Q q => ⟨hp, hi _ fun hz => by
  rw [List.length_map] at hz
  refine comp_fm p (fun x => enc (g x)) xs [] (by simpa using hz) (fun a ha K k1 k2 => ?_) (by rw [hb, List.nil_append]; rw [List.map_map] at q; exact q)
  refine ht a _ (hc a ha _ ⟨p a, rfl, fun hx => ?_, fun hx => ?_⟩)
  · obtain ⟨r, h1, h2⟩ := he a ha hx
    refine h1 _ (h2 _ ?_)
    rw [hw]; exact k1 hx
  · rw [hw]; exact k2 hx⟩
theorem ev_comp {α β : Type} {_ : En α} {_ : En β} {vs : List Nat} {tg : Tg} {it c e : IE} {xs : List α} {p : α → Bool} {g : α → β} {T : α → PEnv} (hp : ρ.plainAt vs = true) (hi : EvI C true it ρ (xs.map enc) ρ1)
    (ht : ∀ x, TgR tg (enc x) (ρ1.wipe vs) (T x)) (hw : ∀ x, (T x).wipe vs = ρ1.wipe vs) (hb : ρ1.back (ρ1.wipe vs) vs = ρ1) (hc : ∀ x ∈ xs, Ev C c (T x) (.val (.bl (p x))) (T x)) (he : ∀ x ∈ xs, p x = true → EvK C e (T x) (enc (g x)) (T x)) :
    Ev C (.comp vs tg it c e) ρ (.own (((xs.filter p).map g).map enc)) ρ1 := ev_compG hp hi ht hw hb hc he
theorem ev_compAG {α β : Type} {_ : En β} {vs : List Nat} {tg : Tg} {it e : IE} {xs : List α} {f : α → D} {g : α → β} {T : α → PEnv} (hp : ρ.plainAt vs = true) (hi : EvI C true it ρ (xs.map f) ρ1)
    (ht : ∀ x, TgR tg (f x) (ρ1.wipe vs) (T x)) (hw : ∀ x, (T x).wipe vs = ρ1.wipe vs) (hb : ρ1.back (ρ1.wipe vs) vs = ρ1) (he : ∀ x ∈ xs, EvK C e (T x) (enc (g x)) (T x)) :
    Ev C (.comp vs tg it (.cst (.bl true)) e) ρ (.own ((xs.map g).map enc)) ρ1 := by
  have := ev_compG (p := fun _ => true) hp hi ht hw hb (fun x _ => ev_cst) (fun x hx _ => he x hx)
  rw [List.filter_eq_self.mpr (fun _ _ => rfl)] at this
  exact this
theorem ev_compA {α β : Type} {_ : En α} {_ : En β} {vs : List Nat} {tg : Tg} {it e : IE} {xs : List α} {g : α → β} {T : α → PEnv} (hp : ρ.plainAt vs = true) (hi : EvI C true it ρ (xs.map enc) ρ1)
    (ht : ∀ x, TgR tg (enc x) (ρ1.wipe vs) (T x)) (hw : ∀ x, (T x).wipe vs = ρ1.wipe vs) (hb : ρ1.back (ρ1.wipe vs) vs = ρ1) (he : ∀ x ∈ xs, EvK C e (T x) (enc (g x)) (T x)) :
    Ev C (.comp vs tg it (.cst (.bl true)) e) ρ (.own ((xs.map g).map enc)) ρ1 := ev_compAG hp hi ht hw hb he
theorem ev_compI {α : Type} {_ : En α} {vs : List Nat} {i j : Nat} {it c : IE} {xs : List α} {p : α → Bool} {T : α → PEnv} (hp : ρ.plainAt vs = true) (hi : EvI C true it ρ (xs.map enc) ρ1)
    (ht : ∀ x, TgR (.nm i) (enc x) (ρ1.wipe vs) (T x)) (he : ∀ x, (T x).get j = .val (enc x)) (hw : ∀ x, (T x).wipe vs = ρ1.wipe vs) (hb : ρ1.back (ρ1.wipe vs) vs = ρ1) (hc : ∀ x ∈ xs, Ev C c (T x) (.val (.bl (p x))) (T x)) :
    Ev C (.comp vs (.nm i) it c (.var j)) ρ (.own ((xs.filter p).map enc)) ρ1 := by
  have := ev_compG (g := fun x => x) (e := .var j) hp hi ht hw hb hc (fun x _ _ => evk (ev_var (he x)) kp_val)
  rw [List.map_id'] at this
  exact this
theorem dcomp_G {α : Type} {vs : List Nat} {tg : Tg} {fc fk fv : PEnv → RK → Prop} {Q : List (D × D) → PEnv → Prop} {f : α → D} (p : α → Bool) (gk gv : α → D) : ∀ (xs : List α) (acc : List (D × D)), acc.length + xs.length ≤ sizeLine → (∀ a ∈ xs, ∀ l : List (D × D), (∀ q ∈ l, (∃ b ∈ xs, q.1 = gk b) ∨ ∃ q' ∈ acc, q.1 = q'.1) → keyOk l (gk a) = true) →
    (∀ a ∈ xs, ∀ (K : Option (D × D) → PEnv → Prop), (p a = true → K (some (gk a, gv a)) ρ) → (p a = false → K none ρ) → tgP tg (f a) ρ fun ρ1 => fc ρ1 fun c ρ2 => ∃ b, c = .val (.bl b) ∧ brn b (fk ρ2 fun k ρ3 => k.kept fun kd => fv ρ3 fun r ρ4 => r.kept fun vd => K (some (kd, vd)) (ρ4.wipe vs)) (K none (ρ2.wipe vs))) →
    Q ((xs.filter p).foldl (fun l a => putD l (gk a) (gv a)) acc) ρ → dcompL vs tg fc fk fv (xs.map f) ρ acc Q
  | [], acc, _, _, _, q => q
  | a :: xs, acc, hz, hk, h, q => by
    have hz' : acc.length + (xs.length + 1) ≤ sizeLine := hz
    have pl : ∀ (l : List (D × D)) (k v : D), (putD l k v).length ≤ l.length + 1 := fun l k v => by
      unfold putD
      split
      · rw [List.length_map]; omega
      · rw [List.length_append]; simp
    have pk : ∀ (l : List (D × D)) (k v : D) (q : D × D), q ∈ putD l k v → q.1 = k ∨ ∃ q' ∈ l, q.1 = q'.1 := fun l k v q hq => by
      unfold putD at hq
      split at hq
      · obtain ⟨q', h1, h2⟩ := List.mem_map.mp hq
        refine .inr ⟨q', h1, ?_⟩
        rw [← h2]; split <;> rfl
      · rcases List.mem_append.mp hq with h | h
        · exact .inr ⟨q, h, rfl⟩
        · rw [List.mem_singleton.mp h]; exact .inl rfl
    refine h a List.mem_cons_self (fun o ρ' => match o with | some (kd, vd) => keyOk acc kd = true ∧ acc.length < sizeLine ∧ dcompL vs tg fc fk fv (xs.map f) ρ' (putD acc kd vd) Q | none => dcompL vs tg fc fk fv (xs.map f) ρ' acc Q) (fun e => ?_) (fun e => ?_)
    · refine ⟨hk a List.mem_cons_self acc fun q hq => .inr ⟨q, hq, rfl⟩, by omega, ?_⟩
      refine dcomp_G p gk gv xs _ (by have := pl acc (gk a) (gv a); omega) (fun b hb l hl => hk b (List.mem_cons_of_mem _ hb) l fun q hq => ?_) (fun b hb => h b (List.mem_cons_of_mem _ hb)) (by rw [List.filter_cons, e] at q; exact q)
      rcases hl q hq with ⟨c, h1, h2⟩ | ⟨q', h1, h2⟩
      · exact .inl ⟨c, List.mem_cons_of_mem _ h1, h2⟩
      · rcases pk acc (gk a) (gv a) q' h1 with h3 | ⟨q2, h3, h4⟩
        · exact .inl ⟨a, List.mem_cons_self, h2.trans h3⟩
        · exact .inr ⟨q2, h3, h2.trans h4⟩
    · exact dcomp_G p gk gv xs acc (by omega) (fun b hb l hl => hk b (List.mem_cons_of_mem _ hb) l fun q hq => (hl q hq).imp (fun ⟨c, h1, h2⟩ => ⟨c, List.mem_cons_of_mem _ h1, h2⟩) id) (fun b hb => h b (List.mem_cons_of_mem _ hb)) (by rw [List.filter_cons, e] at q; exact q)
def ptAll {κ ν : Type} [DecidableEq κ] (kvs : List (κ × ν)) : List (κ × ν) := kvs.foldl (fun l p => pt l p.1 p.2) []
theorem encKV_foldl {κ ν : Type} [En κ] [DecidableEq κ] [Dt κ] [Ky κ] [En ν] : ∀ (xs acc : List (κ × ν)), (xs.map fun p => (enc p.1, enc p.2)).foldl (fun l q => putD l q.1 q.2) (encKV acc) = encKV (xs.foldl (fun l p => pt l p.1 p.2) acc)
  | [], acc => rfl
  | p :: xs, acc => by
    rw [List.map_cons, List.foldl_cons, List.foldl_cons, putE]
    exact encKV_foldl xs _
theorem ev_dcompAG {α κ ν : Type} [En κ] [DecidableEq κ] [Dt κ] [Ky κ] [En ν] {vs : List Nat} {tg : Tg} {it ek ev : IE} {xs : List α} {f : α → D} {gk : α → κ} {gv : α → ν} {T : α → PEnv} (hp : ρ.plainAt vs = true) (hi : EvI C true it ρ (xs.map f) ρ1)
    (ht : ∀ x, TgR tg (f x) (ρ1.wipe vs) (T x)) (hw : ∀ x, (T x).wipe vs = ρ1.wipe vs) (hb : ρ1.back (ρ1.wipe vs) vs = ρ1) (he : ∀ x ∈ xs, EvK C ek (T x) (enc (gk x)) (T x)) (hv : ∀ x ∈ xs, EvK C ev (T x) (enc (gv x)) (T x)) (hd : Ky.kd κ ≤ 8 := by decide) :
    Ev C (.dcomp vs tg it (.cst (.bl true)) ek ev) ρ (.owd (encKV (ptAll (xs.map fun x => (gk x, gv x))))) ρ1 := fun Q q => ⟨hp, hi _ fun hz => by
  rw [List.length_map] at hz
  refine dcomp_G (ρ := ρ1.wipe vs) (fun _ => true) (fun x => enc (gk x)) (fun x => enc (gv x)) xs [] (by simpa using hz) (fun a ha l hl => ?_) (fun a ha K k1 k2 => ?_) ?_
  · obtain ⟨n, h1, h2⟩ := Ky.key (gk a)
    unfold keyOk
    rw [h1, Bool.and_eq_true]
    refine ⟨by show decide (n.depth ≤ 8) = true; exact decide_eq_true (by omega), ?_⟩
    rw [List.all_eq_true]
    intro q hq
    rcases hl q hq with ⟨b, _, e⟩ | ⟨q', h, _⟩
    · rw [e, Ky.scl, Ky.scl]; simp
    · cases h
  · refine ht a _ ⟨true, rfl, fun _ => ?_, fun h => by cases h⟩
    obtain ⟨r, h1, h2⟩ := he a ha
    obtain ⟨s, h3, h4⟩ := hv a ha
    refine h1 _ (h2 _ (h3 _ (h4 _ ?_)))
    rw [hw]; exact k1 rfl
  · rw [hb, List.filter_eq_self.mpr (fun _ _ => rfl)]
    have : xs.foldl (fun l a => putD l (enc (gk a)) (enc (gv a))) [] = encKV (ptAll (xs.map fun x => (gk x, gv x))) := by
      have := encKV_foldl (xs.map fun x => (gk x, gv x)) []
      rw [List.map_map, List.foldl_map] at this
      exact this
    rw [this]; exact q⟩
theorem ev_dcompA {α κ ν : Type} {_ : En α} {_ : En κ} {_ : En ν} {vs : List Nat} {tg : Tg} {it ek ev : IE} {xs : List α} {gk : α → κ} {gv : α → ν} {T : α → PEnv} (i1 : DecidableEq κ) (i2 : Dt κ) (i3 : Ky κ) (hp : ρ.plainAt vs = true) (hi : EvI C true it ρ (xs.map enc) ρ1)
    (ht : ∀ x, TgR tg (enc x) (ρ1.wipe vs) (T x)) (hw : ∀ x, (T x).wipe vs = ρ1.wipe vs) (hb : ρ1.back (ρ1.wipe vs) vs = ρ1) (he : ∀ x ∈ xs, EvK C ek (T x) (enc (gk x)) (T x)) (hv : ∀ x ∈ xs, EvK C ev (T x) (enc (gv x)) (T x)) (hd : Ky.kd κ ≤ 8) :
    Ev C (.dcomp vs tg it (.cst (.bl true)) ek ev) ρ (.owd (encKV (ptAll (xs.map fun x => (gk x, gv x))))) ρ1 := ev_dcompAG hp hi ht hw hb he hv hd
end PL
namespace PL
open PySem PySem.Spec PyProof.Rows L2
open En
section
variable {α β : Type} [En α] [DecidableEq α] [Dt α]
theorem bin_add {i j : Int} : BinR .add (.int i) (.int j) (.val (.int (i + j))) := fun _ q => q
theorem bin_sub {i j : Int} : BinR .sub (.int i) (.int j) (.val (.int (i - j))) := fun _ q => q
theorem bin_mul {i j : Int} (h : CMul i j) : BinR .mul (.int i) (.int j) (.val (.int (i * j))) := fun _ q => ⟨h, q⟩
theorem bin_fdiv {i j : Int} (h : CDivN i j) : BinR .fdiv (.int i) (.int j) (.val (.int (i.fdiv j))) := fun _ q => ⟨h, q⟩
theorem bin_mod {i j : Int} (h : j ≠ 0) : BinR .mod (.int i) (.int j) (.val (.int (i.fmod j))) := fun _ q => ⟨h, q⟩
theorem bin_addT {β : Type} [En β] {xs ys : List β} (h : xs.length + ys.length ≤ sizeLine) : BinR .add (.tup (xs.map enc)) (.tup (ys.map enc)) (.val (.tup ((xs ++ ys).map enc))) := fun _ q => ⟨by rw [List.length_map, List.length_map]; exact h, by rw [List.map_append] at q; exact q⟩
theorem bin_addT1 {β : Type} [En β] {xs : List β} {y : β} (h : xs.length + 1 ≤ sizeLine) : BinR .add (.tup (xs.map enc)) (.tup [enc y]) (.val (.tup ((xs ++ [y]).map enc))) := fun _ q => ⟨by rw [List.length_map]; exact h, by rw [List.map_append] at q; exact q⟩
theorem bin_addL {β : Type} [En β] {xs ys : List β} (h : xs.length + ys.length ≤ sizeLine) : BinR .add (.lst (xs.map enc)) (.lst (ys.map enc)) (.own ((xs ++ ys).map enc)) := fun _ q => ⟨by rw [List.length_map, List.length_map]; exact h, by rw [List.map_append] at q; exact q⟩
theorem bin_addL0 {β : Type} [En β] {xs : List β} (h : xs.length ≤ sizeLine) : BinR .add (.lst (xs.map enc)) (.lst []) (.own (xs.map enc)) := fun _ q => ⟨by rw [List.length_map, List.length_nil]; exact h, by rw [List.append_nil]; exact q⟩
theorem bin_addL1 {β : Type} [En β] {xs : List β} {y : β} (h : xs.length + 1 ≤ sizeLine) : BinR .add (.lst (xs.map enc)) (.lst [enc y]) (.own ((xs ++ [y]).map enc)) := fun _ q => ⟨by rw [List.length_map]; exact h, by rw [List.map_append] at q; exact q⟩
theorem bin_repT {β : Type} [En β] {x : β} {k : Nat} (h : 1 ≤ k ∧ k ≤ 1000) : BinR .mul (.tup [enc x]) (.int (k : Nat)) (.val (.tup ((List.replicate k x).map enc))) := fun _ q => by
  refine ⟨⟨by omega, by omega, by show 1 ≤ 1000; decide⟩, ?_⟩
  have : (List.replicate ((k : Nat) : Int).toNat [enc x]).flatten = (List.replicate k x).map enc := by
    rw [Int.toNat_natCast]
    induction k with
    | zero => rfl
    | succ k ih => simp [List.replicate_succ]
  rw [this]; exact q
theorem bin_repL {β : Type} [En β] {x : β} {k : Nat} (h : k ≤ 1000) : BinR .mul (.lst [enc x]) (.int (k : Nat)) (.own ((List.replicate k x).map enc)) := fun _ q => by
  refine ⟨⟨by omega, by omega, ?_⟩, ?_⟩
  · have := sizeLine_eq
    simp; omega
  · have e : (List.replicate (k : Int).toNat [enc x]).flatten = (List.replicate k x).map enc := by
      simp [List.map_replicate, List.flatten_replicate_singleton]
    rw [e]; exact q
theorem cmp_lt {i j : Int} : CmpR .lt (.int i) (.int j) (decide (i < j)) := fun _ q => q
theorem cmp_le {i j : Int} : CmpR .le (.int i) (.int j) (decide (i ≤ j)) := fun _ q => q
theorem cmp_gt {i j : Int} : CmpR .gt (.int i) (.int j) (decide (j < i)) := fun _ q => q
theorem cmp_ge {i j : Int} : CmpR .ge (.int i) (.int j) (decide (j ≤ i)) := fun _ q => q
theorem bin_addN {i j : Nat} : BinR .add (.int (i : Nat)) (.int (j : Nat)) (.val (.int ((i + j : Nat) : Int))) := fun _ q => q
theorem dec_iff {p q : Prop} [Decidable p] [Decidable q] (h : p ↔ q) : decide p = decide q := by
  by_cases hp : p
  · rw [decide_eq_true hp, decide_eq_true (h.mp hp)]
  · rw [decide_eq_false hp, decide_eq_false fun hq => hp (h.mpr hq)]
theorem cmp_ltN {i j : Nat} : CmpR .lt (.int (i : Nat)) (.int (j : Nat)) (decide (i < j)) := fun Q q => by show Q _; rw [dec_iff (Int.ofNat_lt (n := i) (m := j))]; exact q
theorem cmp_leN {i j : Nat} : CmpR .le (.int (i : Nat)) (.int (j : Nat)) (decide (i ≤ j)) := fun Q q => by show Q _; rw [dec_iff (Int.ofNat_le (m := i) (n := j))]; exact q
theorem cmp_gtN {i j : Nat} : CmpR .gt (.int (i : Nat)) (.int (j : Nat)) (decide (j < i)) := fun Q q => by show Q _; rw [dec_iff (Int.ofNat_lt (n := j) (m := i))]; exact q
theorem cmp_geN {i j : Nat} : CmpR .ge (.int (i : Nat)) (.int (j : Nat)) (decide (j ≤ i)) := fun Q q => by show Q _; rw [dec_iff (Int.ofNat_le (m := j) (n := i))]; exact q
theorem cmp_eqN {i j : Nat} : CmpR .eq (.int (i : Nat)) (.int (j : Nat)) (decide (i = j)) := fun Q q => by show Q _; rw [dec_iff (Int.ofNat_inj (m := i) (n := j))]; exact q
theorem cmp_neN {i j : Nat} : CmpR .ne (.int (i : Nat)) (.int (j : Nat)) (!decide (i = j)) := fun Q q => by show Q _; rw [dec_iff (Int.ofNat_inj (m := i) (n := j))]; exact q
theorem cmp_eqN0 {i : Nat} : CmpR .eq (.int (i : Nat)) (.int 0) (decide (i = 0)) := fun Q q => by show Q (decide ((i : Int) = 0)); rw [dec_iff (show ((i : Int) = 0) ↔ (i = 0) by omega)]; exact q
theorem cmp_ltN0 {i : Nat} : CmpR .lt (.int (i : Nat)) (.int 0) (decide (i < 0)) := fun Q q => by show Q (decide ((i : Int) < 0)); rw [dec_iff (show ((i : Int) < 0) ↔ (i < 0) by omega)]; exact q
theorem cmp_leN0 {i : Nat} : CmpR .le (.int (i : Nat)) (.int 0) (decide (i ≤ 0)) := fun Q q => by show Q (decide ((i : Int) ≤ 0)); rw [dec_iff (show ((i : Int) ≤ 0) ↔ (i ≤ 0) by omega)]; exact q
theorem cmp_gtN0 {i : Nat} : CmpR .gt (.int (i : Nat)) (.int 0) (decide (0 < i)) := fun Q q => by show Q (decide ((0 : Int) < (i : Int))); rw [dec_iff (show ((0 : Int) < (i : Int)) ↔ (0 < i) by omega)]; exact q
theorem cmp_geN0 {i : Nat} : CmpR .ge (.int (i : Nat)) (.int 0) (decide (0 ≤ i)) := fun Q q => by show Q (decide ((0 : Int) ≤ (i : Int))); rw [dec_iff (show ((0 : Int) ≤ (i : Int)) ↔ (0 ≤ i) by omega)]; exact q
theorem cmp_neN0 {i : Nat} : CmpR .ne (.int (i : Nat)) (.int 0) (!decide (i = 0)) := fun Q q => by show Q (!(decide ((i : Int) = 0))); rw [dec_iff (show ((i : Int) = 0) ↔ (i = 0) by omega)]; exact q
theorem cmp_eqN1 {i : Nat} : CmpR .eq (.int (i : Nat)) (.int 1) (decide (i = 1)) := fun Q q => by show Q (decide ((i : Int) = 1)); rw [dec_iff (show ((i : Int) = 1) ↔ (i = 1) by omega)]; exact q
theorem cmp_ltN1 {i : Nat} : CmpR .lt (.int (i : Nat)) (.int 1) (decide (i < 1)) := fun Q q => by show Q (decide ((i : Int) < 1)); rw [dec_iff (show ((i : Int) < 1) ↔ (i < 1) by omega)]; exact q
theorem cmp_leN1 {i : Nat} : CmpR .le (.int (i : Nat)) (.int 1) (decide (i ≤ 1)) := fun Q q => by show Q (decide ((i : Int) ≤ 1)); rw [dec_iff (show ((i : Int) ≤ 1) ↔ (i ≤ 1) by omega)]; exact q
theorem cmp_gtN1 {i : Nat} : CmpR .gt (.int (i : Nat)) (.int 1) (decide (1 < i)) := fun Q q => by show Q (decide ((1 : Int) < (i : Int))); rw [dec_iff (show ((1 : Int) < (i : Int)) ↔ (1 < i) by omega)]; exact q
theorem cmp_geN1 {i : Nat} : CmpR .ge (.int (i : Nat)) (.int 1) (decide (1 ≤ i)) := fun Q q => by show Q (decide ((1 : Int) ≤ (i : Int))); rw [dec_iff (show ((1 : Int) ≤ (i : Int)) ↔ (1 ≤ i) by omega)]; exact q
theorem cmp_neN1 {i : Nat} : CmpR .ne (.int (i : Nat)) (.int 1) (!decide (i = 1)) := fun Q q => by show Q (!(decide ((i : Int) = 1))); rw [dec_iff (show ((i : Int) = 1) ↔ (i = 1) by omega)]; exact q
theorem cmp_eqN2 {i : Nat} : CmpR .eq (.int (i : Nat)) (.int 2) (decide (i = 2)) := fun Q q => by show Q (decide ((i : Int) = 2)); rw [dec_iff (show ((i : Int) = 2) ↔ (i = 2) by omega)]; exact q
theorem cmp_ltN2 {i : Nat} : CmpR .lt (.int (i : Nat)) (.int 2) (decide (i < 2)) := fun Q q => by show Q (decide ((i : Int) < 2)); rw [dec_iff (show ((i : Int) < 2) ↔ (i < 2) by omega)]; exact q
theorem cmp_leN2 {i : Nat} : CmpR .le (.int (i : Nat)) (.int 2) (decide (i ≤ 2)) := fun Q q => by show Q (decide ((i : Int) ≤ 2)); rw [dec_iff (show ((i : Int) ≤ 2) ↔ (i ≤ 2) by omega)]; exact q
theorem cmp_gtN2 {i : Nat} : CmpR .gt (.int (i : Nat)) (.int 2) (decide (2 < i)) := fun Q q => by show Q (decide ((2 : Int) < (i : Int))); rw [dec_iff (show ((2 : Int) < (i : Int)) ↔ (2 < i) by omega)]; exact q
theorem cmp_geN2 {i : Nat} : CmpR .ge (.int (i : Nat)) (.int 2) (decide (2 ≤ i)) := fun Q q => by show Q (decide ((2 : Int) ≤ (i : Int))); rw [dec_iff (show ((2 : Int) ≤ (i : Int)) ↔ (2 ≤ i) by omega)]; exact q
theorem cmp_neN2 {i : Nat} : CmpR .ne (.int (i : Nat)) (.int 2) (!decide (i = 2)) := fun Q q => by show Q (!(decide ((i : Int) = 2))); rw [dec_iff (show ((i : Int) = 2) ↔ (i = 2) by omega)]; exact q
theorem cmp_eqN3 {i : Nat} : CmpR .eq (.int (i : Nat)) (.int 3) (decide (i = 3)) := fun Q q => by show Q (decide ((i : Int) = 3)); rw [dec_iff (show ((i : Int) = 3) ↔ (i = 3) by omega)]; exact q
theorem cmp_ltN3 {i : Nat} : CmpR .lt (.int (i : Nat)) (.int 3) (decide (i < 3)) := fun Q q => by show Q (decide ((i : Int) < 3)); rw [dec_iff (show ((i : Int) < 3) ↔ (i < 3) by omega)]; exact q
theorem cmp_leN3 {i : Nat} : CmpR .le (.int (i : Nat)) (.int 3) (decide (i ≤ 3)) := fun Q q => by show Q (decide ((i : Int) ≤ 3)); rw [dec_iff (show ((i : Int) ≤ 3) ↔ (i ≤ 3) by omega)]; exact q
theorem cmp_gtN3 {i : Nat} : CmpR .gt (.int (i : Nat)) (.int 3) (decide (3 < i)) := fun Q q => by show Q (decide ((3 : Int) < (i : Int))); rw [dec_iff (show ((3 : Int) < (i : Int)) ↔ (3 < i) by omega)]; exact q
theorem cmp_geN3 {i : Nat} : CmpR .ge (.int (i : Nat)) (.int 3) (decide (3 ≤ i)) := fun Q q => by show Q (decide ((3 : Int) ≤ (i : Int))); rw [dec_iff (show ((3 : Int) ≤ (i : Int)) ↔ (3 ≤ i) by omega)]; exact q
theorem cmp_neN3 {i : Nat} : CmpR .ne (.int (i : Nat)) (.int 3) (!decide (i = 3)) := fun Q q => by show Q (!(decide ((i : Int) = 3))); rw [dec_iff (show ((i : Int) = 3) ↔ (i = 3) by omega)]; exact q
theorem cmp_eqN4 {i : Nat} : CmpR .eq (.int (i : Nat)) (.int 4) (decide (i = 4)) := fun Q q => by show Q (decide ((i : Int) = 4)); rw [dec_iff (show ((i : Int) = 4) ↔ (i = 4) by omega)]; exact q
theorem cmp_ltN4 {i : Nat} : CmpR .lt (.int (i : Nat)) (.int 4) (decide (i < 4)) := fun Q q => by show Q (decide ((i : Int) < 4)); rw [dec_iff (show ((i : Int) < 4) ↔ (i < 4) by omega)]; exact q
theorem cmp_leN4 {i : Nat} : CmpR .le (.int (i : Nat)) (.int 4) (decide (i ≤ 4)) := fun Q q => by show Q (decide ((i : Int) ≤ 4)); rw [dec_iff (show ((i : Int) ≤ 4) ↔ (i ≤ 4) by omega)]; exact q
theorem cmp_gtN4 {i : Nat} : CmpR .gt (.int (i : Nat)) (.int 4) (decide (4 < i)) := fun Q q => by show Q (decide ((4 : Int) < (i : Int))); rw [dec_iff (show ((4 : Int) < (i : Int)) ↔ (4 < i) by omega)]; exact q
theorem cmp_geN4 {i : Nat} : CmpR .ge (.int (i : Nat)) (.int 4) (decide (4 ≤ i)) := fun Q q => by show Q (decide ((4 : Int) ≤ (i : Int))); rw [dec_iff (show ((4 : Int) ≤ (i : Int)) ↔ (4 ≤ i) by omega)]; exact q
theorem cmp_neN4 {i : Nat} : CmpR .ne (.int (i : Nat)) (.int 4) (!decide (i = 4)) := fun Q q => by show Q (!(decide ((i : Int) = 4))); rw [dec_iff (show ((i : Int) = 4) ↔ (i = 4) by omega)]; exact q
theorem cmp_eqN5 {i : Nat} : CmpR .eq (.int (i : Nat)) (.int 5) (decide (i = 5)) := fun Q q => by show Q (decide ((i : Int) = 5)); rw [dec_iff (show ((i : Int) = 5) ↔ (i = 5) by omega)]; exact q
theorem cmp_ltN5 {i : Nat} : CmpR .lt (.int (i : Nat)) (.int 5) (decide (i < 5)) := fun Q q => by show Q (decide ((i : Int) < 5)); rw [dec_iff (show ((i : Int) < 5) ↔ (i < 5) by omega)]; exact q
theorem cmp_leN5 {i : Nat} : CmpR .le (.int (i : Nat)) (.int 5) (decide (i ≤ 5)) := fun Q q => by show Q (decide ((i : Int) ≤ 5)); rw [dec_iff (show ((i : Int) ≤ 5) ↔ (i ≤ 5) by omega)]; exact q
theorem cmp_gtN5 {i : Nat} : CmpR .gt (.int (i : Nat)) (.int 5) (decide (5 < i)) := fun Q q => by show Q (decide ((5 : Int) < (i : Int))); rw [dec_iff (show ((5 : Int) < (i : Int)) ↔ (5 < i) by omega)]; exact q
theorem cmp_geN5 {i : Nat} : CmpR .ge (.int (i : Nat)) (.int 5) (decide (5 ≤ i)) := fun Q q => by show Q (decide ((5 : Int) ≤ (i : Int))); rw [dec_iff (show ((5 : Int) ≤ (i : Int)) ↔ (5 ≤ i) by omega)]; exact q
theorem cmp_neN5 {i : Nat} : CmpR .ne (.int (i : Nat)) (.int 5) (!decide (i = 5)) := fun Q q => by show Q (!(decide ((i : Int) = 5))); rw [dec_iff (show ((i : Int) = 5) ↔ (i = 5) by omega)]; exact q
theorem bin_addN1 {i : Nat} : BinR .add (.int (i : Nat)) (.int 1) (.val (.int ((i + 1 : Nat) : Int))) := fun _ q => q
theorem bin_add1N {i : Nat} : BinR .add (.int 1) (.int (i : Nat)) (.val (.int ((1 + i : Nat) : Int))) := fun Q q => by show Q (.val (.int (1 + (i : Int)))); rw [show (1 + (i : Int)) = ((1 + i : Nat) : Int) by omega]; exact q
theorem cmp_eqI {i j : Int} : CmpR .eq (.int i) (.int j) (decide (i = j)) := fun _ q => q
theorem cmp_neI {i j : Int} : CmpR .ne (.int i) (.int j) (!decide (i = j)) := fun _ q => q
theorem cmp_eqS {i j : Str} : CmpR .eq (.str i) (.str j) (decide (i = j)) := fun _ q => q
theorem cmp_neS {i j : Str} : CmpR .ne (.str i) (.str j) (!decide (i = j)) := fun _ q => q
theorem cmp_eqB {i j : Bool} : CmpR .eq (.bl i) (.bl j) (decide (i = j)) := fun _ q => q
theorem cmp_neB {i j : Bool} : CmpR .ne (.bl i) (.bl j) (!decide (i = j)) := fun _ q => q
theorem cmp_eqE {a b : α} (h : Dt.dep α ≤ 50 := by decide) : CmpR .eq (enc a) (enc b) (decide (a = b)) := fun _ q => eqP_of (shp_enc a h) (shp_enc b h) (by rw [Dt.eqv]; exact q)
theorem cmp_neE {a b : α} (h : Dt.dep α ≤ 50 := by decide) : CmpR .ne (enc a) (enc b) (!decide (a = b)) := fun Q q => eqP_of (Q := fun r => Q (!r)) (shp_enc a h) (shp_enc b h) (by rw [Dt.eqv]; exact q)
theorem cmp_eqT {xs ys : List α} (h : Dt.dep α ≤ 40 := by decide) : CmpR .eq (.tup (xs.map enc)) (.tup (ys.map enc)) (decide (xs = ys)) := cmp_eqE (a := xs) (b := ys) (by show Dt.dep α + 1 ≤ 50; omega)
theorem cmp_neT {xs ys : List α} (h : Dt.dep α ≤ 40 := by decide) : CmpR .ne (.tup (xs.map enc)) (.tup (ys.map enc)) (!decide (xs = ys)) := cmp_neE (a := xs) (b := ys) (by show Dt.dep α + 1 ≤ 50; omega)
theorem cmp_eqT1 {xs : List α} {y : α} (h : Dt.dep α ≤ 40 := by decide) : CmpR .eq (.tup (xs.map enc)) (.tup [enc y]) (decide (xs = [y])) := cmp_eqT (ys := [y]) h
theorem cmp_eqT0 {xs : List α} (h : Dt.dep α ≤ 40 := by decide) : CmpR .eq (.tup (xs.map enc)) (.tup []) (decide (xs = [])) := cmp_eqT (ys := []) h
theorem cmp_eqL {xs ys : List α} (h : Dt.dep α ≤ 40 := by decide) : CmpR .eq (.lst (xs.map enc)) (.lst (ys.map enc)) (decide (xs = ys)) := fun Q q => by
  have := cmp_eqE (a := Ls.mk xs) (b := Ls.mk ys) (by show Dt.dep α + 1 ≤ 50; omega) Q
  refine this ?_
  have e : decide (Ls.mk xs = Ls.mk ys) = decide (xs = ys) := by congr 1; simp
  rw [e]; exact q
theorem cmp_neL {xs ys : List α} (h : Dt.dep α ≤ 40 := by decide) : CmpR .ne (.lst (xs.map enc)) (.lst (ys.map enc)) (!decide (xs = ys)) := fun Q q => cmp_eqL (xs := xs) (ys := ys) h (fun r => Q (!r)) q
theorem dec_any {p : Prop} [i : Decidable p] {j : Decidable p} : @decide p j = @decide p i := by congr
theorem inE {a : α} {xs : List α} [dI : Decidable (a ∈ xs)] (h : Dt.dep α ≤ 40) (Q : Bool → Prop) (q : Q (decide (a ∈ xs))) : inP (enc a) (.tup (xs.map enc)) Q := ⟨⟨shp_enc a (by omega), shp_tupE xs (by omega)⟩, by show Q ((xs.map enc).any fun z => deq z (enc a)); rw [anyE, dec_any]; exact q⟩
theorem inEL {a : α} {xs : List α} [dI : Decidable (a ∈ xs)] (h : Dt.dep α ≤ 40) (Q : Bool → Prop) (q : Q (decide (a ∈ xs))) : inP (enc a) (.lst (xs.map enc)) Q := ⟨⟨shp_enc a (by omega), shp_lstE xs (by omega)⟩, by show Q ((xs.map enc).any fun z => deq z (enc a)); rw [anyE, dec_any]; exact q⟩
theorem cmp_inT {a : α} {xs : List α} [Decidable (a ∈ xs)] (h : Dt.dep α ≤ 40 := by decide) : CmpR .isin (enc a) (.tup (xs.map enc)) (decide (a ∈ xs)) := fun Q q => inE h Q q
theorem cmp_ninT {a : α} {xs : List α} [Decidable (a ∈ xs)] (h : Dt.dep α ≤ 40 := by decide) : CmpR .notin (enc a) (.tup (xs.map enc)) (!decide (a ∈ xs)) := fun Q q => inE h (fun r => Q (!r)) q
theorem cmp_inL {a : α} {xs : List α} [Decidable (a ∈ xs)] (h : Dt.dep α ≤ 40 := by decide) : CmpR .isin (enc a) (.lst (xs.map enc)) (decide (a ∈ xs)) := fun Q q => inEL h Q q
theorem cmp_ninL {a : α} {xs : List α} [Decidable (a ∈ xs)] (h : Dt.dep α ≤ 40 := by decide) : CmpR .notin (enc a) (.lst (xs.map enc)) (!decide (a ∈ xs)) := fun Q q => inEL h (fun r => Q (!r)) q
theorem cmp_inI {i : Int} {xs : List Int} : CmpR .isin (.int i) (.tup (xs.map enc)) (decide (i ∈ xs)) := cmp_inT (a := i)
theorem cmp_ninI {i : Int} {xs : List Int} : CmpR .notin (.int i) (.tup (xs.map enc)) (!decide (i ∈ xs)) := cmp_ninT (a := i)
section
variable {β : Type} [En β] [DecidableEq β] [Dt β]
theorem cmp_inTp {a : α} {b : β} {xs : List (α × β)} [Decidable ((a, b) ∈ xs)] (h : Dt.dep (α × β) ≤ 40 := by decide) : CmpR .isin (.tup [enc a, enc b]) (.tup (xs.map enc)) (decide ((a, b) ∈ xs)) := cmp_inT (a := (a, b)) h
theorem cmp_ninTp {a : α} {b : β} {xs : List (α × β)} [Decidable ((a, b) ∈ xs)] (h : Dt.dep (α × β) ≤ 40 := by decide) : CmpR .notin (.tup [enc a, enc b]) (.tup (xs.map enc)) (!decide ((a, b) ∈ xs)) := cmp_ninT (a := (a, b)) h
theorem cmp_inLp {a : α} {b : β} {xs : List (α × β)} [Decidable ((a, b) ∈ xs)] (h : Dt.dep (α × β) ≤ 40 := by decide) : CmpR .isin (.tup [enc a, enc b]) (.lst (xs.map enc)) (decide ((a, b) ∈ xs)) := cmp_inL (a := (a, b)) h
theorem cmp_ninLp {a : α} {b : β} {xs : List (α × β)} [Decidable ((a, b) ∈ xs)] (h : Dt.dep (α × β) ≤ 40 := by decide) : CmpR .notin (.tup [enc a, enc b]) (.lst (xs.map enc)) (!decide ((a, b) ∈ xs)) := cmp_ninL (a := (a, b)) h
end
theorem dec_nat {i : Int} {xs : List Nat} : ((xs.map enc).any fun z => deq z (.int i)) = decide (0 ≤ i ∧ i.toNat ∈ xs) := by
  rw [List.any_map, Bool.eq_iff_iff, List.any_eq_true, decide_eq_true_eq]
  constructor
  · rintro ⟨x, hx, h⟩
    have h : deq (.int (x : Nat)) (.int i) = true := h
    rw [deq_int, decide_eq_true_eq] at h
    subst h
    exact ⟨by omega, by simpa using hx⟩
  · rintro ⟨h0, h1⟩
    refine ⟨i.toNat, h1, ?_⟩
    show deq (.int (i.toNat : Nat)) (.int i) = true
    rw [deq_int, decide_eq_true_eq]; omega
theorem cmp_inN {i : Int} {xs : List Nat} : CmpR .isin (.int i) (.tup (xs.map enc)) (decide (0 ≤ i ∧ i.toNat ∈ xs)) := fun Q q => ⟨⟨rfl, shp_tupE xs⟩, by show Q ((xs.map enc).any fun z => deq z (.int i)); rw [dec_nat]; exact q⟩
theorem cmp_ninN {i : Int} {xs : List Nat} : CmpR .notin (.int i) (.tup (xs.map enc)) (!decide (0 ≤ i ∧ i.toNat ∈ xs)) := fun Q q => ⟨⟨rfl, shp_tupE xs⟩, by show Q (!((xs.map enc).any fun z => deq z (.int i))); rw [dec_nat]; exact q⟩
section
variable {κ ν : Type} [En κ] [DecidableEq κ] [Dt κ] [Ky κ] [En ν]
theorem cmp_inD {a : κ} {kvs : List (κ × ν)} [Decidable (a ∈ kvs.map (·.1))] (h : Ky.kd κ ≤ 8 := by decide) : CmpR .isin (enc a) (.dct (encKV kvs)) (decide (a ∈ kvs.map (·.1))) := fun Q q => ⟨keyOkE kvs a h, by rw [anyKE, dec_any]; exact q⟩
theorem cmp_ninD {a : κ} {kvs : List (κ × ν)} [Decidable (a ∈ kvs.map (·.1))] (h : Ky.kd κ ≤ 8 := by decide) : CmpR .notin (enc a) (.dct (encKV kvs)) (!decide (a ∈ kvs.map (·.1))) := fun Q q => ⟨keyOkE kvs a h, by rw [anyKE, dec_any]; exact q⟩
theorem idx_D {a : κ} {v : ν} {kvs : List (κ × ν)} (hv : lk kvs a = some v) (h : Ky.kd κ ≤ 8 := by decide) : IdxR (.dct (encKV kvs)) (enc a) (enc v) := fun Q q => ⟨keyOkE kvs a h, enc v, by rw [lookE, hv]; rfl, q⟩
end
theorem cmp_isN {a : D} : CmpR .is a .non (isNon a) := fun _ q => q
theorem cmp_isnN {a : D} : CmpR .isnot a .non (!isNon a) := fun _ q => q
theorem cmp_isB {i j : Bool} : CmpR .is (.bl i) (.bl j) (decide (i = j)) := fun _ q => q
theorem cmp_isnB {i j : Bool} : CmpR .isnot (.bl i) (.bl j) (!decide (i = j)) := fun _ q => q
theorem cmp_ltT [Od α] {xs ys : List α} (h : Dt.dep α ≤ 40 := by decide) : CmpR .lt (.tup (xs.map enc)) (.tup (ys.map enc)) (ltL xs ys) := fun Q q => ⟨⟨⟨shp_tupE xs (by omega), shp_tupE ys (by omega)⟩, by rw [ltD, ltDsE]; rfl⟩, by rw [ltD, ltDsE]; exact q⟩
theorem atI_map {β : Type} (f : β → D) {xs : List β} {i : Nat} {b : β} (h : xs[i]? = some b) : atI (xs.map f) (i : Nat) = some (f b) := atI_nat (by rw [List.getElem?_map, h]; rfl)
theorem getD_some {β : Type} {xs : List β} {i : Nat} {z : β} (h : i < xs.length) : xs[i]? = some (xs.getD i z) := by
  rw [List.getD_eq_getElem?_getD, List.getElem?_eq_getElem h]; rfl
theorem idx_T {β : Type} [En β] [Inhabited β] {xs : List β} {i : Nat} (h : i < xs.length) : IdxR (.tup (xs.map enc)) (.int (i : Nat)) (enc (xs.getD i default)) := fun Q q => ⟨_, atI_map enc (getD_some h), q⟩
theorem idx_L {β : Type} [En β] [Inhabited β] {xs : List β} {i : Nat} (h : i < xs.length) : IdxR (.lst (xs.map enc)) (.int (i : Nat)) (enc (xs.getD i default)) := fun Q q => ⟨_, atI_map enc (getD_some h), q⟩
theorem idx_0T {β : Type} [En β] [Inhabited β] {xs : List β} (h : xs ≠ []) : IdxR (.tup (xs.map enc)) (.int 0) (enc (xs.headD default)) := fun Q q => by
  cases xs with
  | nil => exact absurd rfl h
  | cons x xs => exact ⟨enc x, (atI_nat (j := 0) (show (enc x :: xs.map enc)[0]? = some (enc x) from rfl) : atI (enc x :: xs.map enc) ((0 : Nat) : Int) = some (enc x)), q⟩
theorem idx_0L {β : Type} [En β] [Inhabited β] {xs : List β} (h : xs ≠ []) : IdxR (.lst (xs.map enc)) (.int 0) (enc (xs.headD default)) := fun Q q => by
  cases xs with
  | nil => exact absurd rfl h
  | cons x xs => exact ⟨enc x, (atI_nat (j := 0) (show (enc x :: xs.map enc)[0]? = some (enc x) from rfl) : atI (enc x :: xs.map enc) ((0 : Nat) : Int) = some (enc x)), q⟩
theorem idx_IT {β : Type} [En β] [Inhabited β] {xs : List β} {i : Int} (h : 0 ≤ i ∧ i.toNat < xs.length) : IdxR (.tup (xs.map enc)) (.int i) (enc (xs.getD i.toNat default)) := fun Q q => by
  obtain ⟨n, rfl⟩ : ∃ n : Nat, i = n := ⟨i.toNat, by omega⟩
  exact idx_T (by simpa using h.2) Q q
theorem idx_IL {β : Type} [En β] [Inhabited β] {xs : List β} {i : Int} (h : 0 ≤ i ∧ i.toNat < xs.length) : IdxR (.lst (xs.map enc)) (.int i) (enc (xs.getD i.toNat default)) := fun Q q => by
  obtain ⟨n, rfl⟩ : ∃ n : Nat, i = n := ⟨i.toNat, by omega⟩
  exact idx_L (by simpa using h.2) Q q
theorem atI_last {xs : List D} {d : D} (h : xs.getLast? = some d) : atI xs (-1) = some d := by
  have hn : xs ≠ [] := fun e => by rw [e] at h; cases h
  have hl : 0 < xs.length := List.length_pos_iff.mpr hn
  unfold atI
  have e : ixN xs.length (-1) = some (xs.length - 1) := by
    unfold ixN
    simp
    omega
  rw [e]
  rw [List.getLast?_eq_getElem?] at h
  simpa using h
theorem idx_lastL {β : Type} [En β] [Inhabited β] {xs : List β} (h : xs ≠ []) : IdxR (.lst (xs.map enc)) (.int (-1)) (enc (xs.getLastD default)) := fun Q q => by
  refine ⟨enc (xs.getLastD default), atI_last ?_, q⟩
  rw [List.getLast?_map]
  cases xs with
  | nil => exact absurd rfl h
  | cons x xs => simp [List.getLastD_cons, List.getLast?_cons]
theorem idx_lastT {β : Type} [En β] [Inhabited β] {xs : List β} (h : xs ≠ []) : IdxR (.tup (xs.map enc)) (.int (-1)) (enc (xs.getLastD default)) := fun Q q => by
  refine ⟨enc (xs.getLastD default), atI_last ?_, q⟩
  rw [List.getLast?_map]
  cases xs with
  | nil => exact absurd rfl h
  | cons x xs => simp [List.getLastD_cons, List.getLast?_cons]
theorem idx_litL {xs : List D} {n : Nat} {d : D} (h : xs[n]? = some d) : IdxR (.lst xs) (.int (n : Nat)) d := fun Q q => ⟨d, atI_nat h, q⟩
theorem idx_litT {xs : List D} {n : Nat} {d : D} (h : xs[n]? = some d) : IdxR (.tup xs) (.int (n : Nat)) d := fun Q q => ⟨d, atI_nat h, q⟩
theorem cutL_map {β γ : Type} (f : β → γ) (xs : List β) (l h : Option Int) : cutL (xs.map f) l h = (cutL xs l h).map f := by
  unfold cutL
  rw [List.length_map, List.map_take, List.map_drop]
theorem slc_T {β : Type} [En β] {xs : List β} {l h : Option Int} : SlcR (.tup (xs.map enc)) l h (.val (.tup ((cutL xs l h).map enc))) := fun Q q => by show Q _; rw [cutL_map]; exact q
theorem slc_L {β : Type} [En β] {xs : List β} {l h : Option Int} : SlcR (.lst (xs.map enc)) l h (.own ((cutL xs l h).map enc)) := fun Q q => by show Q _; rw [cutL_map]; exact q
theorem rev_T {β : Type} [En β] {xs : List β} : ∀ Q : RV → Prop, Q (.val (.tup (xs.reverse.map enc))) → revP (.tup (xs.map enc)) Q := fun Q q => by show Q _; rw [← List.map_reverse]; exact q
theorem rev_L {β : Type} [En β] {xs : List β} : ∀ Q : RV → Prop, Q (.own (xs.reverse.map enc)) → revP (.lst (xs.map enc)) Q := fun Q q => by show Q _; rw [← List.map_reverse]; exact q
theorem tru_B {b : Bool} : TruR (.bl b) b := rfl
theorem tru_I {i : Int} : TruR (.int i) (i != 0) := rfl
theorem tru_N : TruR .non false := rfl
theorem tru_T {xs : List D} : TruR (.tup xs) (!xs.isEmpty) := rfl
theorem tru_L {xs : List D} : TruR (.lst xs) (!xs.isEmpty) := rfl
theorem blt_lenT {β : Type} [En β] {xs : List β} : BltR .len [.tup (xs.map enc)] (.val (.int (xs.length : Nat))) := fun Q q => by show Q (.val (.int (xs.map enc).length)); rw [List.length_map]; exact q
theorem blt_lenL {β : Type} [En β] {xs : List β} : BltR .len [.lst (xs.map enc)] (.val (.int (xs.length : Nat))) := fun Q q => by show Q (.val (.int (xs.map enc).length)); rw [List.length_map]; exact q
theorem blt_lenTr {xs : List D} : BltR .len [.tup xs] (.val (.int (xs.length : Nat))) := fun Q q => q
theorem blt_lenLr {xs : List D} : BltR .len [.lst xs] (.val (.int (xs.length : Nat))) := fun Q q => q
theorem blt_lenD {κ ν : Type} [En κ] [En ν] {kvs : List (κ × ν)} : BltR .len [.dct (encKV kvs)] (.val (.int (kvs.length : Nat))) := fun Q q => by show Q (.val (.int (encKV kvs).length)); unfold encKV; rw [List.length_map]; exact q
theorem blt_intI {i : Int} : BltR .int [.int i] (.val (.int i)) := fun _ q => q
theorem blt_intB {b : Bool} : BltR .int [.bl b] (.val (.int (if b then 1 else 0))) := fun _ q => q
theorem blt_tupL {xs : List D} : BltR .tuple [.lst xs] (.val (.tup xs)) := fun _ q => q
theorem blt_tupT {xs : List D} : BltR .tuple [.tup xs] (.val (.tup xs)) := fun _ q => q
theorem blt_tupR {n : Nat} (hz : n ≤ 16777216) : BltR .tuple [.rng 0 (n : Nat)] (.val (.tup ((List.range n).map enc))) := fun Q q => by
  refine ⟨by omega, ?_⟩
  rw [(Option.some.inj (itm_rng hz).1 : rngL 0 (n : Nat) = _)]; exact q
theorem blt_lstR {n : Nat} (hz : n ≤ 16777216) : BltR .list [.rng 0 (n : Nat)] (.own ((List.range n).map enc)) := fun Q q => by
  refine ⟨by omega, ?_⟩
  rw [(Option.some.inj (itm_rng hz).1 : rngL 0 (n : Nat) = _)]; exact q
theorem blt_lstL {xs : List D} : BltR .list [.lst xs] (.own xs) := fun _ q => q
theorem blt_lstT {xs : List D} : BltR .list [.tup xs] (.own xs) := fun _ q => q
theorem blt_lstD {κ ν : Type} [En κ] [En ν] {kvs : List (κ × ν)} : BltR .list [.dct (encKV kvs)] (.own ((kvs.map (·.1)).map enc)) := fun Q q => by show Q _; unfold encKV; rw [List.map_map] at q ⊢; exact q
theorem blt_rng1 {i : Int} (h : rngOk i) : BltR .range [.int i] (.val (.rng 0 i)) := fun Q q => ⟨h, q⟩
theorem blt_rngN {n : Nat} (h : n ≤ 16777216) : BltR .range [.int (n : Nat)] (.val (.rng 0 (n : Nat))) := fun Q q => ⟨⟨by omega, by omega⟩, q⟩
section
variable [Od α]
theorem blt_srtL {xs : List α} (h : Dt.dep α ≤ 50 := by decide) : BltR .sorted [.lst (xs.map enc)] (.own ((srt xs).map enc)) := fun Q q => ⟨sortable_enc xs h, by rw [sortD_enc]; exact q⟩
theorem blt_srtT {xs : List α} (h : Dt.dep α ≤ 50 := by decide) : BltR .sorted [.tup (xs.map enc)] (.own ((srt xs).map enc)) := fun Q q => ⟨sortable_enc xs h, by rw [sortD_enc]; exact q⟩
theorem blt_srtD {ν : Type} [En ν] {kvs : List (α × ν)} (h : Dt.dep α ≤ 50 := by decide) : BltR .sorted [.dct (encKV kvs)] (.own ((srt (kvs.map (·.1))).map enc)) := fun Q q => by
  have e : (encKV kvs).map (·.1) = (kvs.map (·.1)).map enc := by unfold encKV; rw [List.map_map, List.map_map]; rfl
  show sortP ((encKV kvs).map (·.1)) Q
  rw [e]
  exact ⟨sortable_enc _ h, by rw [sortD_enc]; exact q⟩
theorem blt_srtP {a b : α} (h : Dt.dep α ≤ 50 := by decide) : BltR .sorted [.tup [enc a, enc b]] (.own ((srt [a, b]).map enc)) := blt_srtT (xs := [a, b]) h
end
theorem ints_enc (xs : List Int) : ints? (xs.map enc) = some xs := by
  have := ints_mapf (fun x : Int => x) xs
  rw [List.map_id'] at this
  exact this
theorem ints_encN (xs : List Nat) : ints? (xs.map enc) = some (xs.map fun n => ((n : Nat) : Int)) := ints_mapf (fun x : Nat => ((x : Nat) : Int)) xs
theorem blt_minL {xs : List Int} (h : xs ≠ []) : BltR .min [.lst (xs.map enc)] (.val (.int (minL xs))) := fun Q q => .inl ⟨xs, ints_enc xs, h, q⟩
theorem blt_maxL {xs : List Int} (h : xs ≠ []) : BltR .max [.lst (xs.map enc)] (.val (.int (maxL xs))) := fun Q q => .inl ⟨xs, ints_enc xs, h, q⟩
theorem blt_minT {xs : List Int} (h : xs ≠ []) : BltR .min [.tup (xs.map enc)] (.val (.int (minL xs))) := fun Q q => .inl ⟨xs, ints_enc xs, h, q⟩
theorem blt_maxT {xs : List Int} (h : xs ≠ []) : BltR .max [.tup (xs.map enc)] (.val (.int (maxL xs))) := fun Q q => .inl ⟨xs, ints_enc xs, h, q⟩
def castN (xs : List Nat) : List Int := xs.map fun n => ((n : Nat) : Int)
theorem castN_ne {xs : List Nat} (h : xs ≠ []) : castN xs ≠ [] := fun e => h (List.map_eq_nil_iff.mp e)
theorem minL_mem : ∀ {xs : List Int}, xs ≠ [] → minL xs ∈ xs
  | [], h => absurd rfl h
  | x :: xs, _ => by
    show xs.foldl min x ∈ x :: xs
    have : ∀ (ys : List Int) (a : Int), ys.foldl min a = a ∨ ys.foldl min a ∈ ys := fun ys => by
      induction ys with
      | nil => intro a; exact .inl rfl
      | cons y ys ih =>
        intro a
        rw [List.foldl_cons]
        rcases ih (min a y) with h | h
        · rw [h]
          by_cases hh : a ≤ y
          · left; omega
          · right; rw [show min a y = y by omega]; exact List.mem_cons_self
        · exact .inr (List.mem_cons_of_mem _ h)
    rcases this xs x with h | h
    · rw [h]; exact List.mem_cons_self
    · exact List.mem_cons_of_mem _ h
theorem maxL_mem : ∀ {xs : List Int}, xs ≠ [] → maxL xs ∈ xs
  | [], h => absurd rfl h
  | x :: xs, _ => by
    show xs.foldl max x ∈ x :: xs
    have : ∀ (ys : List Int) (a : Int), ys.foldl max a = a ∨ ys.foldl max a ∈ ys := fun ys => by
      induction ys with
      | nil => intro a; exact .inl rfl
      | cons y ys ih =>
        intro a
        rw [List.foldl_cons]
        rcases ih (max a y) with h | h
        · rw [h]
          by_cases hh : y ≤ a
          · left; omega
          · right; rw [show max a y = y by omega]; exact List.mem_cons_self
        · exact .inr (List.mem_cons_of_mem _ h)
    rcases this xs x with h | h
    · rw [h]; exact List.mem_cons_self
    · exact List.mem_cons_of_mem _ h
theorem nat_of_mem {xs : List Nat} {i : Int} (h : i ∈ castN xs) : ∃ n : Nat, n ∈ xs ∧ i = n := by
  obtain ⟨n, h1, h2⟩ := List.mem_map.mp h
  exact ⟨n, h1, h2.symm⟩
def minN (xs : List Nat) : Nat := (minL (castN xs)).toNat
def maxN (xs : List Nat) : Nat := (maxL (castN xs)).toNat
theorem minN_cast {xs : List Nat} (h : xs ≠ []) : minL (castN xs) = (minN xs : Nat) := by
  obtain ⟨n, _, e⟩ := nat_of_mem (minL_mem (castN_ne h))
  unfold minN
  rw [e]; simp
theorem maxN_cast {xs : List Nat} (h : xs ≠ []) : maxL (castN xs) = (maxN xs : Nat) := by
  obtain ⟨n, _, e⟩ := nat_of_mem (maxL_mem (castN_ne h))
  unfold maxN
  rw [e]; simp
theorem blt_minLN {xs : List Nat} (h : xs ≠ []) : BltR .min [.lst (xs.map enc)] (.val (.int (minN xs : Nat))) := fun Q q => .inl ⟨_, ints_encN xs, castN_ne h, by rw [← minN_cast h] at q; exact q⟩
theorem blt_maxLN {xs : List Nat} (h : xs ≠ []) : BltR .max [.lst (xs.map enc)] (.val (.int (maxN xs : Nat))) := fun Q q => .inl ⟨_, ints_encN xs, castN_ne h, by rw [← maxN_cast h] at q; exact q⟩
theorem blt_minTN {xs : List Nat} (h : xs ≠ []) : BltR .min [.tup (xs.map enc)] (.val (.int (minN xs : Nat))) := fun Q q => .inl ⟨_, ints_encN xs, castN_ne h, by rw [← minN_cast h] at q; exact q⟩
theorem blt_maxTN {xs : List Nat} (h : xs ≠ []) : BltR .max [.tup (xs.map enc)] (.val (.int (maxN xs : Nat))) := fun Q q => .inl ⟨_, ints_encN xs, castN_ne h, by rw [← maxN_cast h] at q; exact q⟩
theorem blt_sumL {xs : List Int} : BltR .sum [.lst (xs.map enc)] (.val (.int xs.sum)) := fun Q q => ⟨xs, ints_enc xs, q⟩
theorem sum_cast : ∀ xs : List Nat, (castN xs).sum = ((xs.sum : Nat) : Int)
  | [] => rfl
  | x :: xs => by
    have := sum_cast xs
    unfold castN at *
    rw [List.map_cons, List.sum_cons, List.sum_cons, this]; omega
theorem blt_sumLN {xs : List Nat} : BltR .sum [.lst (xs.map enc)] (.val (.int (xs.sum : Nat))) := fun Q q => ⟨_, ints_encN xs, by rw [← sum_cast] at q; exact q⟩
theorem bls_enc : ∀ xs : List Bool, bls? (xs.map enc) = some xs
  | [] => rfl
  | x :: xs => by show (bls? (xs.map enc)).map (x :: ·) = _; rw [bls_enc xs]; rfl
theorem blt_any {xs : List Bool} : BltR .any [.lst (xs.map enc)] (.val (.bl (xs.any id))) := fun Q q => ⟨xs, bls_enc xs, q⟩
theorem blt_all {xs : List Bool} : BltR .all [.lst (xs.map enc)] (.val (.bl (xs.all id))) := fun Q q => ⟨xs, bls_enc xs, q⟩
theorem blt_abs {i : Int} : BltR .abs [.int i] (.val (.int (if i < 0 then -i else i))) := fun _ q => q
theorem blt_min2 {i j : Int} : BltR .min [.int i, .int j] (.val (.int (if j < i then j else i))) := fun _ q => q
theorem blt_max2 {i j : Int} : BltR .max [.int i, .int j] (.val (.int (if j > i then j else i))) := fun _ q => q
def ixo {β : Type} [DecidableEq β] (xs : List β) (a : β) : Nat := xs.findIdx fun z => decide (z = a)
theorem ixo_lt {β : Type} [DecidableEq β] {xs : List β} {a : β} (h : a ∈ xs) : ixo xs a < xs.length := List.findIdx_lt_length_of_exists ⟨a, h, by simp⟩
theorem find_ixo {β : Type} [DecidableEq β] {xs : List β} {a : β} (h : a ∈ xs) : xs.findIdx? (fun z => decide (z = a)) = some (ixo xs a) := by
  rw [List.findIdx?_eq_some_iff_findIdx_eq]
  exact ⟨ixo_lt h, rfl⟩
theorem mth_ixT {a : α} {xs : List α} (hm : a ∈ xs) (h : Dt.dep α ≤ 40 := by decide) : MthR .index (.tup (xs.map enc)) [enc a] (.val (.int (ixo xs a : Nat))) := ⟨rfl, fun Q q => ⟨⟨shp_enc a (by omega), shp_tupE xs (by omega)⟩, _, by rw [idxE, find_ixo hm], q⟩⟩
theorem mth_ixL {a : α} {xs : List α} (hm : a ∈ xs) (h : Dt.dep α ≤ 40 := by decide) : MthR .index (.lst (xs.map enc)) [enc a] (.val (.int (ixo xs a : Nat))) := ⟨rfl, fun Q q => ⟨⟨shp_enc a (by omega), shp_lstE xs (by omega)⟩, _, by rw [idxE, find_ixo hm], q⟩⟩
end
end PL
namespace PL
open PySem PySem.Spec PyProof.Rows L2
open En
def Rt (C : PC) (b : IS) (ρ : PEnv) (n : Nat) (r : RV) : Prop := ∀ E : PEnds, E.rt r n → wpS C b ρ E
def Bo (C : PC) (b : IS) (ρ : PEnv) (n : Nat) (o : Option RV) (P : PEnv → Prop) : Prop := ∀ E : PEnds, (∀ r, o = some r → E.rt r n) → (o = none → ∀ ρ', P ρ' → E.nx ρ') → (o = none → ∀ ρ', P ρ' → E.ct ρ') → wpS C b ρ E
def SlR (r : RV) (v : SV) : Prop := ∀ K : SV → Prop, K v → r.slot K
def As {α : Type} [En α] (d : D) (x : α) : Prop := d = enc x
variable {C : PC} {ρ ρ' ρ1 ρ2 ρ3 : PEnv} {r r' s t : RV} {d d' : D} {n : Nat}
theorem sl_val : SlR (.val d) (.val d) := fun _ h => h
theorem sl_own {xs : List D} : SlR (.own xs) (.own xs) := fun _ h => h
theorem sl_owd {xs : List (D × D)} : SlR (.owd xs) (.owd xs) := fun _ h => h
section
variable {α β γ : Type} {_ : En α} {_ : En β} {_ : En γ}
theorem as_enc {x : α} : As (enc x) x := rfl
theorem as_N {x : Nat} : As (.int (x : Nat)) x := rfl
theorem as_I {x : Int} : As (.int x) x := rfl
theorem as_B {x : Bool} : As (.bl x) x := rfl
theorem as_S {x : Str} : As (.str x) x := rfl
theorem as_T {xs : List α} : As (.tup (xs.map enc)) xs := rfl
theorem as_L {xs : List α} : As (.lst (xs.map enc)) (Ls.mk xs) := rfl
theorem as_T1 {x : α} (h : As d x) : As (.tup [d]) [x] := by cases h; rfl
theorem as_P {e : D} {x : α} {y : β} (h : As d x) (h' : As e y) : As (.tup [d, e]) (x, y) := by cases h; cases h'; rfl
theorem as_ite {k : Bool} {e : D} {x y : α} (h : As d x) (h' : As e y) : As (if k = true then d else e) (if k = true then x else y) := by cases h; cases h'; unfold As; split <;> rfl
theorem as_D : As d d := rfl
def ov : Option D → SV
  | none => .no
  | some d => .val d
def KpA {α : Type} [En α] (r : RV) (x : α) : Prop := Kp r (enc x)
theorem evk_gen {e : IE} {x : α} (h : Ev C e ρ r ρ') (k : KpA r x) : EvK C e ρ (enc x) ρ' := ⟨_, h, k⟩
theorem kpa_val {x : α} (a : As d x) : KpA (.val d) x := by cases a; exact kp_val
theorem kpa_own {xs : List α} : KpA (.own (xs.map enc)) (Ls.mk xs) := kp_own
end
theorem rt_ret {e : IE} (h : Ev C e ρ r' ρ') (hd : ρ'.dr = n) (he : r' = r) : Rt C (.ret e) ρ n r := fun E q => h _ (by show E.rt r' ρ'.dr; rw [hd, he]; exact q)
theorem rt_seqR {a b : IS} (h : Rt C a ρ n r) : Rt C (.seq a b) ρ n r := fun E q => h _ q
theorem rt_skip {b : IS} (h : Rt C b ρ n r) : Rt C (.seq .skip b) ρ n r := h
theorem rt_assoc {a b c : IS} (h : Rt C (.seq a (.seq b c)) ρ n r) : Rt C (.seq (.seq a b) c) ρ n r := h
theorem rt_asg {i : Nat} {e : IE} {b : IS} {v : SV} (h : Ev C e ρ r' ρ1) (hs : SlR r' v) (hb : Rt C b (ρ1.put i v) n r) : Rt C (.seq (.asg (.nm i) e) b) ρ n r := fun E q => h _ (hs _ (hb E q))
theorem rt_asgT {is : List Nat} {e : IE} {b : IS} (h : Ev C e ρ r' ρ1) (hk : Kp r' d) (ht : TgR (.tp is) d ρ1 ρ2) (hb : Rt C b ρ2 n r) : Rt C (.seq (.asg (.tp is) e) b) ρ n r := fun E q => h _ (hk _ (ht _ (hb E q)))
theorem rt_ifs {c : IE} {a a' b : IS} {k : Bool} (h : Ev C c ρ (.val (.bl k)) ρ1) (h1 : k = true → Rt C (.seq a b) ρ1 n r) (h2 : k = false → Rt C (.seq a' b) ρ1 n r) : Rt C (.seq (.ifs c a a') b) ρ n r := fun E q => h _ ⟨k, rfl, fun e => h1 e E q, fun e => h2 e E q⟩
theorem rt_aug {i : Nat} {e : IE} {b : IS} {x y : Int} (hx : ρ.get i = .val (.int x)) (h : Ev C e ρ r' ρ1) (hy : r'.toD = .int y) (hb : Rt C b (ρ1.put i (.val (.int (x + y)))) n r) : Rt C (.seq (.aug i e) b) ρ n r := fun E q => ⟨x, hx, h _ ⟨y, hy, hb E q⟩⟩
theorem rt_app {i : Nat} {e : IE} {b : IS} {xs : List D} (h0 : (ρ.get i).isO = true) (h : EvK C e ρ d ρ1) (hx : ρ1.get i = .own xs) (hz : xs.length < sizeLine) (hb : Rt C b (ρ1.put i (.own (xs ++ [d]))) n r) : Rt C (.seq (.app i e) b) ρ n r := fun E q => by
  obtain ⟨r, h1, h2⟩ := h
  exact ⟨h0, h1 _ (h2 _ ⟨xs, hx, hz, hb E q⟩)⟩
theorem rt_asgL {i : Nat} {k e : IE} {b : IS} {xs : List D} {j : Nat} (h : EvK C e ρ d ρ1) (h0 : (ρ1.get i).plain = false) (hk : Ev C k ρ1 r' ρ2) (hj : r'.toD = .int (j : Nat)) (hx : ρ2.get i = .own xs) (hl : j < xs.length) (hb : Rt C b (ρ2.put i (.own (xs.set j d))) n r) : Rt C (.seq (.asgS i k e) b) ρ n r := fun E q => by
  obtain ⟨r, h1, h2⟩ := h
  refine h1 _ (h2 _ ⟨h0, hk _ ?_⟩)
  show match ρ2.get i with | .own xs => _ | .owd kvs => _ | _ => False
  rw [hx]
  exact ⟨(j : Nat), j, hj, by unfold ixN; simp; omega, hb E q⟩
theorem erase_mapD {α β : Type} (f : α → β) : ∀ (l : List α) (j : Nat), (l.map f).eraseIdx j = (l.eraseIdx j).map f
  | [], j => by simp
  | a :: l, 0 => by simp
  | a :: l, j + 1 => by simp [erase_mapD f l j]
theorem bo_skip {P : PEnv → Prop} (h : P ρ) : Bo C .skip ρ n none P := fun E _ h2 _ => h2 rfl ρ h
theorem bo_cnt {P : PEnv → Prop} (h : P ρ) : Bo C .cnt ρ n none P := fun E _ _ h3 => h3 rfl ρ h
theorem bo_ret {e : IE} {b : IS} {P : PEnv → Prop} (h : Ev C e ρ r ρ') (hd : ρ'.dr = n) : Bo C (.seq (.ret e) b) ρ n (some r) P := fun E h1 _ _ => h _ (by show E.rt r ρ'.dr; rw [hd]; exact h1 r rfl)
theorem bo_seqC {b : IS} {P : PEnv → Prop} (h : P ρ) : Bo C (.seq .cnt b) ρ n none P := fun E _ _ h3 => h3 rfl ρ h
theorem bo_sk {b : IS} {o : Option RV} {P : PEnv → Prop} (h : Bo C b ρ n o P) : Bo C (.seq .skip b) ρ n o P := h
theorem bo_assoc {a b c : IS} {o : Option RV} {P : PEnv → Prop} (h : Bo C (.seq a (.seq b c)) ρ n o P) : Bo C (.seq (.seq a b) c) ρ n o P := h
theorem bo_asg {i : Nat} {e : IE} {b : IS} {v : SV} {o : Option RV} {P : PEnv → Prop} (h : Ev C e ρ r' ρ1) (hs : SlR r' v) (hb : Bo C b (ρ1.put i v) n o P) : Bo C (.seq (.asg (.nm i) e) b) ρ n o P := fun E q1 q2 q3 => h _ (hs _ (hb E q1 q2 q3))
theorem bo_asgT {is : List Nat} {e : IE} {b : IS} {o : Option RV} {P : PEnv → Prop} (h : Ev C e ρ r' ρ1) (hk : Kp r' d) (ht : TgR (.tp is) d ρ1 ρ2) (hb : Bo C b ρ2 n o P) : Bo C (.seq (.asg (.tp is) e) b) ρ n o P := fun E q1 q2 q3 => h _ (hk _ (ht _ (hb E q1 q2 q3)))
theorem bo_ifs {c : IE} {a a' b : IS} {k : Bool} {o o' : Option RV} {P : PEnv → Prop} (h : Ev C c ρ (.val (.bl k)) ρ1) (h1 : k = true → Bo C (.seq a b) ρ1 n o P) (h2 : k = false → Bo C (.seq a' b) ρ1 n o' P) : Bo C (.seq (.ifs c a a') b) ρ n (if k = true then o else o') P := fun E q1 q2 q3 => h _ ⟨k, rfl, fun e => h1 e E (by rw [if_pos e] at q1; exact q1) (by rw [if_pos e] at q2; exact q2) (by rw [if_pos e] at q3; exact q3), fun e => h2 e E (by rw [if_neg (by rw [e]; exact Bool.false_ne_true)] at q1; exact q1) (by rw [if_neg (by rw [e]; exact Bool.false_ne_true)] at q2; exact q2) (by rw [if_neg (by rw [e]; exact Bool.false_ne_true)] at q3; exact q3)⟩
theorem bo_ifs' {c : IE} {a a' b : IS} {k : Bool} {o : Option RV} {P : PEnv → Prop} (h : Ev C c ρ (.val (.bl k)) ρ1) (h1 : k = true → Bo C (.seq a b) ρ1 n o P) (h2 : k = false → Bo C (.seq a' b) ρ1 n o P) : Bo C (.seq (.ifs c a a') b) ρ n o P := fun E q1 q2 q3 => h _ ⟨k, rfl, fun e => h1 e E q1 q2 q3, fun e => h2 e E q1 q2 q3⟩
theorem bo_aug {i : Nat} {e : IE} {b : IS} {x y : Int} {o : Option RV} {P : PEnv → Prop} (hx : ρ.get i = .val (.int x)) (h : Ev C e ρ r' ρ1) (hy : r'.toD = .int y) (hb : Bo C b (ρ1.put i (.val (.int (x + y)))) n o P) : Bo C (.seq (.aug i e) b) ρ n o P := fun E q1 q2 q3 => ⟨x, hx, h _ ⟨y, hy, hb E q1 q2 q3⟩⟩
theorem bo_app {i : Nat} {e : IE} {b : IS} {xs : List D} {o : Option RV} {P : PEnv → Prop} (h0 : (ρ.get i).isO = true) (h : EvK C e ρ d ρ1) (hx : ρ1.get i = .own xs) (hz : xs.length < sizeLine) (hb : Bo C b (ρ1.put i (.own (xs ++ [d]))) n o P) : Bo C (.seq (.app i e) b) ρ n o P := fun E q1 q2 q3 => by
  obtain ⟨r, h1, h2⟩ := h
  exact ⟨h0, h1 _ (h2 _ ⟨xs, hx, hz, hb E q1 q2 q3⟩)⟩
theorem bo_asgL {i : Nat} {k e : IE} {b : IS} {xs : List D} {j : Nat} {o : Option RV} {P : PEnv → Prop} (h : EvK C e ρ d ρ1) (h0 : (ρ1.get i).plain = false) (hk : Ev C k ρ1 r' ρ2) (hj : r'.toD = .int (j : Nat)) (hx : ρ2.get i = .own xs) (hl : j < xs.length) (hb : Bo C b (ρ2.put i (.own (xs.set j d))) n o P) : Bo C (.seq (.asgS i k e) b) ρ n o P := fun E q1 q2 q3 => by
  obtain ⟨r, h1, h2⟩ := h
  refine h1 _ (h2 _ ⟨h0, hk _ ?_⟩)
  show match ρ2.get i with | .own xs => _ | .owd kvs => _ | _ => False
  rw [hx]
  exact ⟨(j : Nat), j, hj, by unfold ixN; simp; omega, hb E q1 q2 q3⟩
theorem for_fs {α : Type} {tg : Tg} {body : IS} {f : α → D} {P : PEnv → Prop} {o : α → Option RV} {E : PEnds} : ∀ (xs : List α) {ρ : PEnv}, P ρ → (∀ x ∈ xs, ∀ ρ, P ρ → ∃ ρ2, TgR tg (f x) ρ ρ2 ∧ Bo C body ρ2 n (o x) P) → (∀ r, xs.findSome? o = some r → E.rt r n) → (xs.findSome? o = none → ∀ ρ, P ρ → E.nx ρ) → forL tg (wpS C body) (xs.map f) ρ E
  | [], ρ, h, _, _, q => q rfl ρ h
  | x :: xs, ρ, h, ht, q1, q2 => by
    obtain ⟨ρ2, h1, h2⟩ := ht x List.mem_cons_self ρ h
    have next : o x = none → ∀ ρ', P ρ' → forL tg (wpS C body) (xs.map f) ρ' E := fun e ρ' h' => for_fs xs h' (fun y hy => ht y (List.mem_cons_of_mem _ hy)) (fun r hr => q1 r (by rw [List.findSome?_cons, e]; exact hr)) (fun hr => q2 (by rw [List.findSome?_cons, e]; exact hr))
    exact h1 _ (h2 _ (fun r hr => q1 r (by rw [List.findSome?_cons, hr])) next next)
theorem rt_find {α : Type} {tg : Tg} {it : IE} {body rest : IS} {xs : List α} {f : α → D} (P : PEnv → Prop) {o : α → Option RV} (hi : EvI C false it ρ (xs.map f) ρ1) (h0 : P ρ1)
    (ht : ∀ x ∈ xs, ∀ ρ, P ρ → ∃ ρ2, TgR tg (f x) ρ ρ2 ∧ Bo C body ρ2 n (o x) P) (h1 : ∀ r', xs.findSome? o = some r' → r' = r) (h2 : xs.findSome? o = none → ∀ ρ, P ρ → Rt C rest ρ n r) : Rt C (.seq (.fr tg it body) rest) ρ n r := fun E q => hi _ fun _ =>
  for_fs xs h0 ht (fun r' hr => by rw [h1 r' hr]; exact q) (fun hr ρ hP => h2 hr ρ hP E q)
theorem rt_all {α : Type} {tg : Tg} {it : IE} {body rest : IS} {xs : List α} {f : α → D} {p : α → Bool} (P : PEnv → Prop) (hi : EvI C false it ρ (xs.map f) ρ1) (h0 : P ρ1)
    (ht : ∀ x ∈ xs, ∀ ρ, P ρ → ∃ ρ2, TgR tg (f x) ρ ρ2 ∧ Bo C body ρ2 n (if (!p x) = true then some (.val (.bl false)) else none) P) (h1 : xs.all p = false → r = .val (.bl false)) (h2 : xs.all p = true → ∀ ρ, P ρ → Rt C rest ρ n r) : Rt C (.seq (.fr tg it body) rest) ρ n r := by
  refine rt_find P hi h0 ht (fun r' hr => ?_) (fun hr => ?_)
  · obtain ⟨x, hx, e⟩ := List.exists_of_findSome?_eq_some hr
    have hp : p x = false := by
      cases h : p x with
      | false => rfl
      | true => rw [h] at e; cases e
    rw [hp] at e
    cases e
    refine (h1 ?_).symm
    rw [Bool.eq_false_iff]
    intro hh
    rw [List.all_eq_true.mp hh x hx] at hp
    cases hp
  · refine h2 (List.all_eq_true.mpr fun x hx => ?_)
    have := List.findSome?_eq_none_iff.mp hr x hx
    cases h : p x with
    | true => rfl
    | false => rw [h] at this; cases this
theorem wpF_of {N : Nat} {b : IS} {as : List D} {dr : Nat} {Q : RV → Nat → Prop} (h : Rt C b ⟨as.map SV.val ++ List.replicate (N - as.length) SV.no, dr⟩ dr r) (q : Q r dr) : wpF C N b as dr Q := h _ q
end PL
namespace PL
open PySem PySem.Spec PyProof.Rows L2
open En
abbrev Tx := {s : Str // PyData.strOk s = true}
instance iEnTx : En Tx := ⟨fun s => .str s.1⟩
instance : Inhabited Tx := ⟨⟨"", by decide +kernel⟩⟩
theorem deq_strG (x y : Str) : deq (.str x) (.str y) = decide (x = y) := by
  have this : deq (.str x) (.str y) = (x == y) := by simp only [deq, D.py, PyData.eqv]
  rw [this]
  by_cases h : x = y
  · subst h; simp
  · rw [decide_eq_false h]; exact beq_false_of_ne h
instance iDtTx : Dt Tx where
  dep := 0
  lay a := ⟨by show PyData.canLay0 (.str a.1) = true; simpa [PyData.canLay0] using a.2, Nat.le_refl _⟩
  eqv a b := by
    show deq (.str a.1) (.str b.1) = _
    rw [deq_strG]
    congr 1
    exact propext Subtype.ext_iff.symm
instance iKyTx : Ky Tx := ⟨0, true, fun a => ⟨.text a.1, rfl, by simp [NestedKey.depth]⟩, fun _ => rfl⟩
structure P3 (α β γ : Type) where
  a : α
  b : β
  c : γ
  deriving DecidableEq, Inhabited
structure P4 (α β γ δ : Type) where
  a : α
  b : β
  c : γ
  d : δ
  deriving DecidableEq, Inhabited
structure P5 (α β γ δ ε : Type) where
  a : α
  b : β
  c : γ
  d : δ
  e : ε
  deriving DecidableEq, Inhabited
instance iInhLs {α : Type} : Inhabited (Ls α) := ⟨⟨[]⟩⟩
section
variable {α β γ δ ε : Type} [En α] [En β] [En γ] [En δ] [En ε]
instance iEnP3 : En (P3 α β γ) := ⟨fun p => .tup [enc p.a, enc p.b, enc p.c]⟩
instance iEnP4 : En (P4 α β γ δ) := ⟨fun p => .tup [enc p.a, enc p.b, enc p.c, enc p.d]⟩
instance iEnP5 : En (P5 α β γ δ ε) := ⟨fun p => .tup [enc p.a, enc p.b, enc p.c, enc p.d, enc p.e]⟩
instance iEnO : En (Option α) := ⟨fun o => match o with | none => .non | some a => enc a⟩
instance iEnU : En Unit := ⟨fun _ => .non⟩
end
section
variable {α β γ δ ε : Type} [En α] [DecidableEq α] [Dt α] [En β] [DecidableEq β] [Dt β] [En γ] [DecidableEq γ] [Dt γ] [En δ] [DecidableEq δ] [Dt δ]
instance iDtP3 : Dt (P3 α β γ) where
  dep := max (Dt.dep α) (max (Dt.dep β) (Dt.dep γ)) + 1
  lay p := lay_tup fun x hx => by
    simp only [List.mem_cons, List.not_mem_nil, or_false] at hx
    rcases hx with rfl | rfl | rfl
    · exact ⟨(Dt.lay p.a).1, Nat.le_trans (Dt.lay p.a).2 (by omega)⟩
    · exact ⟨(Dt.lay p.b).1, Nat.le_trans (Dt.lay p.b).2 (by omega)⟩
    · exact ⟨(Dt.lay p.c).1, Nat.le_trans (Dt.lay p.c).2 (by omega)⟩
  eqv p q := by
    have h1 : PyData.eqv (enc p.a).py (enc q.a).py = decide (p.a = q.a) := Dt.eqv p.a q.a
    have h2 : PyData.eqv (enc p.b).py (enc q.b).py = decide (p.b = q.b) := Dt.eqv p.b q.b
    have h3 : PyData.eqv (enc p.c).py (enc q.c).py = decide (p.c = q.c) := Dt.eqv p.c q.c
    have : deq (enc p) (enc q) = (PyData.eqv (enc p.a).py (enc q.a).py && (PyData.eqv (enc p.b).py (enc q.b).py && (PyData.eqv (enc p.c).py (enc q.c).py && true))) := by
      simp only [deq, enc, D.py, D.pys, PyData.eqv, PyData.eqvAll]
    rw [this, h1, h2, h3, Bool.and_true, ← Bool.decide_and, ← Bool.decide_and]
    congr 1
    cases p; cases q
    simp
instance iDtP4 : Dt (P4 α β γ δ) where
  dep := max (max (Dt.dep α) (Dt.dep β)) (max (Dt.dep γ) (Dt.dep δ)) + 1
  lay p := lay_tup fun x hx => by
    simp only [List.mem_cons, List.not_mem_nil, or_false] at hx
    rcases hx with rfl | rfl | rfl | rfl
    · exact ⟨(Dt.lay p.a).1, Nat.le_trans (Dt.lay p.a).2 (by omega)⟩
    · exact ⟨(Dt.lay p.b).1, Nat.le_trans (Dt.lay p.b).2 (by omega)⟩
    · exact ⟨(Dt.lay p.c).1, Nat.le_trans (Dt.lay p.c).2 (by omega)⟩
    · exact ⟨(Dt.lay p.d).1, Nat.le_trans (Dt.lay p.d).2 (by omega)⟩
  eqv p q := by
    have h1 : PyData.eqv (enc p.a).py (enc q.a).py = decide (p.a = q.a) := Dt.eqv p.a q.a
    have h2 : PyData.eqv (enc p.b).py (enc q.b).py = decide (p.b = q.b) := Dt.eqv p.b q.b
    have h3 : PyData.eqv (enc p.c).py (enc q.c).py = decide (p.c = q.c) := Dt.eqv p.c q.c
    have h4 : PyData.eqv (enc p.d).py (enc q.d).py = decide (p.d = q.d) := Dt.eqv p.d q.d
    have : deq (enc p) (enc q) = (PyData.eqv (enc p.a).py (enc q.a).py && (PyData.eqv (enc p.b).py (enc q.b).py && (PyData.eqv (enc p.c).py (enc q.c).py && (PyData.eqv (enc p.d).py (enc q.d).py && true)))) := by
      simp only [deq, enc, D.py, D.pys, PyData.eqv, PyData.eqvAll]
    rw [this, h1, h2, h3, h4, Bool.and_true, ← Bool.decide_and, ← Bool.decide_and, ← Bool.decide_and]
    congr 1
    cases p; cases q
    simp
variable [En ε] [DecidableEq ε] [Dt ε]
instance iDtP5 : Dt (P5 α β γ δ ε) where
  dep := max (max (max (Dt.dep α) (Dt.dep β)) (max (Dt.dep γ) (Dt.dep δ))) (Dt.dep ε) + 1
  lay p := lay_tup fun x hx => by
    simp only [List.mem_cons, List.not_mem_nil, or_false] at hx
    rcases hx with rfl | rfl | rfl | rfl | rfl
    · exact ⟨(Dt.lay p.a).1, Nat.le_trans (Dt.lay p.a).2 (by omega)⟩
    · exact ⟨(Dt.lay p.b).1, Nat.le_trans (Dt.lay p.b).2 (by omega)⟩
    · exact ⟨(Dt.lay p.c).1, Nat.le_trans (Dt.lay p.c).2 (by omega)⟩
    · exact ⟨(Dt.lay p.d).1, Nat.le_trans (Dt.lay p.d).2 (by omega)⟩
    · exact ⟨(Dt.lay p.e).1, Nat.le_trans (Dt.lay p.e).2 (by omega)⟩
  eqv p q := by
    have h1 : PyData.eqv (enc p.a).py (enc q.a).py = decide (p.a = q.a) := Dt.eqv p.a q.a
    have h2 : PyData.eqv (enc p.b).py (enc q.b).py = decide (p.b = q.b) := Dt.eqv p.b q.b
    have h3 : PyData.eqv (enc p.c).py (enc q.c).py = decide (p.c = q.c) := Dt.eqv p.c q.c
    have h4 : PyData.eqv (enc p.d).py (enc q.d).py = decide (p.d = q.d) := Dt.eqv p.d q.d
    have h5 : PyData.eqv (enc p.e).py (enc q.e).py = decide (p.e = q.e) := Dt.eqv p.e q.e
    have : deq (enc p) (enc q) = (PyData.eqv (enc p.a).py (enc q.a).py && (PyData.eqv (enc p.b).py (enc q.b).py && (PyData.eqv (enc p.c).py (enc q.c).py && (PyData.eqv (enc p.d).py (enc q.d).py && (PyData.eqv (enc p.e).py (enc q.e).py && true))))) := by
      simp only [deq, enc, D.py, D.pys, PyData.eqv, PyData.eqvAll]
    rw [this, h1, h2, h3, h4, h5, Bool.and_true, ← Bool.decide_and, ← Bool.decide_and, ← Bool.decide_and, ← Bool.decide_and]
    congr 1
    cases p; cases q
    simp
end
section
variable {α β γ δ : Type} [En α] [Ky α] [En β] [Ky β] [En γ] [Ky γ]
instance iKyP3 : Ky (P3 α β γ) := ⟨max (Ky.kd α) (max (Ky.kd β) (Ky.kd γ)) + 1, false, fun p => by
  obtain ⟨n, h1, h2⟩ := Ky.key p.a
  obtain ⟨m, h3, h4⟩ := Ky.key p.b
  obtain ⟨k, h5, h6⟩ := Ky.key p.c
  refine ⟨.tup [n, m, k], by show (nks [enc p.a, enc p.b, enc p.c]).map NestedKey.tup = _; simp [nks, h1, h3, h5], ?_⟩
  simp only [NestedKey.depth, NestedKey.depthAll]
  simp
  omega, fun _ => rfl⟩
end
def vk : Nat → D → Bool
  | _, .non => true
  | _, .bl _ => true
  | _, .int _ => true
  | _, .str s => PyData.strOk s
  | k + 1, .tup xs => xs.all (vk k)
  | k + 1, .lst xs => xs.all (vk k)
  | _, _ => false
theorem vk_up : ∀ {k m : Nat} {d : D}, k ≤ m → vk k d = true → vk m d = true
  | _, _, .non, _, _ => by unfold vk; rfl
  | _, _, .bl _, _, _ => by unfold vk; rfl
  | _, _, .int _, _, _ => by unfold vk; rfl
  | _, _, .str s, _, h => by unfold vk at *; exact h
  | 0, _, .tup xs, _, h => by unfold vk at h; cases h
  | 0, _, .lst xs, _, h => by unfold vk at h; cases h
  | k + 1, 0, _, h, _ => by omega
  | k + 1, m + 1, .tup xs, h, q => by
    unfold vk at *
    rw [List.all_eq_true] at *
    exact fun x hx => vk_up (by omega) (q x hx)
  | k + 1, m + 1, .lst xs, h, q => by
    unfold vk at *
    rw [List.all_eq_true] at *
    exact fun x hx => vk_up (by omega) (q x hx)
  | _, _, .dct _, _, h => by unfold vk at h; cases h
  | _, _, .rng _ _, _, h => by unfold vk at h; cases h
  | _, _, .pool, _, h => by unfold vk at h; cases h
theorem vk_tup {k : Nat} {xs : List D} : vk (k + 1) (.tup xs) = true ↔ ∀ x ∈ xs, vk k x = true := by
  rw [vk, List.all_eq_true]
theorem vk_lst {k : Nat} {xs : List D} : vk (k + 1) (.lst xs) = true ↔ ∀ x ∈ xs, vk k x = true := by
  rw [vk, List.all_eq_true]
theorem vk_lay : ∀ {k : Nat} {d : D}, vk k d = true → d.py.canLay0 = true ∧ d.py.depth ≤ k
  | _, .non, _ => ⟨rfl, Nat.zero_le _⟩
  | _, .bl _, _ => ⟨rfl, Nat.zero_le _⟩
  | _, .int _, _ => ⟨rfl, Nat.zero_le _⟩
  | _, .str s, h => ⟨by unfold vk at h; show PyData.canLay0 (.str s) = true; simpa [PyData.canLay0] using h, Nat.zero_le _⟩
  | 0, .tup xs, h => by unfold vk at h; cases h
  | 0, .lst xs, h => by unfold vk at h; cases h
  | k + 1, .tup xs, h => lay_tup fun x hx => vk_lay (vk_tup.mp h x hx)
  | k + 1, .lst xs, h => lay_lst fun x hx => vk_lay (vk_lst.mp h x hx)
  | _, .dct _, h => by unfold vk at h; cases h
  | _, .rng _ _, h => by unfold vk at h; cases h
  | _, .pool, h => by unfold vk at h; cases h
abbrev V := {d : D // vk 30 d = true}
instance iEnV : En V := ⟨fun v => v.1⟩
instance : Inhabited V := ⟨⟨.non, by unfold vk; rfl⟩⟩
theorem V.shp (v : V) : PL.shp v.1 = true := shp_of (vk_lay v.2) (by decide)
class Vk (α : Type) [En α] where
  k : Nat
  ok : ∀ a : α, vk k (enc a) = true
instance : Vk Int := ⟨0, fun _ => by unfold vk; rfl⟩
instance : Vk Nat := ⟨0, fun _ => by unfold vk; rfl⟩
instance : Vk Bool := ⟨0, fun _ => by unfold vk; rfl⟩
instance : Vk Unit := ⟨0, fun _ => by unfold vk; rfl⟩
instance : Vk Tx := ⟨0, fun a => by show vk 0 (.str a.1) = true; unfold vk; exact a.2⟩
instance : Vk V := ⟨30, fun a => a.2⟩
section
variable {α β γ δ ε : Type} [En α] [Vk α] [En β] [Vk β] [En γ] [Vk γ] [En δ] [Vk δ]
instance : Vk (List α) := ⟨Vk.k α + 1, fun a => vk_tup.mpr fun x hx => by
  obtain ⟨y, _, rfl⟩ := List.mem_map.mp hx
  exact Vk.ok y⟩
instance : Vk (Ls α) := ⟨Vk.k α + 1, fun a => vk_lst.mpr fun x hx => by
  obtain ⟨y, _, rfl⟩ := List.mem_map.mp hx
  exact Vk.ok y⟩
instance : Vk (α × β) := ⟨max (Vk.k α) (Vk.k β) + 1, fun p => vk_tup.mpr fun x hx => by
  simp only [List.mem_cons, List.not_mem_nil, or_false] at hx
  rcases hx with rfl | rfl
  · exact vk_up (Nat.le_max_left ..) (Vk.ok p.1)
  · exact vk_up (Nat.le_max_right ..) (Vk.ok p.2)⟩
instance : Vk (P3 α β γ) := ⟨max (Vk.k α) (max (Vk.k β) (Vk.k γ)) + 1, fun p => vk_tup.mpr fun x hx => by
  simp only [List.mem_cons, List.not_mem_nil, or_false] at hx
  rcases hx with rfl | rfl | rfl
  · exact vk_up (by omega) (Vk.ok p.a)
  · exact vk_up (by omega) (Vk.ok p.b)
  · exact vk_up (by omega) (Vk.ok p.c)⟩
instance : Vk (P4 α β γ δ) := ⟨max (max (Vk.k α) (Vk.k β)) (max (Vk.k γ) (Vk.k δ)) + 1, fun p => vk_tup.mpr fun x hx => by
  simp only [List.mem_cons, List.not_mem_nil, or_false] at hx
  rcases hx with rfl | rfl | rfl | rfl
  · exact vk_up (by omega) (Vk.ok p.a)
  · exact vk_up (by omega) (Vk.ok p.b)
  · exact vk_up (by omega) (Vk.ok p.c)
  · exact vk_up (by omega) (Vk.ok p.d)⟩
instance {ε : Type} [En ε] [Vk ε] : Vk (P5 α β γ δ ε) := ⟨max (max (max (Vk.k α) (Vk.k β)) (max (Vk.k γ) (Vk.k δ))) (Vk.k ε) + 1, fun p => vk_tup.mpr fun x hx => by
  simp only [List.mem_cons, List.not_mem_nil, or_false] at hx
  rcases hx with rfl | rfl | rfl | rfl | rfl
  · exact vk_up (by omega) (Vk.ok p.a)
  · exact vk_up (by omega) (Vk.ok p.b)
  · exact vk_up (by omega) (Vk.ok p.c)
  · exact vk_up (by omega) (Vk.ok p.d)
  · exact vk_up (by omega) (Vk.ok p.e)⟩
instance : Vk (Option α) := ⟨Vk.k α, fun o => match o with
  | none => by show vk (Vk.k α) .non = true; unfold vk; rfl
  | some a => Vk.ok a⟩
theorem kle {a b : Nat} (h : Nat.ble a b = true) : a ≤ b := Nat.le_of_ble_eq_true h
def toV (a : α) (h : Vk.k α ≤ 30 := by decide) : V := ⟨enc a, vk_up h (Vk.ok a)⟩
end
def elsD : D → List D
  | .tup xs => xs
  | .lst xs => xs
  | _ => []
theorem els_vk : ∀ {k : Nat} {d : D}, vk k d = true → ∀ x ∈ elsD d, vk k x = true
  | 0, .tup xs, h => by unfold vk at h; cases h
  | 0, .lst xs, h => by unfold vk at h; cases h
  | k + 1, .tup xs, h => fun x hx => vk_up (Nat.le_succ k) (vk_tup.mp h x hx)
  | k + 1, .lst xs, h => fun x hx => vk_up (Nat.le_succ k) (vk_lst.mp h x hx)
  | _, .non, _ => fun x hx => nomatch hx
  | _, .bl _, _ => fun x hx => nomatch hx
  | _, .int _, _ => fun x hx => nomatch hx
  | _, .str _, _ => fun x hx => nomatch hx
  | _, .dct _, _ => fun x hx => nomatch hx
  | _, .rng _ _, _ => fun x hx => nomatch hx
  | _, .pool, _ => fun x hx => nomatch hx
def V.is (t : Ty) (v : V) : Bool := isTy t v.1
def V.non (v : V) : Bool := isNon v.1
def V.sq (v : V) : Bool := isTy .tuple v.1 || isTy .list v.1
def V.els (v : V) : List V := (elsD v.1).pmap (fun x h => ⟨x, h⟩) (els_vk v.2)
def V.len (v : V) : Nat := (elsD v.1).length
def V.nth (v : V) (i : Nat) : V := v.els.getD i default
def gz {α : Type} [Inhabited α] (xs : List α) (i : Int) : α := xs.getD (if i < 0 then i + xs.length else i).toNat default
def cutD (d : D) (l h : Option Int) : D := match d with
  | .tup xs => .tup (cutL xs l h)
  | .lst xs => .lst (cutL xs l h)
  | d => d
theorem cut_sub {α : Type} {xs : List α} {l h : Option Int} {x : α} (hx : x ∈ cutL xs l h) : x ∈ xs := List.mem_of_mem_drop (List.mem_of_mem_take hx)
theorem cut_vk {k : Nat} {d : D} {l h : Option Int} (hv : vk k d = true) : vk k (cutD d l h) = true := by
  cases d <;> first | exact hv | skip
  · cases k with
    | zero => unfold vk at hv; cases hv
    | succ k => exact vk_tup.mpr fun x hx => vk_tup.mp hv x (cut_sub hx)
  · cases k with
    | zero => unfold vk at hv; cases hv
    | succ k => exact vk_lst.mpr fun x hx => vk_lst.mp hv x (cut_sub hx)
def V.cut (v : V) (l h : Option Int) : V := ⟨cutD v.1 l h, cut_vk v.2⟩
def veq {α β : Type} [En α] [En β] (a : α) (b : β) : Bool := deq (enc a) (enc b)
def vlt (a b : V) : Bool := (ltD a.1 b.1).getD false
class Rd (α : Type) [En α] where
  rd : D → α
instance : Rd Int := ⟨fun | .int i => i | _ => 0⟩
instance : Rd Nat := ⟨fun | .int i => i.toNat | _ => 0⟩
instance : Rd Bool := ⟨fun | .bl b => b | _ => false⟩
instance : Rd Tx := ⟨fun | .str s => if h : PyData.strOk s = true then ⟨s, h⟩ else default | _ => default⟩
instance : Rd V := ⟨fun d => if h : vk 30 d = true then ⟨d, h⟩ else default⟩
section
variable {α β γ δ : Type} [En α] [Rd α] [En β] [Rd β] [En γ] [Rd γ] [En δ] [Rd δ]
instance : Rd (List α) := ⟨fun | .tup xs => xs.map Rd.rd | _ => []⟩
instance : Rd (Ls α) := ⟨fun | .lst xs => ⟨xs.map Rd.rd⟩ | _ => ⟨[]⟩⟩
instance : Rd (α × β) := ⟨fun d => (Rd.rd ((elsD d).getD 0 .non), Rd.rd ((elsD d).getD 1 .non))⟩
instance : Rd (P3 α β γ) := ⟨fun d => ⟨Rd.rd ((elsD d).getD 0 .non), Rd.rd ((elsD d).getD 1 .non), Rd.rd ((elsD d).getD 2 .non)⟩⟩
instance : Rd (P4 α β γ δ) := ⟨fun d => ⟨Rd.rd ((elsD d).getD 0 .non), Rd.rd ((elsD d).getD 1 .non), Rd.rd ((elsD d).getD 2 .non), Rd.rd ((elsD d).getD 3 .non)⟩⟩
instance {ε : Type} [En ε] [Rd ε] : Rd (P5 α β γ δ ε) := ⟨fun d => ⟨Rd.rd ((elsD d).getD 0 .non), Rd.rd ((elsD d).getD 1 .non), Rd.rd ((elsD d).getD 2 .non), Rd.rd ((elsD d).getD 3 .non), Rd.rd ((elsD d).getD 4 .non)⟩⟩
end
def V.as (α : Type) [En α] [Rd α] (v : V) : α := Rd.rd v.1
def V.isA (α : Type) [En α] [Rd α] (v : V) : Prop := enc (V.as α v) = v.1
end PL
namespace PL
open PySem PySem.Spec PyProof.Rows L2
open En
inductive Tn2 (σ R : Type)
  | go (s : σ)
  | out (r : R)
  | brk (s : σ)
def optT {σ R : Type} [Inhabited σ] : Option R → Tn2 σ R
  | some r => .out r
  | none => .go default
def PA : List Nat → (Nat → SV) → Prop
  | [], _ => True
  | i :: is, z => (z i).plain = true ∧ PA is z
structure Bk (σ R : Type) where
  n : Nat
  ps : List Nat
  env : σ → (Nat → SV) → List SV
  w : R → RV
def zl (l : List SV) (i : Nat) : SV := l.getD i .no
def Tn2.ends {σ R : Type} (F : Bk σ R) (E : PEnds) : Tn2 σ R → Prop
  | .out r => E.rt (F.w r) F.n
  | .go s => ∀ z, PA F.ps z → E.nx ⟨F.env s z, F.n⟩ ∧ E.ct ⟨F.env s z, F.n⟩
  | .brk s => ∀ z, PA F.ps z → E.bk ⟨F.env s z, F.n⟩
def Bl {σ R : Type} (C : PC) (F : Bk σ R) (b : IS) (ρ : PEnv) (t : Tn2 σ R) : Prop := ∀ E : PEnds, t.ends F E → wpS C b ρ E
section
variable {C : PC} {ρ ρ' ρ1 ρ2 ρ3 : PEnv} {r r' : RV} {d d' : D} {σ R X : Type} {F : Bk σ R} {t : Tn2 σ R} {b : IS}
theorem bl_ret {e : IE} {x : R} (h : Ev C e ρ (F.w x) ρ') (hd : ρ'.dr = F.n) : Bl C F (.seq (.ret e) b) ρ (.out x) := fun E q => h _ (by show E.rt _ ρ'.dr; rw [hd]; exact q)
theorem bl_go {s : σ} (z0 : Nat → SV) (he : ρ = ⟨F.env s z0, F.n⟩) (hz : PA F.ps z0) : Bl C F .skip ρ (.go s) := fun E q => by
  have := (q _ hz).1
  rw [← he] at this
  exact this
theorem bl_sk (h : Bl C F b ρ t) : Bl C F (.seq .skip b) ρ t := h
theorem bl_as {x y z : IS} (h : Bl C F (.seq x (.seq y z)) ρ t) : Bl C F (.seq (.seq x y) z) ρ t := h
theorem bl_asg {i : Nat} {e : IE} {v : SV} (h : Ev C e ρ r ρ1) (hs : SlR r v) (hb : Bl C F b (ρ1.put i v) t) : Bl C F (.seq (.asg (.nm i) e) b) ρ t := fun E q => h _ (hs _ (hb E q))
theorem bl_app {α : Type} {_ : En α} {i : Nat} {e : IE} {xs : List α} {x : α} (h : EvK C e ρ (enc x) ρ1) (h0 : (ρ.get i).isO = true) (hx : ρ1.get i = .own (xs.map enc)) (hz : xs.length < sizeLine) (hb : Bl C F b (ρ1.put i (.own ((xs ++ [x]).map enc))) t) : Bl C F (.seq (.app i e) b) ρ t := fun E q => by
  obtain ⟨r, h1, h2⟩ := h
  rw [List.map_append] at hb
  exact ⟨h0, h1 _ (h2 _ ⟨_, hx, by rw [List.length_map]; exact hz, hb E q⟩)⟩
theorem bl_if (φ : X → Tn2 σ R) {c : IE} {a a' : IS} {k : Bool} {x y : X} (h : Ev C c ρ (.val (.bl k)) ρ1) (h1 : k = true → Bl C F (.seq a b) ρ1 (φ x)) (h2 : k = false → Bl C F (.seq a' b) ρ1 (φ y)) : Bl C F (.seq (.ifs c a a') b) ρ (φ (if k = true then x else y)) := fun E q => h _ ⟨k, rfl, fun e => h1 e E (by rw [if_pos e] at q; exact q), fun e => h2 e E (by rw [if_neg (by rw [e]; exact Bool.false_ne_true)] at q; exact q)⟩
def noct : IS → Bool
  | .seq a b => noct a && noct b
  | .ifs _ a b => noct a && noct b
  | .cnt => false
  | _ => true
theorem forL_ct {tg : Tg} {fb : PEnv → PEnds → Prop} {X : PEnv → Prop} : ∀ (ds : List D) (ρ : PEnv) (E : PEnds), forL tg fb ds ρ E → forL tg fb ds ρ { E with ct := X }
  | [], _, _, h => h
  | d :: ds, ρ, E, h => by
    have e : (fun ρ2 => forL tg fb ds ρ2 { E with ct := X }) = fun ρ2 => forL tg fb ds ρ2 E := by
      funext ρ2
      refine propext ⟨fun h => ?_, fun h => forL_ct ds ρ2 E h⟩
      have := forL_ct (X := E.ct) ds ρ2 _ h
      exact this
    show tgP tg d ρ fun ρ1 => fb ρ1 ⟨fun ρ2 => forL tg fb ds ρ2 { E with ct := X }, E.rt, E.nx, fun ρ2 => forL tg fb ds ρ2 { E with ct := X }⟩
    rw [e]; exact h
theorem forO_ct {tg : Tg} {i : Nat} {fb : PEnv → PEnds → Prop} {X : PEnv → Prop} : ∀ (n k : Nat) (ρ : PEnv) (E : PEnds), forO tg i fb n k ρ E → forO tg i fb n k ρ { E with ct := X }
  | 0, _, _, _, h => h
  | n + 1, k, ρ, E, h => by
    have e : (fun ρ2 => forO tg i fb n (k + 1) ρ2 { E with ct := X }) = fun ρ2 => forO tg i fb n (k + 1) ρ2 E := by
      funext ρ2
      refine propext ⟨fun h => ?_, fun h => forO_ct n (k + 1) ρ2 E h⟩
      have := forO_ct (X := E.ct) n (k + 1) ρ2 _ h
      exact this
    obtain ⟨xs, hx, h⟩ := h
    refine ⟨xs, hx, ?_⟩
    cases hk : xs[k]? with
    | none => rw [hk] at h; exact h
    | some d =>
      rw [hk] at h
      show tgP tg d ρ fun ρ1 => fb ρ1 ⟨fun ρ2 => forO tg i fb n (k + 1) ρ2 { E with ct := X }, E.rt, E.nx, fun ρ2 => forO tg i fb n (k + 1) ρ2 { E with ct := X }⟩
      rw [e]; exact h
theorem whlL_ct {fc : PEnv → RK → Prop} {fb : PEnv → PEnds → Prop} {X : PEnv → Prop} : ∀ (n : Nat) (ρ : PEnv) (E : PEnds), whlL fc fb n ρ E → whlL fc fb n ρ { E with ct := X }
  | 0, _, _, h => h
  | n + 1, ρ, E, h => by
    have e : (fun ρ2 => whlL fc fb n ρ2 { E with ct := X }) = fun ρ2 => whlL fc fb n ρ2 E := by
      funext ρ2
      refine propext ⟨fun h => ?_, fun h => whlL_ct n ρ2 E h⟩
      have := whlL_ct (X := E.ct) n ρ2 _ h
      exact this
    show fc ρ fun c ρ1 => ∃ b, c = .val (.bl b) ∧ brn b (fb ρ1 ⟨fun ρ2 => whlL fc fb n ρ2 { E with ct := X }, E.rt, E.nx, fun ρ2 => whlL fc fb n ρ2 { E with ct := X }⟩) (E.nx ρ1)
    rw [e]; exact h
theorem wpS_ct {X : PEnv → Prop} : ∀ (a : IS), noct a = true → ∀ (ρ : PEnv) (E : PEnds), wpS C a ρ E → wpS C a ρ { E with ct := X }
  | .seq a b, hn, ρ, E, h => by
    have hn : (noct a && noct b) = true := hn
    rw [Bool.and_eq_true] at hn
    have e : (fun ρ1 => wpS C b ρ1 { E with ct := X }) = fun ρ1 => wpS C b ρ1 E := by
      funext ρ1
      refine propext ⟨fun h => ?_, fun h => wpS_ct b hn.2 ρ1 E h⟩
      have := wpS_ct (X := E.ct) b hn.2 ρ1 _ h
      exact this
    show wpS C a ρ { nx := fun ρ1 => wpS C b ρ1 { E with ct := X }, rt := E.rt, bk := E.bk, ct := X }
    rw [e]
    exact wpS_ct a hn.1 ρ { E with nx := fun ρ1 => wpS C b ρ1 E } h
  | .ifs c a b, hn, ρ, E, h => by
    have hn : (noct a && noct b) = true := hn
    rw [Bool.and_eq_true] at hn
    have e1 : (fun ρ1 => wpS C a ρ1 { E with ct := X }) = fun ρ1 => wpS C a ρ1 E := by
      funext ρ1
      refine propext ⟨fun h => ?_, fun h => wpS_ct a hn.1 ρ1 E h⟩
      have := wpS_ct (X := E.ct) a hn.1 ρ1 _ h
      exact this
    have e2 : (fun ρ1 => wpS C b ρ1 { E with ct := X }) = fun ρ1 => wpS C b ρ1 E := by
      funext ρ1
      refine propext ⟨fun h => ?_, fun h => wpS_ct b hn.2 ρ1 E h⟩
      have := wpS_ct (X := E.ct) b hn.2 ρ1 _ h
      exact this
    show wpE C c ρ fun x ρ1 => ∃ k, x = .val (.bl k) ∧ brn k ((fun ρ1 => wpS C a ρ1 { E with ct := X }) ρ1) ((fun ρ1 => wpS C b ρ1 { E with ct := X }) ρ1)
    rw [e1, e2]; exact h
  | .fr tg it b, _, ρ, E, h => by
    have e : (fun ds ρ1 => forL tg (wpS C b) ds ρ1 { E with ct := X }) = fun ds ρ1 => forL tg (wpS C b) ds ρ1 E := by
      funext ds ρ1
      refine propext ⟨fun h => ?_, fun h => forL_ct ds ρ1 E h⟩
      have := forL_ct (X := E.ct) ds ρ1 _ h
      exact this
    show wpI C false it ρ fun ds ρ1 => forL tg (wpS C b) ds ρ1 { E with ct := X }
    rw [e]; exact h
  | .frl tg i b, _, ρ, E, ⟨n, h⟩ => ⟨n, forO_ct n 0 ρ E h⟩
  | .whl c b, _, ρ, E, ⟨n, h⟩ => ⟨n, whlL_ct n ρ E h⟩
  | .skip, _, _, _, h => h
  | .asg (.nm _) _, _, _, _, h => h
  | .asg (.tp _) _, _, _, _, h => h
  | .asgS _ _ _, _, _, _, h => h
  | .aug _ _, _, _, _, h => h
  | .app _ _, _, _, _, h => h
  | .ext _ _, _, _, _, h => h
  | .remv _ _, _, _, _, h => h
  | .pop0 _ _, _, _, _, h => h
  | .pop1 _ _ _, _, _, _, h => h
  | .popT _ _ _, _, _, _, h => h
  | .sdef _ _ _, _, _, _, h => h
  | .ret _, _, _, _, h => h
  | .ret0, _, _, _, h => h
  | .reto _, _, _, _, h => h
  | .brk, _, _, _, h => h
  | .cnt, hn, _, _, _ => by cases hn
  | .ex _, _, _, _, h => h
  | .rais _, _, _, _, h => h
theorem bl_join {τ : Type} (F' : Bk τ Unit) {c : IE} {a a' : IS} {k : Bool} {s1 s2 : τ} (hn : F'.n = F.n) (n1 : noct a = true) (n2 : noct a' = true) (h : Ev C c ρ (.val (.bl k)) ρ1) (h1 : k = true → Bl C F' a ρ1 (.go s1)) (h2 : k = false → Bl C F' a' ρ1 (.go s2))
    (hb : ∀ z, PA F'.ps z → Bl C F b ⟨F'.env (if k = true then s1 else s2) z, F.n⟩ t) : Bl C F (.seq (.ifs c a a') b) ρ t := fun E q => by
  have key : ∀ (x : IS) (s : τ), noct x = true → Bl C F' x ρ1 (.go s) → (∀ z, PA F'.ps z → wpS C b ⟨F'.env s z, F'.n⟩ E) → wpS C x ρ1 ⟨fun ρ => wpS C b ρ E, E.rt, E.bk, E.ct⟩ := fun x s nx hx q' =>
    wpS_ct x nx ρ1 ⟨fun ρ => wpS C b ρ E, E.rt, E.bk, fun ρ => wpS C b ρ E⟩ (hx _ fun z hz => ⟨q' z hz, q' z hz⟩)
  refine h _ ⟨k, rfl, fun e => key a s1 n1 (h1 e) fun z hz => ?_, fun e => key a' s2 n2 (h2 e) fun z hz => ?_⟩
  · have := hb z hz; rw [if_pos e] at this; rw [hn]; exact this E q
  · have := hb z hz; rw [if_neg (by rw [e]; exact Bool.false_ne_true)] at this; rw [hn]; exact this E q
def foldP {α τ : Type} (P : τ → α → Prop) (step : τ → α → τ) : List α → τ → Prop
  | [], _ => True
  | x :: xs, s => P s x ∧ foldP P step xs (step s x)
theorem bl_for_core {α τ : Type} {F' : Bk τ Unit} {tg : Tg} {body : IS} {f : α → D} {step : τ → α → τ} {P : τ → α → Prop} {E : PEnds} : ∀ (xs : List α) (s : τ) (z : Nat → SV), PA F'.ps z → foldP P step xs s →
    (∀ x ∈ xs, ∀ s z, P s x → PA F'.ps z → ∃ ρ2, TgR tg (f x) ⟨F'.env s z, F'.n⟩ ρ2 ∧ Bl C F' body ρ2 (.go (step s x))) →
    (∀ z, PA F'.ps z → E.nx ⟨F'.env (xs.foldl step s) z, F'.n⟩) → forL tg (wpS C body) (xs.map f) ⟨F'.env s z, F'.n⟩ E
  | [], s, z, hz, _, _, q => q z hz
  | x :: xs, s, z, hz, hp, ht, q => by
    obtain ⟨ρ2, h1, h2⟩ := ht x List.mem_cons_self s z hp.1 hz
    refine h1 _ (h2 _ fun z' hz' => ?_)
    have := bl_for_core xs (step s x) z' hz' hp.2 (fun y hy => ht y (List.mem_cons_of_mem _ hy)) q
    exact ⟨this, this⟩
theorem bl_for {α τ : Type} (F' : Bk τ Unit) {tg : Tg} {it : IE} {body : IS} {xs : List α} {f : α → D} {step : τ → α → τ} (P : τ → α → Prop) {s0 : τ} (hn : F'.n = F.n) (hi : EvI C false it ρ (xs.map f) ρ1) (z0 : Nat → SV) (he : ρ1 = ⟨F'.env s0 z0, F.n⟩) (hz : PA F'.ps z0) (hp : foldP P step xs s0)
    (ht : ∀ x ∈ xs, ∀ s z, P s x → PA F'.ps z → ∃ ρ2, TgR tg (f x) ⟨F'.env s z, F.n⟩ ρ2 ∧ Bl C F' body ρ2 (.go (step s x)))
    (hb : ∀ z, PA F'.ps z → Bl C F b ⟨F'.env (xs.foldl step s0) z, F.n⟩ t) : Bl C F (.seq (.fr tg it body) b) ρ t := fun E q => hi _ fun _ => by
  rw [he]
  rw [← hn] at ht hb ⊢
  exact bl_for_core xs s0 _ hz hp ht fun z hz => hb z hz E q
def fsE {R X : Type} (inj : R → X) (y : X) : Option R → X
  | some r => inj r
  | none => y
def runT2 {τ α R : Type} (step : τ → α → Tn2 τ R) : List α → τ → Tn2 τ R
  | [], s => .go s
  | x :: xs, s => match step s x with
    | .go s' => runT2 step xs s'
    | .out r => .out r
    | .brk s' => .brk s'
def runP {τ α R : Type} (P : τ → α → Prop) (step : τ → α → Tn2 τ R) : List α → τ → Prop
  | [], _ => True
  | x :: xs, s => P s x ∧ match step s x with
    | .go s' => runP P step xs s'
    | .out _ => True
    | .brk _ => True
def Tn2.fin {τ R X : Type} (inj : R → X) (y : τ → X) : Tn2 τ R → X
  | .go s => y s
  | .brk s => y s
  | .out r => inj r
def whlT {τ R : Type} (c : τ → Bool) (step : τ → Tn2 τ R) : Nat → τ → Tn2 τ R
  | 0, s => .go s
  | k + 1, s => if c s = true then (match step s with
    | .go s' => whlT c step k s'
    | .out r => .out r
    | .brk s' => .brk s') else .go s
def whlP {τ R : Type} (PC P : τ → Prop) (c : τ → Bool) (step : τ → Tn2 τ R) : Nat → τ → Prop
  | 0, s => PC s ∧ c s = false
  | k + 1, s => PC s ∧ (c s = true → P s ∧ match step s with
    | .go s' => whlP PC P c step k s'
    | .out _ => True
    | .brk _ => True)
theorem bl_whl_core {τ : Type} {F' : Bk τ R} {ce : IE} {body : IS} {c : τ → Bool} {step : τ → Tn2 τ R} {PC P : τ → Prop} {E : PEnds} (hc : ∀ s z, PC s → PA F'.ps z → ∃ z', Ev C ce ⟨F'.env s z, F'.n⟩ (.val (.bl (c s))) ⟨F'.env s z', F'.n⟩ ∧ PA F'.ps z')
    (ht : ∀ s z, c s = true → P s → PA F'.ps z → Bl C F' body ⟨F'.env s z, F'.n⟩ (step s)) : ∀ (k : Nat) (s : τ) (z : Nat → SV), PA F'.ps z → whlP PC P c step k s → (∀ r, whlT c step k s = .out r → E.rt (F'.w r) F'.n) → (∀ s', whlT c step k s = .go s' ∨ whlT c step k s = .brk s' → ∀ z, PA F'.ps z → E.nx ⟨F'.env s' z, F'.n⟩) → whlL (wpE C ce) (wpS C body) (k + 1) ⟨F'.env s z, F'.n⟩ E
  | 0, s, z, hz, hp, _, q2 => by
    obtain ⟨z', h1, hz'⟩ := hc s z hp.1 hz
    refine h1 _ ⟨c s, rfl, (fun e => by rw [hp.2] at e; cases e), (fun _ => q2 s (.inl rfl) z' hz')⟩
  | k + 1, s, z, hz, hp, q1, q2 => by
    obtain ⟨z', h1, hz'⟩ := hc s z hp.1 hz
    refine h1 _ ⟨c s, rfl, fun e => ?_, fun e => q2 s (.inl (by rw [whlT, if_neg (by rw [e]; exact Bool.false_ne_true)])) z' hz'⟩
    obtain ⟨hP, hp2⟩ := hp.2 e
    refine ht s z' e hP hz' _ ?_
    rw [whlT, if_pos e] at q1 q2
    cases h : step s with
    | out r => rw [h] at q1; exact q1 r rfl
    | brk s' => rw [h] at q2; exact fun z' hz' => q2 s' (.inr rfl) z' hz'
    | go s' =>
      rw [h] at q1 q2 hp2
      intro z2 hz2
      have := bl_whl_core hc ht k s' z2 hz2 hp2 q1 q2
      exact ⟨this, this⟩
theorem bl_whl {τ : Type} (φ : X → Tn2 σ R) (inj : R → X) (F' : Bk τ R) {ce : IE} {body : IS} (c : τ → Bool) (step : τ → Tn2 τ R) (PC P : τ → Prop) (k : Nat) {s0 : τ} (y : τ → X) (hφ : ∀ r, φ (inj r) = .out r) (hn : F'.n = F.n) (hw : F'.w = F.w) (z0 : Nat → SV) (he : ρ = ⟨F'.env s0 z0, F.n⟩) (hz : PA F'.ps z0) (hp : whlP PC P c step k s0)
    (hc : ∀ s z, PC s → PA F'.ps z → ∃ z', Ev C ce ⟨F'.env s z, F.n⟩ (.val (.bl (c s))) ⟨F'.env s z', F.n⟩ ∧ PA F'.ps z')
    (ht : ∀ s z, c s = true → P s → PA F'.ps z → Bl C F' body ⟨F'.env s z, F.n⟩ (step s))
    (hb : ∀ s, whlT c step k s0 = .go s ∨ whlT c step k s0 = .brk s → ∀ z, PA F'.ps z → Bl C F b ⟨F'.env s z, F.n⟩ (φ (y s))) : Bl C F (.seq (.whl ce body) b) ρ (φ ((whlT c step k s0).fin inj y)) := fun E q => ⟨k + 1, by
  rw [he]
  rw [← hn] at ht hb hc ⊢
  refine bl_whl_core hc ht k s0 _ hz hp (fun r hr => ?_) (fun s hs z hz => ?_)
  · rw [hr] at q
    have q : (φ (inj r)).ends F E := q
    rw [hφ] at q
    show E.rt _ _
    rw [hw, hn]; exact q
  · refine hb s hs z hz E ?_
    rcases hs with hs | hs
    · rw [hs] at q; exact q
    · rw [hs] at q; exact q⟩
theorem wpF_bl {N : Nat} {as : List D} {n : Nat} {w : R → RV} {x : R} {Q : RV → Nat → Prop} (h : Bl C ⟨n, [], fun (_ : Unit) _ => [], w⟩ b ⟨as.map SV.val ++ List.replicate (N - as.length) SV.no, n⟩ (.out x)) (q : Q (w x) n) : wpF C N b as n Q := h _ q
end
end PL
namespace PL
open PySem PySem.Spec PyProof.Rows L2
open En
structure Dc (κ ν : Type) where
  l : List (κ × ν)
instance iEnDc {κ ν : Type} [En κ] [En ν] : En (Dc κ ν) := ⟨fun d => .dct (encKV d.l)⟩
instance {κ ν : Type} : Inhabited (Dc κ ν) := ⟨⟨[]⟩⟩
section
variable {C : PC} {ρ ρ' ρ1 ρ2 ρ3 : PEnv} {r s t : RV} {d d' : D} {α β γ : Type} [En α] [En β] [En γ]
theorem ev_cN {i : Int} (k : Nat) (h : i = (k : Int)) : Ev C (.cst (.int i)) ρ (.val (enc k)) ρ := fun Q q => by rw [h]; exact q
theorem ev_cB (b : Bool) : Ev C (.cst (.bl b)) ρ (.val (enc b)) ρ := fun _ q => q
theorem ev_cO : Ev C (.cst .non) ρ (.val (enc (none : Option α))) ρ := fun _ q => q
theorem ev_cU : Ev C (.cst .non) ρ (.val (enc ())) ρ := fun _ q => q
theorem ev_some {e : IE} {x : α} (h : Ev C e ρ (.val (enc x)) ρ') : Ev C e ρ (.val (enc (some x))) ρ' := h
theorem kp_ls {xs : List α} : Kp (.own (xs.map enc)) (enc (Ls.mk xs)) := fun _ h => h
theorem kp_lsv {xs : List α} : Kp (.val (.lst (xs.map enc))) (enc (Ls.mk xs)) := fun _ h => h
theorem ev_tupL {as : IE} {ds : List D} (xs : List α) (ha : EvA C false as ρ ds ρ1) (hd : ds = xs.map enc) (hz : Nat.ble xs.length 64 = true) : Ev C (.tup as) ρ (.val (enc xs)) ρ1 := fun Q q => ha _ ⟨by
  have := Nat.le_of_ble_eq_true hz
  have := sizeLine_eq
  rw [hd, List.length_map]; omega, by rw [hd]; exact q⟩
theorem ev_tup0 : Ev C (.tup .anil) ρ (.val (enc ([] : List α))) ρ := fun Q q => ⟨by simp, q⟩
theorem ev_tupP {as : IE} {x : α} {y : β} (ha : EvA C false as ρ [enc x, enc y] ρ1) : Ev C (.tup as) ρ (.val (enc (x, y))) ρ1 := fun Q q => ha _ ⟨by have := sizeLine_eq; simp; omega, q⟩
theorem ev_lstL {as : IE} {ds : List D} (xs : List α) (ha : EvA C false as ρ ds ρ1) (hd : ds = xs.map enc) (hz : Nat.ble xs.length 64 = true) : Ev C (.lst as) ρ (.own (xs.map enc)) ρ1 := fun Q q => ha _ ⟨by
  have := Nat.le_of_ble_eq_true hz
  have := sizeLine_eq
  rw [hd, List.length_map]; omega, by rw [hd]; exact q⟩
theorem g_addN {x y : Nat} : BinR .add (enc x) (enc y) (.val (enc (x + y))) := fun _ q => q
theorem g_addT {xs ys : List α} (h : xs.length + ys.length ≤ sizeLine) : BinR .add (enc xs) (enc ys) (.val (enc (xs ++ ys))) := bin_addT h
theorem g_addL {xs ys : List α} (h : xs.length + ys.length ≤ sizeLine) : BinR .add (.lst (xs.map enc)) (.lst (ys.map enc)) (.own ((xs ++ ys).map enc)) := bin_addL h
theorem g_ltN {x y : Nat} : CmpR .lt (enc x) (enc y) (decide (x < y)) := cmp_ltN
theorem g_gtN {x y : Nat} : CmpR .gt (enc x) (enc y) (decide (y < x)) := cmp_gtN
theorem g_eq [DecidableEq α] [Dt α] {x y : α} (h : Dt.dep α ≤ 50 := by decide) : CmpR .eq (enc x) (enc y) (decide (x = y)) := cmp_eqE h
theorem g_ne [DecidableEq α] [Dt α] {x y : α} (h : Dt.dep α ≤ 50 := by decide) : CmpR .ne (enc x) (enc y) (!decide (x = y)) := cmp_neE h
theorem g_eqL [DecidableEq α] [Dt α] {xs ys : List α} (h : Dt.dep α ≤ 40 := by decide) : CmpR .eq (.lst (xs.map enc)) (.lst (ys.map enc)) (decide (xs = ys)) := cmp_eqL h
theorem g_inT [DecidableEq α] [Dt α] {a : α} {xs : List α} [Decidable (a ∈ xs)] (h : Dt.dep α ≤ 40 := by decide) : CmpR .isin (enc a) (enc xs) (decide (a ∈ xs)) := cmp_inT h
theorem g_ninT [DecidableEq α] [Dt α] {a : α} {xs : List α} [Decidable (a ∈ xs)] (h : Dt.dep α ≤ 40 := by decide) : CmpR .notin (enc a) (enc xs) (!decide (a ∈ xs)) := cmp_ninT h
def vin {α β : Type} [En α] [En β] (xs : List α) (a : β) : Bool := xs.any fun x => veq x a
class NN (α : Type) [En α] : Prop where
  nn : ∀ a : α, isNon (enc a) = false
instance : NN Nat := ⟨fun _ => rfl⟩
instance : NN Int := ⟨fun _ => rfl⟩
instance : NN Tx := ⟨fun _ => rfl⟩
instance : NN Bool := ⟨fun _ => rfl⟩
instance : NN (List α) := ⟨fun _ => rfl⟩
instance : NN (Ls α) := ⟨fun _ => rfl⟩
instance : NN (α × β) := ⟨fun _ => rfl⟩
instance : NN (P3 α β γ) := ⟨fun _ => rfl⟩
instance {δ : Type} [En δ] : NN (P4 α β γ δ) := ⟨fun _ => rfl⟩
instance {δ ε : Type} [En δ] [En ε] : NN (P5 α β γ δ ε) := ⟨fun _ => rfl⟩
theorem g_isO [NN α] {o : Option α} : CmpR .is (enc o) (.non) o.isNone := fun Q q => by
  cases o with
  | none => exact q
  | some a => show Q (isNon (enc a)); rw [NN.nn]; exact q
theorem g_isB {i j : Bool} : CmpR .is (enc i) (enc j) (decide (i = j)) := fun _ q => q
theorem g_isnB {i j : Bool} : CmpR .isnot (enc i) (enc j) (!decide (i = j)) := fun _ q => q
theorem g_ixL [Inhabited α] {xs : List α} {i : Nat} (h : i < xs.length) : IdxR (.lst (xs.map enc)) (enc i) (enc (xs.getD i default)) := idx_L h
theorem g_ixP0 {p : α × β} : IdxR (enc p) (enc 0) (enc p.1) := fun Q q => ⟨enc p.1, rfl, q⟩
theorem g_ixP1 {p : α × β} : IdxR (enc p) (enc 1) (enc p.2) := fun Q q => ⟨enc p.2, rfl, q⟩
theorem g_rvT {xs : List α} : ∀ Q : RV → Prop, Q (.val (enc xs.reverse)) → revP (enc xs) Q := rev_T
theorem g_trB {x : Bool} : TruR (enc x) x := rfl
theorem g_lenT {xs : List α} : BltR .len [enc xs] (.val (enc xs.length)) := blt_lenT
theorem g_lenL {xs : List α} : BltR .len [.lst (xs.map enc)] (.val (enc xs.length)) := blt_lenL
theorem g_lenF0 {xs : List α} {p : α → Bool} : BltR .len [.lst ((xs.filter p).map enc)] (.val (enc (xs.countP p))) := fun Q q => blt_lenL Q (by rw [← List.countP_eq_length_filter]; exact q)
theorem g_allM {xs : List β} {g : β → Bool} : BltR .all [.lst ((xs.map g).map enc)] (.val (enc (xs.all g))) := fun Q q => blt_all Q (by rw [List.all_map]; exact q)
theorem g_anyM {xs : List β} {g : β → Bool} : BltR .any [.lst ((xs.map g).map enc)] (.val (enc (xs.any g))) := fun Q q => blt_any Q (by rw [List.any_map]; exact q)
theorem g_tupL {xs : List α} : BltR .tuple [.lst (xs.map enc)] (.val (enc xs)) := blt_tupL
theorem g_lstT {xs : List α} : BltR .list [enc xs] (.own (xs.map enc)) := blt_lstT
theorem g_lstR {n : Nat} (h : n ≤ 16777216) : BltR .list [.rng 0 (n : Int)] (.own ((List.range n).map enc)) := blt_lstR h
theorem ev_rng {a : IE} {n : Nat} (ha : Ev C a ρ (.val (enc n)) ρ1) (h : n ≤ 16777216) : Ev C (.blt .range (.acons a .anil)) ρ (.val (.rng 0 (n : Int))) ρ1 := ev_blt (eva_T ha rfl eva_nil) (blt_rngN h)
theorem g_srtL [DecidableEq α] [Dt α] [Od α] {xs : List α} (h : Dt.dep α ≤ 50 := by decide) : BltR .sorted [.lst (xs.map enc)] (.own ((srt xs).map enc)) := blt_srtL h
theorem g_srtD [DecidableEq α] [Dt α] [Od α] {kvs : List (α × β)} (h : Dt.dep α ≤ 50 := by decide) : BltR .sorted [.dct (encKV kvs)] (.own ((srt (kvs.map (·.1))).map enc)) := blt_srtD h
theorem g_ixoT [DecidableEq α] [Dt α] {a : α} {xs : List α} (hm : a ∈ xs) (h : Dt.dep α ≤ 40 := by decide) : MthR .index (enc xs) [enc a] (.val (enc (ixo xs a))) := mth_ixT hm h
theorem i_T {a : IE} {xs : List α} {b : Bool} (ha : Ev C a ρ (.val (enc xs)) ρ1) : EvI C b (.itSeq a) ρ (xs.map enc) ρ1 := by
  cases b with
  | true => exact evi_T ha itm_tup
  | false => exact evi_F ha kp_val itm_tup
theorem i_Lv {a : IE} {xs : List α} {b : Bool} (ha : Ev C a ρ (.val (.lst (xs.map enc))) ρ1) : EvI C b (.itSeq a) ρ (xs.map enc) ρ1 := by
  cases b with
  | true => exact evi_T ha itm_lst
  | false => exact evi_F ha kp_val itm_lst
theorem i_Lo {a : IE} {xs : List α} {b : Bool} (ha : Ev C a ρ (.own (xs.map enc)) ρ1) : EvI C b (.itSeq a) ρ (xs.map enc) ρ1 := by
  cases b with
  | true => exact evi_T ha itm_lst
  | false => exact evi_F ha kp_own itm_lst
theorem i_Lb {a : IE} {xs : List α} (ha : Ev C a ρ (.brw (.lst (xs.map enc))) ρ1) : EvI C true (.itSeq a) ρ (xs.map enc) ρ1 := evi_T ha itm_lst
theorem i_R1 {b : Bool} {a : IE} {n : Nat} (ha : Ev C a ρ (.val (enc n)) ρ1) (h : n ≤ 16777216) : EvI C b (.itR1 a) ρ ((List.range n).map enc) ρ1 := evi_r1 ha rfl h
theorem g_compX {vs : List Nat} {tg : Tg} {it c e : IE} {xs : List α} {f : α → D} (p : α → Bool) (g : α → β) (T : α → PEnv) (hp : ρ.plainAt vs = true) (hi : EvI C true it ρ (xs.map f) ρ1)
    (ht : ∀ x ∈ xs, TgR tg (f x) (ρ1.wipe vs) (T x)) (hw : ∀ x, (T x).wipe vs = ρ1.wipe vs) (hb : ρ1.back (ρ1.wipe vs) vs = ρ1) (hc : ∀ x ∈ xs, Ev C c (T x) (.val (.bl (p x))) (T x)) (he : ∀ x ∈ xs, p x = true → EvK C e (T x) (enc (g x)) (T x)) :
    Ev C (.comp vs tg it c e) ρ (.own (((xs.filter p).map g).map enc)) ρ1 := fun Q q => ⟨hp, hi _ fun hz => by
  rw [List.length_map] at hz
  refine comp_fm p (fun x => enc (g x)) xs [] (by simpa using hz) (fun a ha K k1 k2 => ?_) (by rw [hb, List.nil_append]; rw [List.map_map] at q; exact q)
  refine ht a ha _ (hc a ha _ ⟨p a, rfl, fun hx => ?_, fun hx => ?_⟩)
  · obtain ⟨r, h1, h2⟩ := he a ha hx
    refine h1 _ (h2 _ ?_)
    rw [hw]; exact k1 hx
  · rw [hw]; exact k2 hx⟩
theorem g_comp {vs : List Nat} {tg : Tg} {it c e : IE} {xs : List α} (p : α → Bool) (g : α → β) (T : α → PEnv) (hp : ρ.plainAt vs = true) (hi : EvI C true it ρ (xs.map enc) ρ1)
    (ht : ∀ x ∈ xs, TgR tg (enc x) (ρ1.wipe vs) (T x)) (hw : ∀ x, (T x).wipe vs = ρ1.wipe vs) (hb : ρ1.back (ρ1.wipe vs) vs = ρ1) (hc : ∀ x ∈ xs, Ev C c (T x) (.val (.bl (p x))) (T x)) (he : ∀ x ∈ xs, p x = true → EvK C e (T x) (enc (g x)) (T x)) :
    Ev C (.comp vs tg it c e) ρ (.own (((xs.filter p).map g).map enc)) ρ1 := g_compX p g T hp hi ht hw hb hc he
theorem g_compF {vs : List Nat} {tg : Tg} {it c e : IE} {xs : List α} (p : α → Bool) (T : α → PEnv) (hp : ρ.plainAt vs = true) (hi : EvI C true it ρ (xs.map enc) ρ1)
    (ht : ∀ x ∈ xs, TgR tg (enc x) (ρ1.wipe vs) (T x)) (hw : ∀ x, (T x).wipe vs = ρ1.wipe vs) (hb : ρ1.back (ρ1.wipe vs) vs = ρ1) (hc : ∀ x ∈ xs, Ev C c (T x) (.val (.bl (p x))) (T x)) (he : ∀ x ∈ xs, p x = true → EvK C e (T x) (enc x) (T x)) :
    Ev C (.comp vs tg it c e) ρ (.own ((xs.filter p).map enc)) ρ1 := by
  have := g_compX p (fun x => x) T hp hi ht hw hb hc he
  rw [List.map_id'] at this
  exact this
theorem g_compM {vs : List Nat} {tg : Tg} {it e : IE} {xs : List α} (g : α → β) (T : α → PEnv) (hp : ρ.plainAt vs = true) (hi : EvI C true it ρ (xs.map enc) ρ1)
    (ht : ∀ x ∈ xs, TgR tg (enc x) (ρ1.wipe vs) (T x)) (hw : ∀ x, (T x).wipe vs = ρ1.wipe vs) (hb : ρ1.back (ρ1.wipe vs) vs = ρ1) (he : ∀ x ∈ xs, EvK C e (T x) (enc (g x)) (T x)) :
    Ev C (.comp vs tg it (.cst (.bl true)) e) ρ (.own ((xs.map g).map enc)) ρ1 := by
  have := g_compX (fun _ => true) g T hp hi ht hw hb (fun x _ => ev_cst) (fun x hx _ => he x hx)
  rw [List.filter_eq_self.mpr (fun _ _ => rfl)] at this
  exact this
theorem g_dcompM {κ ν : Type} [En κ] [DecidableEq κ] [Dt κ] [Ky κ] [En ν] {vs : List Nat} {tg : Tg} {it ek ev : IE} {xs : List α} (gk : α → κ) (gv : α → ν) (T : α → PEnv) (hp : ρ.plainAt vs = true) (hi : EvI C true it ρ (xs.map enc) ρ1)
    (ht : ∀ x ∈ xs, TgR tg (enc x) (ρ1.wipe vs) (T x)) (hw : ∀ x, (T x).wipe vs = ρ1.wipe vs) (hb : ρ1.back (ρ1.wipe vs) vs = ρ1) (he : ∀ x ∈ xs, EvK C ek (T x) (enc (gk x)) (T x)) (hv : ∀ x ∈ xs, EvK C ev (T x) (enc (gv x)) (T x)) (hd : Ky.kd κ ≤ 8 := by decide) :
    Ev C (.dcomp vs tg it (.cst (.bl true)) ek ev) ρ (.owd (encKV (ptAll (xs.map fun x => (gk x, gv x))))) ρ1 := fun Q q => ⟨hp, hi _ fun hz => by
  rw [List.length_map] at hz
  refine dcomp_G (ρ := ρ1.wipe vs) (fun _ => true) (fun x => enc (gk x)) (fun x => enc (gv x)) xs [] (by simpa using hz) (fun a ha l hl => ?_) (fun a ha K k1 k2 => ?_) ?_
  · obtain ⟨n, h1, h2⟩ := Ky.key (gk a)
    unfold keyOk
    rw [h1, Bool.and_eq_true]
    refine ⟨by show decide (n.depth ≤ 8) = true; exact decide_eq_true (by omega), ?_⟩
    rw [List.all_eq_true]
    intro q hq
    rcases hl q hq with ⟨b, _, e⟩ | ⟨q', h, _⟩
    · rw [e, Ky.scl, Ky.scl]; simp
    · cases h
  · refine ht a ha _ ⟨true, rfl, fun _ => ?_, fun h => by cases h⟩
    obtain ⟨r, h1, h2⟩ := he a ha
    obtain ⟨s, h3, h4⟩ := hv a ha
    refine h1 _ (h2 _ (h3 _ (h4 _ ?_)))
    rw [hw]; exact k1 rfl
  · rw [hb, List.filter_eq_self.mpr (fun _ _ => rfl)]
    have : xs.foldl (fun l a => putD l (enc (gk a)) (enc (gv a))) [] = encKV (ptAll (xs.map fun x => (gk x, gv x))) := by
      have := encKV_foldl (xs.map fun x => (gk x, gv x)) []
      rw [List.map_map, List.foldl_map] at this
      exact this
    rw [this]; exact q⟩
theorem tg_P {i j : Nat} {p : α × β} : TgR (.tp [i, j]) (enc p) ρ ((ρ.put i (.val (enc p.1))).put j (.val (enc p.2))) := tg_tp2
def fz : SV → List D → SV
  | .own _, xs => .own xs
  | _, xs => .val (.lst xs)
def bz : SV → List D → RV
  | .own _, xs => .brw (.lst xs)
  | _, xs => .val (.lst xs)
theorem bz_toD {v : SV} {xs : List D} : (bz v xs).toD = .lst xs := by cases v <;> rfl
theorem ev_borF {i : Nat} {v : SV} {xs : List D} (h : ρ.get i = fz v xs) : Ev C (.bor i) ρ (bz v xs) ρ := fun Q q => by
  show rdB ρ i Q
  unfold rdB
  rw [h]
  cases v <;> exact q
theorem bzBlt {f : BI} {v : SV} {xs : List D} {t : RV} (h : BltR f [.lst xs] t) : BltR f [(bz v xs).toD] t := by rw [bz_toD]; exact h
theorem i_Lf {a : IE} {v : SV} {xs : List α} (ha : Ev C a ρ (bz v (xs.map enc)) ρ1) : EvI C true (.itSeq a) ρ (xs.map enc) ρ1 := evi_T ha (by rw [bz_toD]; exact itm_lst)
theorem ev_unO [Inhabited α] {e : IE} {o : Option α} (h : Ev C e ρ (.val (enc o)) ρ') (hs : o.isSome = true) : Ev C e ρ (.val (enc (o.getD default))) ρ' := by
  obtain ⟨a, rfl⟩ := Option.isSome_iff_exists.mp hs
  exact h
end
section
variable {α : Type} [En α] [DecidableEq α] [Dt α] [Od α]
def minO [Inhabited α] : List α → α
  | [] => default
  | x :: r => r.foldl (fun a y => if Od.lt y a = true then y else a) x
theorem minD_enc : ∀ (r : List α) (x : α), PySem.W.minD (enc x).py (D.pys (r.map enc)) = (enc (r.foldl (fun a y => if Od.lt y a = true then y else a) x)).py
  | [], x => rfl
  | y :: r, x => by
    show PySem.W.minD (if PySem.W.dataLt (enc y).py (enc x).py then (enc y).py else (enc x).py) (D.pys (r.map enc)) = _
    rw [Od.dlt, List.foldl_cons]
    cases Od.lt y x
    · exact minD_enc r x
    · exact minD_enc r y
theorem py_inj {a b : α} (h : (enc a).py = (enc b).py) : a = b := by
  have h1 : PyData.eqv (enc a).py (enc b).py = decide (a = b) := Dt.eqv a b
  have h2 : PyData.eqv (enc b).py (enc b).py = decide (b = b) := Dt.eqv b b
  rw [h, h2] at h1
  simpa using h1.symm
theorem minP_enc [Inhabited α] {xs : List α} (hn : xs ≠ []) {Q : RV → Prop} (q : Q (.val (enc (minO xs)))) (h : Dt.dep α ≤ 50) : minP (xs.map enc) Q := by
  refine .inr ⟨sortable_enc xs h, by simpa using hn, fun d hd e => ?_⟩
  obtain ⟨a, _, rfl⟩ := List.mem_map.mp hd
  cases xs with
  | nil => exact absurd rfl hn
  | cons x r =>
    have e : (enc a).py = PySem.W.minD (enc x).py (D.pys (r.map enc)) := e
    rw [minD_enc] at e
    rw [py_inj e]; exact q
theorem g_minLO [Inhabited α] {xs : List α} (hn : xs ≠ []) (h : Dt.dep α ≤ 50 := by decide) : BltR .min [.lst (xs.map enc)] (.val (enc (minO xs))) := fun Q q => minP_enc hn q h
variable {C : PC} {ρ ρ1 ρ2 : PEnv} {r s : RV}
end
section
variable {α : Type} [En α] [Vk α] {C : PC} {ρ ρ1 : PEnv}
end
section
variable {α : Type} [En α] [Vk α]
end
end PL
namespace PL
open PySem PySem.Spec PyProof.Rows L2
open En
def t_ring : Tx := ⟨"ring", by decide +kernel⟩
def t_line : Tx := ⟨"line", by decide +kernel⟩
def t_geometry : Tx := ⟨"geometry", by decide +kernel⟩
def t_misses : Tx := ⟨"misses", by decide +kernel⟩
def t_stuck : Tx := ⟨"stuck", by decide +kernel⟩
def t_parts : Tx := ⟨"parts", by decide +kernel⟩
end PL
namespace PL
open PySem PySem.Spec PyProof.Rows L2
open En
theorem V.ext {a b : V} (h : a.1 = b.1) : a = b := Subtype.ext h
section
variable {α β γ : Type} [En α] [Vk α] [En β] [Vk β]
theorem V.sq_tup {v : V} (h : v.is .tuple = true) : v.sq = true := by
  unfold V.is at h; unfold V.sq; rw [h]; rfl
theorem V.sq_lst {v : V} (h : v.is .list = true) : v.sq = true := by
  unfold V.is at h; unfold V.sq; rw [h]; simp
end
theorem countP0 {α : Type} (p : α → Bool) (xs : List α) : decide (xs.countP p = 0) = xs.all fun x => !p x := by
  rw [Bool.eq_iff_iff, decide_eq_true_eq, List.countP_eq_zero, List.all_eq_true]
  constructor
  · intro h x hx; simpa using h x hx
  · intro h x hx; simpa using h x hx
theorem nodup_map' {α β : Type} {f : α → β} (hf : ∀ a b, f a = f b → a = b) {xs : List α} : (xs.map f).Nodup ↔ xs.Nodup := by
  unfold List.Nodup
  rw [List.pairwise_map]
  exact ⟨fun h => h.imp fun {a b} g e => g (by rw [e]), fun h => h.imp fun {a b} g e => g (hf _ _ e)⟩
end PL
namespace PL
open PySem PySem.Spec PyProof.Rows L2
open En
def f_is_integer (value : V) : Bool :=
  ((V.is .int value) && (!(V.is .bool value)))
@[irreducible] def sp_f_is_integer : Spec := fun ds dr Q _ => ∃ (value : V), ds = [enc value] ∧ Q (.val (enc (f_is_integer value))) dr
end PL
namespace PL
open PySem PySem.Spec PyProof.Rows L2
open En
def f_is_number (value : V) (low : Int) (high : Int) : Bool :=
  ((f_is_integer value) && ((decide (low ≤ (V.as Int value))) && (decide ((V.as Int value) ≤ high))))
def pre_f_is_number (value : V) (low : Int) (high : Int) : Prop :=
  ((f_is_integer value) = true → ((V.isA Int value)))
@[irreducible] def sp_f_is_number : Spec := fun ds dr Q _ => ∃ (value : V) (low : Int) (high : Int), ds = [enc value, enc low, enc high] ∧ pre_f_is_number value low high ∧ Q (.val (enc (f_is_number value low high))) dr
end PL
namespace PL
open PySem PySem.Spec PyProof.Rows L2
open En
def f_is_tuple (value : V) (size : Nat) : Bool :=
  ((V.is .tuple value) && (decide ((V.len value) = size)))
def pre_f_is_tuple (value : V) (size : Nat) : Prop :=
  ((V.is .tuple value) = true → ((V.sq value = true)))
@[irreducible] def sp_f_is_tuple : Spec := fun ds dr Q _ => ∃ (value : V) (size : Nat), ds = [enc value, enc size] ∧ pre_f_is_tuple value size ∧ Q (.val (enc (f_is_tuple value size))) dr
end PL
namespace PL
open PySem PySem.Spec PyProof.Rows L2
open En
def f_is_tagged (value : V) (word : Tx) (size : Nat) : Bool :=
  ((f_is_tuple value size) && ((V.is .str (V.nth value 0)) && (veq ((V.nth value 0) : V) word)))
def pre_f_is_tagged (value : V) (word : Tx) (size : Nat) : Prop :=
  (pre_f_is_tuple value size) ∧ ((f_is_tuple value size) = true → ((V.sq value = true ∧ 0 < V.len value) ∧ ((V.is .str (V.nth value 0)) = true → ((V.sq value = true ∧ 0 < V.len value)))))
@[irreducible] def sp_f_is_tagged : Spec := fun ds dr Q _ => ∃ (value : V) (word : Tx) (size : Nat), ds = [enc value, enc word, enc size] ∧ pre_f_is_tagged value word size ∧ Q (.val (enc (f_is_tagged value word size))) dr
end PL
namespace PL
open PySem PySem.Spec PyProof.Rows L2
open En
def f_is_between (value : V) (low : Int) (high : Int) : Bool :=
  ((V.is .tuple value) && ((decide (low ≤ (((V.len value) : Nat) : Int))) && (decide ((((V.len value) : Nat) : Int) ≤ high))))
def pre_f_is_between (value : V) (low : Int) (high : Int) : Prop :=
  ((V.is .tuple value) = true → ((V.sq value = true)))
@[irreducible] def sp_f_is_between : Spec := fun ds dr Q _ => ∃ (value : V) (low : Int) (high : Int), ds = [enc value, enc low, enc high] ∧ pre_f_is_between value low high ∧ Q (.val (enc (f_is_between value low high))) dr
end PL
namespace PL
open PySem PySem.Spec PyProof.Rows L2
open En
def f_is_ascending (value : V) : Bool :=
  ((List.range' 1 ((V.len value) - 1)).all fun (at2 : Nat) => (vlt (gz (V.els value) (((at2 : Nat) : Int) - (1 : Int))) (V.nth value at2)))
def pre_f_is_ascending (value : V) : Prop :=
  (V.sq value = true) ∧ ((V.len value) ≤ 16777216) ∧ (∀ at2 ∈ (List.range' 1 ((V.len value) - 1)), ((V.sq value = true ∧ (-((V.len value : Nat) : Int) ≤ (((at2 : Nat) : Int) - (1 : Int)) ∧ (((at2 : Nat) : Int) - (1 : Int)) < (V.len value : Nat))) ∧ (V.sq value = true ∧ at2 < V.len value) ∧ ((ltD (gz (V.els value) (((at2 : Nat) : Int) - (1 : Int))).1 (V.nth value at2).1).isSome = true)))
@[irreducible] def sp_f_is_ascending : Spec := fun ds dr Q _ => ∃ (value : V), ds = [enc value] ∧ pre_f_is_ascending value ∧ Q (.val (enc (f_is_ascending value))) dr
end PL
namespace PL
open PySem PySem.Spec PyProof.Rows L2
open En
def f_are_integers (value : V) (low : Int) (high : Int) : Bool :=
  ((V.is .tuple value) && ((V.els value).all fun (one : V) => (f_is_number one low high)))
def pre_f_are_integers (value : V) (low : Int) (high : Int) : Prop :=
  ((V.is .tuple value) = true → ((V.sq value = true) ∧ (∀ one ∈ (V.els value), ((pre_f_is_number one low high)))))
@[irreducible] def sp_f_are_integers : Spec := fun ds dr Q _ => ∃ (value : V) (low : Int) (high : Int), ds = [enc value, enc low, enc high] ∧ pre_f_are_integers value low high ∧ Q (.val (enc (f_are_integers value low high))) dr
end PL
namespace PL
open PySem PySem.Spec PyProof.Rows L2
open En
def f_are_rows (value : V) (size : Nat) (low : Int) (high : Int) : Bool :=
  (if ((!(V.is .tuple value)) || (!((V.els value).all fun (row : V) => (f_is_tuple row size)))) = true then false else (((V.els value).all fun (row2 : V) => (f_are_integers row2 low high)) && (f_is_ascending value)))
def pre_f_are_rows (value : V) (size : Nat) (low : Int) (high : Int) : Prop :=
  ((!(V.is .tuple value)) = false → ((V.sq value = true) ∧ (∀ row ∈ (V.els value), ((pre_f_is_tuple row size))))) ∧ (((!(V.is .tuple value)) || (!((V.els value).all fun (row : V) => (f_is_tuple row size)))) = false → ((V.sq value = true) ∧ (∀ row2 ∈ (V.els value), ((pre_f_are_integers row2 low high))) ∧ (((V.els value).all fun (row2 : V) => (f_are_integers row2 low high)) = true → ((pre_f_is_ascending value)))))
@[irreducible] def sp_f_are_rows : Spec := fun ds dr Q _ => ∃ (value : V) (size : Nat) (low : Int) (high : Int), ds = [enc value, enc size, enc low, enc high] ∧ pre_f_are_rows value size low high ∧ Q (.val (enc (f_are_rows value size low high))) dr
end PL
namespace PL
open PySem PySem.Spec PyProof.Rows L2
open En
def f_is_line (value : V) (things : Nat) : Bool :=
  ((f_is_tuple value things) && ((f_are_integers value ((0 : Int) : Int) ((((things : Nat) : Int) - (1 : Int)) : Int)) && (veq (Ls.mk (srt (V.as (List Int) value))) (Ls.mk (List.range things)))))
def pre_f_is_line (value : V) (things : Nat) : Prop :=
  (pre_f_is_tuple value things) ∧ ((f_is_tuple value things) = true → ((pre_f_are_integers value ((0 : Int) : Int) ((((things : Nat) : Int) - (1 : Int)) : Int)) ∧ ((f_are_integers value ((0 : Int) : Int) ((((things : Nat) : Int) - (1 : Int)) : Int)) = true → ((V.isA (List Int) value) ∧ (things ≤ 16777216)))))
@[irreducible] def sp_f_is_line : Spec := fun ds dr Q _ => ∃ (value : V) (things : Nat), ds = [enc value, enc things] ∧ pre_f_is_line value things ∧ Q (.val (enc (f_is_line value things))) dr
end PL
namespace PL
open PySem PySem.Spec PyProof.Rows L2
open En
def f_law_kind (x : V) : Nat :=
  (if (V.is .bool x) = true then 1 else (if (V.is .int x) = true then 2 else (if (V.is .str x) = true then 3 else (if (V.is .tuple x) = true then 4 else (if (V.is .list x) = true then 5 else (if (V.non x) = true then 6 else 0))))))
@[irreducible] def sp_f_law_kind : Spec := fun ds dr Q _ => ∃ (x : V), ds = [enc x] ∧ Q (.val (enc (f_law_kind x))) dr
end PL
namespace PL
open PySem PySem.Spec PyProof.Rows L2
open En
def f_law_int (x : V) (low : Int) (high : Int) : Bool :=
  ((decide ((f_law_kind x) = 2)) && ((decide (low ≤ (V.as Int x))) && (decide ((V.as Int x) ≤ high))))
def pre_f_law_int (x : V) (low : Int) (high : Int) : Prop :=
  ((decide ((f_law_kind x) = 2)) = true → ((V.isA Int x)))
@[irreducible] def sp_f_law_int : Spec := fun ds dr Q _ => ∃ (x : V) (low : Int) (high : Int), ds = [enc x, enc low, enc high] ∧ pre_f_law_int x low high ∧ Q (.val (enc (f_law_int x low high))) dr
end PL
namespace PL
open PySem PySem.Spec PyProof.Rows L2
open En
def f_law_ints (x : V) (low : Int) (high : Int) : Bool :=
  (if (!(V.is .tuple x)) = true then false else (if ((V.els x).any fun one => (!(f_law_int one low high))) = true then false else true))
def pre_f_law_ints (x : V) (low : Int) (high : Int) : Prop :=
  ((!(V.is .tuple x)) = false → ((V.sq x = true) ∧ (∀ one ∈ (V.els x), ((pre_f_law_int one low high)))))
@[irreducible] def sp_f_law_ints : Spec := fun ds dr Q _ => ∃ (x : V) (low : Int) (high : Int), ds = [enc x, enc low, enc high] ∧ pre_f_law_ints x low high ∧ Q (.val (enc (f_law_ints x low high))) dr
end PL
namespace PL
open PySem PySem.Spec PyProof.Rows L2
open En
def f_law_up (x : V) : Bool :=
  (if ((List.range' 1 ((V.len x) - 1)).any fun k => (!(vlt (gz (V.els x) (((k : Nat) : Int) - (1 : Int))) (V.nth x k)))) = true then false else true)
def pre_f_law_up (x : V) : Prop :=
  (V.sq x = true) ∧ ((V.len x) ≤ 16777216) ∧ (∀ k ∈ (List.range' 1 ((V.len x) - 1)), ((V.sq x = true ∧ (-((V.len x : Nat) : Int) ≤ (((k : Nat) : Int) - (1 : Int)) ∧ (((k : Nat) : Int) - (1 : Int)) < (V.len x : Nat))) ∧ (V.sq x = true ∧ k < V.len x) ∧ ((ltD (gz (V.els x) (((k : Nat) : Int) - (1 : Int))).1 (V.nth x k).1).isSome = true)))
@[irreducible] def sp_f_law_up : Spec := fun ds dr Q _ => ∃ (x : V), ds = [enc x] ∧ pre_f_law_up x ∧ Q (.val (enc (f_law_up x))) dr
end PL
namespace PL
open PySem PySem.Spec PyProof.Rows L2
open En
def f_law_tuples (x : V) (size : Nat) (low : Int) (high : Int) : Bool :=
  (if (!(V.is .tuple x)) = true then false else (if ((V.els x).any fun row => ((!(f_law_ints row low high)) || (!(decide ((V.len row) = size))))) = true then false else (f_law_up x)))
def pre_f_law_tuples (x : V) (size : Nat) (low : Int) (high : Int) : Prop :=
  ((!(V.is .tuple x)) = false → ((V.sq x = true) ∧ (∀ row ∈ (V.els x), ((pre_f_law_ints row low high) ∧ ((!(f_law_ints row low high)) = false → ((V.sq row = true))))) ∧ (((V.els x).any fun row => ((!(f_law_ints row low high)) || (!(decide ((V.len row) = size))))) = false → ((pre_f_law_up x)))))
@[irreducible] def sp_f_law_tuples : Spec := fun ds dr Q _ => ∃ (x : V) (size : Nat) (low : Int) (high : Int), ds = [enc x, enc size, enc low, enc high] ∧ pre_f_law_tuples x size low high ∧ Q (.val (enc (f_law_tuples x size low high))) dr
end PL
namespace PL
open PySem PySem.Spec PyProof.Rows L2
open En
def f_law_tag (x : V) (word : Tx) (size : Nat) : Bool :=
  ((V.is .tuple x) && ((decide ((V.len x) = size)) && ((V.is .str (V.nth x 0)) && (veq ((V.nth x 0) : V) word))))
def pre_f_law_tag (x : V) (word : Tx) (size : Nat) : Prop :=
  ((V.is .tuple x) = true → ((V.sq x = true) ∧ ((decide ((V.len x) = size)) = true → ((V.sq x = true ∧ 0 < V.len x) ∧ ((V.is .str (V.nth x 0)) = true → ((V.sq x = true ∧ 0 < V.len x)))))))
@[irreducible] def sp_f_law_tag : Spec := fun ds dr Q _ => ∃ (x : V) (word : Tx) (size : Nat), ds = [enc x, enc word, enc size] ∧ pre_f_law_tag x word size ∧ Q (.val (enc (f_law_tag x word size))) dr
end PL
namespace PL
open PySem PySem.Spec PyProof.Rows L2
open En
def f_law_is (x : Bool) (due : Bool) : Bool :=
  (if due = true then (decide (x = true)) else (decide (x = false)))
def nm_f_law_is : List Str := ["x", "due"]
def ir_f_law_is : IS :=
(.seq (.ifs (.tst (.bor 1))
 (.seq (.ret (.cmp .is (.bor 0) (.cst (.bl true))))
  .skip)
 .skip)
  (.seq (.ret (.cmp .is (.bor 0) (.cst (.bl false))))
  .skip))
def fs_f_law_is : List (Nat × Str) := []
def cs_f_law_is : List (Str × D) := []
theorem bl_f_law_is {C : PC} {dn : Nat} (x : Bool) (due : Bool) : Bl C ⟨dn, [], fun (_ : Unit) _ => [], fun x => .val (enc x)⟩ ir_f_law_is ⟨[.val (enc x), .val (enc due)], dn⟩ (.out (f_law_is x due)) :=
  (bl_if Tn2.out (ev_tst (ev_bor rfl) g_trB) (fun h1 => (bl_as (bl_ret (x := ((decide (x = true)) : Bool)) (ev_cmp (ev_bor rfl) (ev_cB true) g_isB) rfl))) (fun h1 => (bl_sk (bl_ret (x := ((decide (x = false)) : Bool)) (ev_cmp (ev_bor rfl) (ev_cB false) g_isB) rfl))))
@[irreducible] def sp_f_law_is : Spec := fun ds dr Q _ => ∃ (x : Bool) (due : Bool), ds = [enc x, enc due] ∧ Q (.val (enc (f_law_is x due))) dr
theorem vl_f_law_is (x : Bool) (due : Bool) : VlR sp_f_law_is [enc x, enc due] (.val (enc (f_law_is x due))) := fun dr Q xe q => by unfold sp_f_law_is; exact ⟨x, due, rfl, q⟩
theorem wp_f_law_is (sp : Nat → Spec) (xe : Nat → Nat → Prop) : ∀ ds dr Q, sp_f_law_is ds dr Q (fun _ _ => False) → wpF ⟨sp, xe⟩ nm_f_law_is.length ir_f_law_is ds dr Q := by
  intro ds dr Q h
  unfold sp_f_law_is at h
  obtain ⟨x, due, rfl, hq⟩ := h
  exact wpF_bl (bl_f_law_is (C := ⟨sp, xe⟩) x due) hq
end PL
namespace PL
open PySem PySem.Spec PyProof.Rows L2
open En
def f_law_is_line (n2 : Nat) (x : V) : Bool :=
  ((f_law_ints x ((0 : Int) : Int) ((((n2 : Nat) : Int) - (1 : Int)) : Int)) && (veq (Ls.mk (srt (V.as (List Int) x))) (Ls.mk (List.range n2))))
def pre_f_law_is_line (n2 : Nat) (x : V) : Prop :=
  (pre_f_law_ints x ((0 : Int) : Int) ((((n2 : Nat) : Int) - (1 : Int)) : Int)) ∧ ((f_law_ints x ((0 : Int) : Int) ((((n2 : Nat) : Int) - (1 : Int)) : Int)) = true → ((V.isA (List Int) x) ∧ (n2 ≤ 16777216)))
@[irreducible] def sp_f_law_is_line : Spec := fun ds dr Q _ => ∃ (n2 : Nat) (x : V), ds = [enc n2, enc x] ∧ pre_f_law_is_line n2 x ∧ Q (.val (enc (f_law_is_line n2 x))) dr
end PL
namespace PL
open PySem PySem.Spec PyProof.Rows L2
open En
theorem law_is_self (a : Bool) : f_law_is a a = true := by cases a <;> rfl
def LineOf (n : Nat) (l : List Nat) : Prop := l.Perm (List.range n)
end PL
namespace PL
open PySem PySem.Spec PyProof.Rows L2
open En
end PL
namespace PL
open PySem PySem.Spec PyProof.Rows L2
open En
variable {C : PC} {ρ ρ' ρ1 ρ2 ρ3 : PEnv} {r r' s t : RV} {d d' : D} {n : Nat} {Q : RK} {E : PEnds}
theorem wp_call {f : Nat} {as : IE} {ds : List D} {S : Spec} (hS : C.sp f = S) (ha : EvA C false as ρ ds ρ1) (h : S ds ρ1.dr (fun r n => Q r ⟨ρ1.sl, n⟩) C.xe) : wpE C (.call f as) ρ Q := ha _ (by rw [hS]; exact h)
theorem wp_draw {f : Nat} {as : IE} {m : Nat} (hS : C.sp f = sp_draw) (ha : EvA C false as ρ [.pool, .int (m : Nat)] ρ1) (hm : 0 < m) (hd : ρ1.dr < 2 ^ 40) (h : ∀ v : Nat, v < m → Q (.val (.int (v : Nat))) ⟨ρ1.sl, ρ1.dr + 1⟩) : wpE C (.call f as) ρ Q := wp_call hS ha ⟨m, rfl, by omega, hd, fun v h0 h1 => by
  obtain ⟨k, rfl⟩ : ∃ k : Nat, v = k := ⟨v.toNat, by omega⟩
  exact h k (by omega)⟩
end PL
namespace PL
open PySem PySem.Spec PyProof.Rows L2
open En
structure M (α : Type) where
  run : Nat → (α → Nat → Prop) → Prop
  mono : ∀ d (P Q : α → Nat → Prop), (∀ a d', P a d' → Q a d') → run d P → run d Q
def M.pure {α : Type} (a : α) : M α := ⟨fun d Q => Q a d, fun _ _ _ h q => h _ _ q⟩
def M.bind {α β : Type} (m : M α) (f : α → M β) : M β := ⟨fun d Q => m.run d fun a d' => (f a).run d' Q, fun d P Q h q => m.mono d _ _ (fun a d' => (f a).mono d' P Q h) q⟩
def M.req {α : Type} (P : Prop) (m : M α) : M α := ⟨fun d Q => P ∧ m.run d Q, fun d A B h q => ⟨q.1, m.mono d A B h q.2⟩⟩
def M.draw (k : Nat) : M Nat := ⟨fun d Q => (0 < k ∧ d < 2 ^ 40) ∧ ∀ v, v < k → Q v (d + 1), fun _ _ _ h q => ⟨q.1, fun v hv => h _ _ (q.2 v hv)⟩⟩
def M.any {α : Type} (c : Nat) (P : α → Prop) : M α := ⟨fun d Q => d + c < 2 ^ 40 ∧ ∀ a d', P a → d' ≤ d + c → Q a d', fun _ _ _ h q => ⟨q.1, fun a d' ha hd => h _ _ (q.2 a d' ha hd)⟩⟩
def M.opt {R X : Type} (inj : R → X) (m : M X) : Option R → M X
  | some r => M.pure (inj r)
  | none => m
def M.fold {α τ : Type} (step : τ → α → M τ) : List α → τ → M τ
  | [], s => M.pure s
  | x :: xs, s => (step s x).bind fun s' => M.fold step xs s'
def M.search {α R : Type} (o : α → M (Option R)) : List α → M (Option R)
  | [] => M.pure none
  | x :: xs => (o x).bind fun t => match t with
    | some r => M.pure (some r)
    | none => M.search o xs
def M.mapM {α β : Type} (g : α → M β) : List α → M (List β)
  | [] => M.pure []
  | x :: xs => (g x).bind fun y => (M.mapM g xs).bind fun ys => M.pure (y :: ys)
def M.comp {α β : Type} (p : α → M Bool) (g : α → M β) : List α → M (List β)
  | [] => M.pure []
  | x :: xs => (p x).bind fun k => if k = true then (g x).bind fun y => (M.comp p g xs).bind fun ys => M.pure (y :: ys) else M.comp p g xs
section
variable {C : PC} {sl sl1 sl2 sl3 : List SV} {α β γ τ σ R X : Type} {b : IS}
def EvM (C : PC) (e : IE) (sl : List SV) (m : M α) (w : α → RV) (sl' : List SV) : Prop := ∀ d (Q : RK), m.run d (fun a d' => Q (w a) ⟨sl', d'⟩) → wpE C e ⟨sl, d⟩ Q
theorem em_val {e : IE} {a : α} {w : α → RV} (h : ∀ d, Ev C e ⟨sl, d⟩ (w a) ⟨sl1, d⟩) : EvM C e sl (M.pure a) w sl1 := fun d Q q => h d Q q
theorem em_draw {f : Nat} {a b : IE} {k : Nat} (hS : C.sp f = sp_draw) (ha : ∀ d, Ev C a ⟨sl, d⟩ (.val .pool) ⟨sl, d⟩) (hb : ∀ d, Ev C b ⟨sl, d⟩ (.val (enc k)) ⟨sl1, d⟩) : EvM C (.call f (.acons a (.acons b .anil))) sl (M.draw k) (fun v => .val (enc v)) sl1 := fun d Q q =>
  wp_draw hS (eva_F (ha d) kp_val (eva_F (hb d) kp_val eva_nil)) q.1.1 q.1.2 fun v hv => q.2 v hv
def EvAM (C : PC) (b : Bool) (as : IE) (sl : List SV) (m : M τ) (ws : τ → List D) (sl' : List SV) : Prop := ∀ d (Q : AK), m.run d (fun a d' => Q (ws a) ⟨sl', d'⟩) → wpA C b as ⟨sl, d⟩ Q
theorem am_lastT {a as : IE} {m : M τ} {w : τ → RV} {ds : List D} (ha : EvM C a sl m w sl1) (hs : ∀ d, EvA C true as ⟨sl1, d⟩ ds ⟨sl2, d⟩) : EvAM C true (.acons a as) sl m (fun x => (w x).toD :: ds) sl2 := fun d Q q => ha d _ (m.mono d _ _ (fun x d' h => hs d' _ h) q)
theorem em_callP {f : Nat} {as : IE} {S : Spec} {ds : List D} {k : M α} {w : α → RV} (hS : C.sp f = S) (ha : ∀ d, EvA C false as ⟨sl, d⟩ ds ⟨sl1, d⟩) (h : ∀ dr (Q : RV → Nat → Prop) xe, k.run dr (fun a d => Q (w a) d) → S ds dr Q xe) : EvM C (.call f as) sl k w sl1 := fun d Q q => ha d _ (by
  show C.sp f _ _ _ _
  rw [hS]
  exact h d _ _ q)
theorem em_blt {f : BI} {as : IE} {m : M τ} {ws : τ → List D} (P : τ → Prop) {g : τ → α} {w : α → RV} (ha : EvAM C true as sl m ws sl1) (h : ∀ x, P x → BltR f (ws x) (w (g x))) : EvM C (.blt f as) sl (m.bind fun x => M.req (P x) (M.pure (g x))) w sl1 := fun d Q q => ha d _ (m.mono d _ _ (fun x d' hk => h x hk.1 (fun z => Q z _) hk.2) q)
theorem em_bin2 {o : Op2} {a b : IE} {m : M τ} {r1 : RV} {w2 : τ → RV} (P : τ → Prop) {g : τ → α} {w : α → RV} (ha : ∀ d, Ev C a ⟨sl, d⟩ r1 ⟨sl1, d⟩) (hb : EvM C b sl1 m w2 sl2) (h : ∀ x, P x → BinR o r1.toD (w2 x).toD (w (g x))) : EvM C (.bin o a b) sl (m.bind fun x => M.req (P x) (M.pure (g x))) w sl2 := fun d Q q => ha d _ (hb d _ (m.mono d _ _ (fun x d' hk => h x hk.1 (fun z => Q z _) hk.2) q))
theorem em_cmp1 {o : Cm} {a b : IE} {m : M τ} {w1 : τ → RV} {r2 : RV} (P : τ → Prop) {g : τ → Bool} (ha : EvM C a sl m w1 sl1) (hb : ∀ d, Ev C b ⟨sl1, d⟩ r2 ⟨sl2, d⟩) (h : ∀ x, P x → CmpR o (w1 x).toD r2.toD (g x)) : EvM C (.cmp o a b) sl (m.bind fun x => M.req (P x) (M.pure (g x))) (fun k => .val (enc k)) sl2 := fun d Q q => ha d _ (m.mono d _ _ (fun x d' hk => hb d' _ (h x hk.1 (fun z => Q (.val (.bl z)) _) hk.2)) q)
theorem em_idx2 {a b : IE} {m : M τ} {r1 : RV} {w2 : τ → RV} (P : τ → Prop) {g : τ → α} [En α] (ha : ∀ d, Ev C a ⟨sl, d⟩ r1 ⟨sl1, d⟩) (hb : EvM C b sl1 m w2 sl2) (h : ∀ x, P x → IdxR r1.toD (w2 x).toD (enc (g x))) : EvM C (.idx a b) sl (m.bind fun x => M.req (P x) (M.pure (g x))) (fun x => .val (enc x)) sl2 := fun d Q q => ha d _ (hb d _ (m.mono d _ _ (fun x d' hk => h x hk.1 (fun z => Q (.val z) _) hk.2) q))
def EvIM (C : PC) (bb : Bool) (it : IE) (sl : List SV) (m : M τ) (f : τ → List D) (sl' : List SV) : Prop := ∀ d (Q : AK), m.run d (fun x d' => (f x).length ≤ sizeLine → Q (f x) ⟨sl', d'⟩) → wpI C bb it ⟨sl, d⟩ Q
theorem im_pure {bb : Bool} {it : IE} {ds : List D} (h : ∀ d, EvI C bb it ⟨sl, d⟩ ds ⟨sl1, d⟩) : EvIM C bb it sl (M.pure ()) (fun _ => ds) sl1 := fun d Q q => h d Q q
theorem im_R1 {bb : Bool} {a : IE} {m : M τ} {k : τ → Nat} (ha : EvM C a sl m (fun x => .val (enc (k x))) sl1) : EvIM C bb (.itR1 a) sl (m.bind fun x => M.req (k x ≤ 16777216) (M.pure (List.range (k x)))) (fun xs => xs.map enc) sl1 := fun d Q q => ha d _ (m.mono d _ _ (fun x d' hk => by
  have := i_R1 (C := C) (b := bb) (a := .cst (.int (k x))) (ρ := ⟨sl1, d'⟩) (ev_cN (k x) rfl) hk.1
  exact this Q hk.2) q)
theorem comp_core [En α] [En β] {vs : List Nat} {tg : Tg} {c e : IE} {p : α → M Bool} {g : α → M β} {wg : β → RV} {T : α → List SV} {sl0 : List SV} {K : List D → PEnv → Prop}
    (hk : ∀ y, Kp (wg y) (enc y)) (hw : ∀ (x : α) d, (⟨T x, d⟩ : PEnv).wipe vs = ⟨sl0, d⟩) : ∀ (xs : List α) (acc : List β) d, acc.length + xs.length ≤ sizeLine →
    (∀ x ∈ xs, ∀ d, TgR tg (enc x) ⟨sl0, d⟩ ⟨T x, d⟩) → (∀ x ∈ xs, EvM C c (T x) (p x) (fun k => .val (enc k)) (T x)) → (∀ x ∈ xs, EvM C e (T x) (g x) wg (T x)) →
    (M.comp p g xs).run d (fun ys d' => K ((acc ++ ys).map enc) ⟨sl0, d'⟩) → compL vs tg (wpE C c) (wpE C e) (xs.map enc) ⟨sl0, d⟩ (acc.map enc) K
  | [], acc, d, _, _, _, _, q => by
    have q : K ((acc ++ []).map enc) ⟨sl0, d⟩ := q
    rw [List.append_nil] at q; exact q
  | x :: xs, acc, d, hz, ht, hc, he, q => by
    have hz : acc.length + (xs.length + 1) ≤ sizeLine := hz
    refine ht x List.mem_cons_self d _ (hc x List.mem_cons_self d _ ((p x).mono d _ _ (fun k d1 q => ⟨k, rfl, fun hk1 => ?_, fun hk1 => ?_⟩) q))
    · subst hk1
      refine he x List.mem_cons_self d1 _ ((g x).mono d1 _ _ (fun y d2 q => hk y _ ⟨by rw [List.length_map]; omega, ?_⟩) q)
      rw [hw]
      have := comp_core (K := K) hk hw xs (acc ++ [y]) d2 (by rw [List.length_append, List.length_singleton]; omega) (fun x hx => ht x (List.mem_cons_of_mem _ hx)) (fun x hx => hc x (List.mem_cons_of_mem _ hx)) (fun x hx => he x (List.mem_cons_of_mem _ hx)) ((M.comp p g xs).mono d2 _ _ (fun ys d3 q => by
        have q : K ((acc ++ y :: ys).map enc) ⟨sl0, d3⟩ := q
        rw [List.append_assoc]; exact q) q)
      rw [List.map_append] at this
      exact this
    · subst hk1
      rw [hw]
      exact comp_core hk hw xs acc d1 (by omega) (fun x hx => ht x (List.mem_cons_of_mem _ hx)) (fun x hx => hc x (List.mem_cons_of_mem _ hx)) (fun x hx => he x (List.mem_cons_of_mem _ hx)) q
theorem em_comp [En α] [En β] {vs : List Nat} {tg : Tg} {it c e : IE} {m : M τ} {f : τ → List α} (p : α → M Bool) (g : α → M β) {wg : β → RV} (T : α → List SV) (hp : ∀ d, (⟨sl, d⟩ : PEnv).plainAt vs = true) (hi : EvIM C true it sl m (fun x => (f x).map enc) sl1)
    (ht : ∀ x, ∀ a ∈ f x, ∀ d, TgR tg (enc a) ((⟨sl1, d⟩ : PEnv).wipe vs) ⟨T a, d⟩) (hw : ∀ (a : α) d, (⟨T a, d⟩ : PEnv).wipe vs = (⟨sl1, d⟩ : PEnv).wipe vs) (hb : ∀ d d', (⟨sl1, d⟩ : PEnv).back ((⟨sl1, d'⟩ : PEnv).wipe vs) vs = ⟨sl1, d'⟩)
    (hc : ∀ x, ∀ a ∈ f x, EvM C c (T a) (p a) (fun k => .val (enc k)) (T a)) (hk : ∀ y, Kp (wg y) (enc y)) (he : ∀ x, ∀ a ∈ f x, EvM C e (T a) (g a) wg (T a)) :
    EvM C (.comp vs tg it c e) sl (m.bind fun x => M.comp p g (f x)) (fun ys => .own (ys.map enc)) sl1 := fun d Q q => ⟨hp d, hi d _ (m.mono d _ _ (fun x d1 q hz => by
  rw [List.length_map] at hz
  have key := comp_core (C := C) (vs := vs) (tg := tg) (c := c) (e := e) (p := p) (g := g) (T := T) (sl0 := ((⟨sl1, d1⟩ : PEnv).wipe vs).sl) (K := fun acc ρ2 => Q (.own acc) (PEnv.back ⟨sl1, d1⟩ ρ2 vs)) hk (fun a d => (hw a d).trans rfl) (f x) [] d1 (by simpa using hz) (ht x) (hc x) (he x) ((M.comp p g (f x)).mono d1 _ _ (fun ys d2 q => by
    have e : PEnv.back ⟨sl1, d1⟩ ⟨((⟨sl1, d1⟩ : PEnv).wipe vs).sl, d2⟩ vs = ⟨sl1, d2⟩ := (hb d1 d2)
    show Q (.own (([] ++ ys).map enc)) (PEnv.back ⟨sl1, d1⟩ ⟨((⟨sl1, d1⟩ : PEnv).wipe vs).sl, d2⟩ vs)
    rw [e]; exact q) q)
  exact key) q)⟩
structure Bm (σ R : Type) where
  ps : List Nat
  env : σ → (Nat → SV) → List SV
  w : R → RV
def Bm.at (F : Bm σ R) (d : Nat) : Bk σ R := ⟨d, F.ps, F.env, F.w⟩
def BlM (C : PC) (F : Bm σ R) (b : IS) (sl : List SV) (φ : X → Tn2 σ R) (m : M X) : Prop := ∀ d (E : PEnds), m.run d (fun x d' => (φ x).ends (F.at d') E) → wpS C b ⟨sl, d⟩ E
variable {F : Bm σ R} {φ : X → Tn2 σ R} {m : M X}
theorem bm_pure {x : X} (h : ∀ d, Bl C (F.at d) b ⟨sl, d⟩ (φ x)) : BlM C F b sl φ (M.pure x) := fun d E q => h d E q
theorem bm_req {P : Prop} (h : P → BlM C F b sl φ m) : BlM C F b sl φ (M.req P m) := fun d E q => h q.1 d E q.2
theorem bm_sk (h : BlM C F b sl φ m) : BlM C F (.seq .skip b) sl φ m := h
theorem bm_as {x y z : IS} (h : BlM C F (.seq x (.seq y z)) sl φ m) : BlM C F (.seq (.seq x y) z) sl φ m := h
theorem bm_retO {e : IE} {me : M R} {F : Bm σ R} (h : EvM C e sl me F.w sl1) : BlM C F (.seq (.ret e) b) sl Tn2.out me := fun d E q => h d _ (me.mono d _ _ (fun r d' q => q) q)
theorem bm_asg {i : Nat} {e : IE} {r : RV} {v : SV} (h : ∀ d, Ev C e ⟨sl, d⟩ r ⟨sl1, d⟩) (hs : SlR r v) (hb : BlM C F b (sl1.set i v) φ m) : BlM C F (.seq (.asg (.nm i) e) b) sl φ m := fun d E q => h d _ (hs _ (hb d E q))
theorem bm_asgM {i : Nat} {e : IE} {me : M α} {w : α → RV} {v : α → SV} {k : α → M X} (h : EvM C e sl me w sl1) (hs : ∀ x, SlR (w x) (v x)) (hb : ∀ x, BlM C F b (sl1.set i (v x)) φ (k x)) : BlM C F (.seq (.asg (.nm i) e) b) sl φ (me.bind k) := fun d E q => h d _ (me.mono d _ _ (fun x d' q => hs x _ (hb x d' E q)) q)
theorem bm_popT [En α] {k i : Nat} {e : IE} {me : M Nat} {ts xs : List α} [Inhabited α] {kk : Nat → M X} (h : EvM C e sl me (fun v => .val (enc v)) sl1) (ht : sl.getD k .no = .val (enc ts)) (h0 : (sl.getD i .no).isO = true) (hx : sl1.getD i .no = .own (xs.map enc)) (hz : xs.length ≤ 1000000 ∧ ts.length + 1 ≤ sizeLine)
    (hb : ∀ v, BlM C F b ((sl1.set i (.own ((xs.eraseIdx v).map enc))).set k (.val (enc (ts ++ [xs.getD v default])))) φ (kk v)) : BlM C F (.seq (.popT k i e) b) sl φ (me.bind fun v => M.req (v < xs.length) (kk v)) := fun d E q => by
  refine ⟨ts.map enc, ht, h0, h d _ (me.mono d _ _ (fun v d' q => ?_) q)⟩
  obtain ⟨hv, q⟩ := q
  refine ⟨xs.map enc, (v : Nat), v, enc (xs.getD v default), hx, rfl, ⟨by omega, by omega⟩, by unfold ixN; rw [List.length_map]; simp; omega, by rw [List.getElem?_map, getD_some hv]; rfl, by rw [List.length_map]; exact hz.2, ?_⟩
  have := hb v d' E q
  rw [erase_mapD]
  have e2 : (enc (ts ++ [xs.getD v default]) : D) = .tup (ts.map enc ++ [enc (xs.getD v default)]) := by
    show D.tup ((ts ++ [xs.getD v default]).map enc) = _
    rw [List.map_append]; rfl
  rw [e2] at this
  exact this
theorem bm_if {c : IE} {a a' : IS} {k : Bool} {m1 m2 : M X} (h : ∀ d, Ev C c ⟨sl, d⟩ (.val (.bl k)) ⟨sl1, d⟩) (h1 : k = true → BlM C F (.seq a b) sl1 φ m1) (h2 : k = false → BlM C F (.seq a' b) sl1 φ m2) : BlM C F (.seq (.ifs c a a') b) sl φ (if k = true then m1 else m2) := fun d E q => h d _ ⟨k, rfl, (fun e => h1 e d E (by rw [if_pos e] at q; exact q)), (fun e => h2 e d E (by rw [if_neg (by rw [e]; exact Bool.false_ne_true)] at q; exact q))⟩
theorem bm_go {s : σ} {sl : List SV} {x : X} (hφ : φ x = .go s) (z0 : Nat → SV) (he : sl = F.env s z0) (hz : PA F.ps z0) : BlM C F .skip sl φ (M.pure x) := fun d E q => by
  have q : (φ x).ends (F.at d) E := q
  rw [hφ] at q
  have := (q _ hz).1
  show E.nx ⟨sl, d⟩
  rw [he]
  exact this
theorem bm_for_core {F' : Bm τ Unit} {tg : Tg} {body : IS} {f : α → D} {step : τ → α → M τ} {E : PEnds} {K : τ → Nat → Prop} : ∀ (xs : List α) (s : τ) (z : Nat → SV) d, PA F'.ps z →
    (∀ x ∈ xs, ∀ s z, PA F'.ps z → ∃ sl2, (∀ d, TgR tg (f x) ⟨F'.env s z, d⟩ ⟨sl2, d⟩) ∧ BlM C F' body sl2 Tn2.go (step s x)) →
    (∀ s d, K s d → ∀ z, PA F'.ps z → E.nx ⟨F'.env s z, d⟩) → (M.fold step xs s).run d K → forL tg (wpS C body) (xs.map f) ⟨F'.env s z, d⟩ E
  | [], s, z, d, hz, _, hK, q => hK s d q z hz
  | x :: xs, s, z, d, hz, ht, hK, q => by
    obtain ⟨sl2, h1, h2⟩ := ht x List.mem_cons_self s z hz
    refine h1 d _ (h2 d _ ((step s x).mono d _ _ (fun s' d' q z' hz' => ?_) q))
    have := bm_for_core xs s' z' d' hz' (fun y hy => ht y (List.mem_cons_of_mem _ hy)) hK q
    exact ⟨this, this⟩
theorem bm_for (F' : Bm τ Unit) {tg : Tg} {it : IE} {body : IS} {mi : M β} {xs : β → List α} {f : α → D} (step : τ → α → M τ) {s0 : τ} {kk : τ → M X} (hi : EvIM C false it sl mi (fun x => (xs x).map f) sl1) (z0 : Nat → SV) (he : sl1 = F'.env s0 z0) (hz : PA F'.ps z0)
    (ht : ∀ y, ∀ x ∈ xs y, ∀ s z, PA F'.ps z → ∃ sl2, (∀ d, TgR tg (f x) ⟨F'.env s z, d⟩ ⟨sl2, d⟩) ∧ BlM C F' body sl2 Tn2.go (step s x))
    (hb : ∀ s z, PA F'.ps z → BlM C F b (F'.env s z) φ (kk s)) : BlM C F (.seq (.fr tg it body) b) sl φ (mi.bind fun y => (M.fold step (xs y) s0).bind kk) := fun d E q => hi d _ (mi.mono d _ _ (fun y d1 q _ => by
  rw [he]
  exact bm_for_core (E := ⟨fun ρ1 => wpS C b ρ1 E, E.rt, E.bk, E.ct⟩) (xs y) s0 _ d1 hz (ht y) (fun s d' q z hz => hb s z hz d' E q) q) q)
theorem bm_forP (F' : Bm τ Unit) {tg : Tg} {it : IE} {body : IS} {xs : List α} {f : α → D} {step : τ → α → τ} (P : τ → α → Prop) {s0 : τ} (hi : ∀ d, EvI C false it ⟨sl, d⟩ (xs.map f) ⟨sl1, d⟩) (z0 : Nat → SV) (he : sl1 = F'.env s0 z0) (hz : PA F'.ps z0) (hp : foldP P step xs s0)
    (ht : ∀ dn, ∀ x ∈ xs, ∀ s z, P s x → PA F'.ps z → ∃ ρ2, TgR tg (f x) ⟨F'.env s z, dn⟩ ρ2 ∧ Bl C (F'.at dn) body ρ2 (.go (step s x)))
    (hb : ∀ z, PA F'.ps z → BlM C F b (F'.env (xs.foldl step s0) z) φ m) : BlM C F (.seq (.fr tg it body) b) sl φ m := fun d E q => hi d _ fun _ => by
  rw [he]
  exact bl_for_core (F' := F'.at d) (E := ⟨fun ρ1 => wpS C b ρ1 E, E.rt, E.bk, E.ct⟩) xs s0 _ hz hp (ht d) fun z hz => hb z hz d E q
theorem bm_search_core {F' : Bm Unit R} {tg : Tg} {body : IS} {f : α → D} {o : α → M (Option R)} {E : PEnds} : ∀ (xs : List α) (z : Nat → SV) d, PA F'.ps z →
    (∀ x ∈ xs, ∀ z, PA F'.ps z → ∃ sl2, (∀ d, TgR tg (f x) ⟨F'.env () z, d⟩ ⟨sl2, d⟩) ∧ BlM C F' body sl2 optT (o x)) →
    (M.search o xs).run d (fun t d' => match t with | some r => E.rt (F'.w r) d' | none => ∀ z, PA F'.ps z → E.nx ⟨F'.env () z, d'⟩) → forL tg (wpS C body) (xs.map f) ⟨F'.env () z, d⟩ E
  | [], z, d, hz, _, q => q z hz
  | x :: xs, z, d, hz, ht, q => by
    obtain ⟨sl2, h1, h2⟩ := ht x List.mem_cons_self z hz
    refine h1 d _ (h2 d _ ((o x).mono d _ _ (fun t d' q => ?_) q))
    cases t with
    | some r => exact q
    | none =>
      intro z' hz'
      have := bm_search_core xs z' d' hz' (fun y hy => ht y (List.mem_cons_of_mem _ hy)) q
      exact ⟨this, this⟩
theorem bm_search (inj : R → X) (F' : Bm Unit R) {tg : Tg} {it : IE} {body : IS} {mi : M β} {xs : β → List α} {f : α → D} (o : α → M (Option R)) {m : M X} (hφ : ∀ r, φ (inj r) = .out r) (hw : F'.w = F.w) (hi : EvIM C false it sl mi (fun y => (xs y).map f) sl1) (z0 : Nat → SV) (he : sl1 = F'.env () z0) (hz : PA F'.ps z0)
    (ht : ∀ y, ∀ x ∈ xs y, ∀ z, PA F'.ps z → ∃ sl2, (∀ d, TgR tg (f x) ⟨F'.env () z, d⟩ ⟨sl2, d⟩) ∧ BlM C F' body sl2 optT (o x))
    (hb : ∀ z, PA F'.ps z → BlM C F b (F'.env () z) φ m) : BlM C F (.seq (.fr tg it body) b) sl φ (mi.bind fun y => (M.search o (xs y)).bind fun t => M.opt inj m t) := fun d E q => hi d _ (mi.mono d _ _ (fun y d1 q _ => by
  rw [he]
  refine bm_search_core (E := ⟨fun ρ1 => wpS C b ρ1 E, E.rt, E.bk, E.ct⟩) (xs y) _ d1 hz (ht y) ((M.search o (xs y)).mono d1 _ _ (fun t d' q => ?_) q)
  cases t with
  | some r =>
    have q : (φ (inj r)).ends (F.at d') E := q
    rw [hφ] at q
    show E.rt (F'.w r) d'
    rw [hw]; exact q
  | none => exact fun z hz => hb z hz d' E q) q)
theorem wpF_bm {N : Nat} {as : List D} {n : Nat} {w : R → RV} {m : M R} {Q : RV → Nat → Prop} (h : BlM C ⟨[], fun (_ : Unit) _ => [], w⟩ b (as.map SV.val ++ List.replicate (N - as.length) SV.no) Tn2.out m) (q : m.run n fun x d => Q (w x) d) : wpF C N b as n Q := h n _ q
end
end PL
namespace PL
open PySem PySem.Spec PyProof.Rows L2
open En
def M.fin {τ R X : Type} (inj : R → X) (y : τ → M X) : Tn2 τ R → M X
  | .out r => M.pure (inj r)
  | .go s => y s
  | .brk s => y s
section
variable {C : PC} {sl sl1 sl2 sl3 : List SV} {α β γ τ σ R X : Type} {b : IS} {F : Bm σ R} {φ : X → Tn2 σ R} {m : M X}
theorem em_compP [En α] [En β] {vs : List Nat} {tg : Tg} {it c e : IE} {xs : List α} (p : α → M Bool) (g : α → M β) {wg : β → RV} (T : α → List SV) (hp : ∀ d, (⟨sl, d⟩ : PEnv).plainAt vs = true) (hi : ∀ d, EvI C true it ⟨sl, d⟩ (xs.map enc) ⟨sl1, d⟩)
    (ht : ∀ a ∈ xs, ∀ d, TgR tg (enc a) ((⟨sl1, d⟩ : PEnv).wipe vs) ⟨T a, d⟩) (hw : ∀ (a : α) d, (⟨T a, d⟩ : PEnv).wipe vs = (⟨sl1, d⟩ : PEnv).wipe vs) (hb : ∀ d d', (⟨sl1, d⟩ : PEnv).back ((⟨sl1, d'⟩ : PEnv).wipe vs) vs = ⟨sl1, d'⟩)
    (hc : ∀ a ∈ xs, EvM C c (T a) (p a) (fun k => .val (enc k)) (T a)) (hk : ∀ y, Kp (wg y) (enc y)) (he : ∀ a ∈ xs, EvM C e (T a) (g a) wg (T a)) :
    EvM C (.comp vs tg it c e) sl (M.comp p g xs) (fun ys => .own (ys.map enc)) sl1 := fun d Q q => em_comp (m := M.pure ()) (f := fun _ => xs) p g T hp (im_pure hi) (fun _ => ht) hw hb (fun _ => hc) hk (fun _ => he) d Q q
theorem bm_forN (F' : Bm τ Unit) {tg : Tg} {it : IE} {body : IS} {xs : List α} {f : α → D} (step : τ → α → M τ) {s0 : τ} {kk : τ → M X} (hi : ∀ d, EvI C false it ⟨sl, d⟩ (xs.map f) ⟨sl1, d⟩) (z0 : Nat → SV) (he : sl1 = F'.env s0 z0) (hz : PA F'.ps z0)
    (ht : ∀ x ∈ xs, ∀ s z, PA F'.ps z → ∃ sl2, (∀ d, TgR tg (f x) ⟨F'.env s z, d⟩ ⟨sl2, d⟩) ∧ BlM C F' body sl2 Tn2.go (step s x))
    (hb : ∀ s z, PA F'.ps z → BlM C F b (F'.env s z) φ (kk s)) : BlM C F (.seq (.fr tg it body) b) sl φ ((M.fold step xs s0).bind kk) := fun d E q => bm_for F' (mi := M.pure ()) (xs := fun _ => xs) step (im_pure hi) z0 he hz (fun _ => ht) hb d E q
theorem bm_searchN (inj : R → X) (F' : Bm Unit R) {tg : Tg} {it : IE} {body : IS} {xs : List α} {f : α → D} (o : α → M (Option R)) {m : M X} (hφ : ∀ r, φ (inj r) = .out r) (hw : F'.w = F.w) (hi : ∀ d, EvI C false it ⟨sl, d⟩ (xs.map f) ⟨sl1, d⟩) (z0 : Nat → SV) (he : sl1 = F'.env () z0) (hz : PA F'.ps z0)
    (ht : ∀ x ∈ xs, ∀ z, PA F'.ps z → ∃ sl2, (∀ d, TgR tg (f x) ⟨F'.env () z, d⟩ ⟨sl2, d⟩) ∧ BlM C F' body sl2 optT (o x))
    (hb : ∀ z, PA F'.ps z → BlM C F b (F'.env () z) φ m) : BlM C F (.seq (.fr tg it body) b) sl φ ((M.search o xs).bind fun t => M.opt inj m t) := fun d E q => bm_search inj F' (mi := M.pure ()) (xs := fun _ => xs) o hφ hw (im_pure hi) z0 he hz (fun _ => ht) hb d E q
end
end PL
namespace PL
open PySem PySem.Spec PyProof.Rows L2
open En
local macro_rules | `(tactic| walk_at "side") => `(tactic| first
  | assumption | trivial | decide | omega
  | (simp only [List.length_map, List.length_range, List.length_append, List.length_cons, List.length_nil, List.length_singleton, sizeLine_eq] at *; omega)
  | (simp_all; done) | skip)
local macro_rules | `(tactic| walk_at "vl") => `(tactic| skip)
local macro_rules | `(tactic| walk_at "kp") => `(tactic| first | exact kp_val | exact kp_own | exact kp_owd)
local macro_rules | `(tactic| walk_at "as") => `(tactic| first
  | exact as_enc | exact as_N | exact as_I | exact as_B | exact as_S | exact as_T | exact as_L
  | (refine' as_T1 ?h; (case' h => walk_at "as")) | (refine' as_P ?h ?i; (case' h => walk_at "as"); (case' i => walk_at "as")) | (refine' as_ite ?h ?i; (case' h => walk_at "as"); (case' i => walk_at "as")) | exact as_D | skip)
local macro_rules | `(tactic| walk_at "op") => `(tactic| first
  | exact cmp_eqN0 | exact cmp_ltN0 | exact cmp_leN0 | exact cmp_gtN0 | exact cmp_geN0 | exact cmp_neN0 | exact cmp_eqN1 | exact cmp_ltN1 | exact cmp_leN1 | exact cmp_gtN1 | exact cmp_geN1 | exact cmp_neN1 | exact cmp_eqN2 | exact cmp_ltN2 | exact cmp_leN2 | exact cmp_gtN2 | exact cmp_geN2 | exact cmp_neN2 | exact cmp_eqN3 | exact cmp_ltN3 | exact cmp_leN3 | exact cmp_gtN3 | exact cmp_geN3 | exact cmp_neN3 | exact cmp_eqN4 | exact cmp_ltN4 | exact cmp_leN4 | exact cmp_gtN4 | exact cmp_geN4 | exact cmp_neN4 | exact cmp_eqN5 | exact cmp_ltN5 | exact cmp_leN5 | exact cmp_gtN5 | exact cmp_geN5 | exact cmp_neN5 | exact bin_addN1 | exact bin_add1N
  | exact cmp_eqN | exact cmp_neN | exact cmp_ltN | exact cmp_leN | exact cmp_gtN | exact cmp_geN | exact bin_addN
  | exact cmp_eqI | exact cmp_eqS | exact cmp_eqB | exact cmp_eqT | exact cmp_eqT1 | exact cmp_eqT0 | exact cmp_eqL | exact cmp_eqE
  | exact cmp_neI | exact cmp_neS | exact cmp_neB | exact cmp_neT | exact cmp_neL | exact cmp_neE
  | exact cmp_lt | exact cmp_le | exact cmp_gt | exact cmp_ge | exact cmp_ltT
  | exact cmp_inI | exact cmp_ninI | exact cmp_inT | exact cmp_ninT | exact cmp_inL | exact cmp_ninL | exact cmp_inTp | exact cmp_ninTp | exact cmp_inLp | exact cmp_ninLp | exact cmp_inD | exact cmp_ninD | exact cmp_inN | exact cmp_ninN
  | exact cmp_isN | exact cmp_isnN | exact cmp_isB | exact cmp_isnB
  | exact bin_add | exact bin_sub | (refine' bin_mul ?_; walk_at "side") | (refine' bin_fdiv ?_; walk_at "side") | (refine' bin_mod ?_; walk_at "side")
  | (refine' bin_addT ?_; walk_at "side") | (refine' bin_addT1 ?_; walk_at "side") | (refine' bin_addL0 ?_; walk_at "side") | (refine' bin_addL ?_; walk_at "side") | (refine' bin_addL1 ?_; walk_at "side") | (refine' bin_repL ?_; walk_at "side") | (refine' bin_repT ?_; walk_at "side")
  | (refine' idx_0T ?_; walk_at "side") | (refine' idx_0L ?_; walk_at "side") | (refine' idx_T ?_; walk_at "side") | (refine' idx_L ?_; walk_at "side") | (refine' idx_D ?h; (case' h => first | assumption | skip)) | (refine' idx_0T ?_; walk_at "side") | (refine' idx_0L ?_; walk_at "side") | (refine' idx_lastL ?_; walk_at "side") | (refine' idx_lastT ?_; walk_at "side")
  | (refine' idx_IT ?_; walk_at "side") | (refine' idx_IL ?_; walk_at "side")
  | exact slc_T | exact slc_L | exact rev_T | exact rev_L
  | exact tru_B | exact tru_I | exact tru_N | exact tru_T | exact tru_L
  | exact blt_lenT | exact blt_lenL | exact blt_lenD | exact blt_lenTr | exact blt_lenLr | exact blt_intI | exact blt_intB | exact blt_tupL | exact blt_tupT | (refine' blt_tupR ?_; walk_at "side")
  | exact blt_lstL | exact blt_lstT | exact blt_lstD | (refine' blt_lstR ?_; walk_at "side") | (refine' blt_rngN ?_; walk_at "side") | (refine' blt_rng1 ?_; walk_at "side")
  | exact blt_srtL | exact blt_srtT | exact blt_srtD | exact blt_srtP
  | (refine' blt_minLN ?_; walk_at "side") | (refine' blt_maxLN ?_; walk_at "side") | (refine' blt_minTN ?_; walk_at "side") | (refine' blt_maxTN ?_; walk_at "side")
  | (refine' blt_minL ?_; walk_at "side") | (refine' blt_maxL ?_; walk_at "side") | (refine' blt_minT ?_; walk_at "side") | (refine' blt_maxT ?_; walk_at "side")
  | exact blt_sumLN | exact blt_sumL | exact blt_any | exact blt_all | exact blt_abs | exact blt_min2 | exact blt_max2
  | (refine' mth_ixT ?_; walk_at "side") | (refine' mth_ixL ?_; walk_at "side")
  | exact itm_tup | exact itm_lst | exact itm_dct | (refine' itm_rng ?_; walk_at "side")
  | exact sq_tup | exact sq_lst
  | skip)
local macro_rules | `(tactic| walk_at "tg") => `(tactic| first | exact fun _ => tg_nm | exact fun _ => tg_tp2 | exact fun _ => tg_tp3 | exact fun _ => tg_tp1 | skip)
local macro_rules | `(tactic| walk_at "ek") => `(tactic| first
  | (refine' evk_gen ?e ?k; (case' e => walk_at "ev"); (case' k => first | exact kpa_own | (refine' kpa_val ?h; (case' h => walk_at "as"))))
  | skip)
local macro_rules | `(tactic| walk_at "ea") => `(tactic| first
  | exact eva_nil
  | (refine' eva_T ?e ?d ?r; (case' e => walk_at "ev"); (case' d => first | rfl | skip); (case' r => walk_at "ea"))
  | (refine' eva_F ?e ?d ?r; (case' e => walk_at "ev"); (case' d => first | walk_at "kp" | skip); (case' r => walk_at "ea"))
  | skip)
local macro_rules | `(tactic| walk_at "ei") => `(tactic| first
  | (refine' evi_r1 ?e ?h ?z; (case' e => walk_at "ev"); (case' h => first | rfl | skip); (case' z => walk_at "side"))
  | (refine' evi_r21 ?e ?e2 ?h ?h2 ?z; (case' e => walk_at "ev"); (case' e2 => walk_at "ev"); (case' h => rfl); (case' h2 => rfl); (case' z => walk_at "side"))
  | (refine' evi_r2 ?e ?e2 ?h ?h2 ?z ?z2; (case' e => walk_at "ev"); (case' e2 => walk_at "ev"); (case' h => first | rfl | skip); (case' h2 => first | rfl | skip); (case' z => walk_at "side"); (case' z2 => walk_at "side"))
  | (refine' evi_T ?e ?h; (case' e => walk_at "ev"); (case' h => walk_at "op"))
  | (refine' evi_F ?e ?k ?h; (case' e => walk_at "ev"); (case' k => first | walk_at "kp" | skip); (case' h => walk_at "op"))
  | (refine' evi_zipT ?e ?e2 ?h ?h2; (case' e => walk_at "ev"); (case' e2 => walk_at "ev"); (case' h => walk_at "op"); (case' h2 => walk_at "op"))
  | (refine' evi_zipF ?e ?k ?e2 ?k2 ?h ?h2; (case' e => walk_at "ev"); (case' k => walk_at "kp"); (case' e2 => walk_at "ev"); (case' k2 => walk_at "kp"); (case' h => walk_at "op"); (case' h2 => walk_at "op"))
  | (refine' evi_zip3T ?e ?e2 ?e3 ?h ?h2 ?h3; (case' e => walk_at "ev"); (case' e2 => walk_at "ev"); (case' e3 => walk_at "ev"); (case' h => walk_at "op"); (case' h2 => walk_at "op"); (case' h3 => walk_at "op"))
  | (refine' evi_enumT ?e ?h; (case' e => walk_at "ev"); (case' h => walk_at "op"))
  | (refine' evi_itemsT ?e ?h; (case' e => walk_at "ev"); (case' h => first | rfl | skip))
  | (refine' evi_itemsF ?e ?k ?h; (case' e => walk_at "ev"); (case' k => walk_at "kp"); (case' h => first | rfl | skip))
  | skip)
local macro_rules | `(tactic| walk_at "ev") => `(tactic| first
  | exact ev_cst
  | exact ev_bor rfl | exact ev_borO rfl | exact ev_borD rfl
  | exact ev_var rfl | exact ev_varO rfl | exact ev_varD rfl
  | (refine' ev_bin ?a ?b ?o; (case' a => walk_at "ev"); (case' b => walk_at "ev"); (case' o => walk_at "op"))
  | (refine' ev_cmp ?a ?b ?o; (case' a => walk_at "ev"); (case' b => walk_at "ev"); (case' o => walk_at "op"))
  | (refine' ev_cmp2 ?a ?b ?o ?c ?o2; (case' a => walk_at "ev"); (case' b => walk_at "ev"); (case' o => walk_at "op"); (case' c => walk_at "ev"); (case' o2 => walk_at "op"))
  | (refine' ev_tst ?a ?o; (case' a => walk_at "ev"); (case' o => walk_at "op"))
  | (refine' ev_and ?a ?b; (case' a => walk_at "ev"); (case' b => (intro _; walk_at "ev")))
  | (refine' ev_or ?a ?b; (case' a => walk_at "ev"); (case' b => (intro _; walk_at "ev")))
  | (refine' ev_not ?a; (case' a => walk_at "ev"))
  | (refine' ev_ite ?a ?b ?c; (case' a => walk_at "ev"); (case' b => (intro _; walk_at "ev")); (case' c => (intro _; walk_at "ev")))
  | (refine' ev_idx ?a ?b ?o; (case' a => walk_at "ev"); (case' b => walk_at "ev"); (case' o => walk_at "op"))
  | (refine' ev_blt ?a ?o; (case' a => walk_at "ea"); (case' o => walk_at "op"))
  | (refine' ev_call ?h ?a ?o; (case' h => first | assumption | skip); (case' a => walk_at "ea"); (case' o => walk_at "vl"))
  | (refine' ev_tup ?a ?z; (case' a => walk_at "ea"); (case' z => walk_at "side"))
  | (refine' ev_lst ?a ?z; (case' a => walk_at "ea"); (case' z => walk_at "side"))
  | exact ev_dnew
  | (refine' ev_neg ?a ?o; (case' a => walk_at "ev"); (case' o => first | rfl | skip))
  | (refine' ev_mth ?a ?b ?o; (case' a => walk_at "ev"); (case' b => walk_at "ea"); (case' o => walk_at "op"))
  | (refine' ev_slc0 ?a ?o; (case' a => walk_at "ev"); (case' o => walk_at "op"))
  | (refine' ev_slcF rfl ?a ?b ?h ?o; (case' a => walk_at "ev"); (case' b => walk_at "ev"); (case' h => first | rfl | skip); (case' o => walk_at "op"))
  | (refine' ev_slcT rfl ?a ?b ?h ?o; (case' a => walk_at "ev"); (case' b => walk_at "ev"); (case' h => first | rfl | skip); (case' o => walk_at "op"))
  | (refine' ev_slc2 rfl rfl ?a ?b ?h ?c ?i ?o; (case' a => walk_at "ev"); (case' b => walk_at "ev"); (case' h => first | rfl | skip); (case' c => walk_at "ev"); (case' i => first | rfl | skip); (case' o => walk_at "op"))
  | (refine' ev_rev ?a ?o; (case' a => walk_at "ev"); (case' o => walk_at "op"))
  | (refine' ev_isi ?a ?t ?b; (case' a => walk_at "ev"); (case' t => first | rfl | skip); (case' b => first | rfl | skip))
  | (refine' ev_compI rfl ?hi ?ht ?he ?hw ?hb ?hc; (case' hi => walk_at "ei"); (case' ht => exact fun _ => tg_nm); (case' he => exact fun _ => rfl); (case' hw => exact fun _ => rfl); (case' hb => rfl); (case' hc => (intro _ _; walk_at "ev")))
  | (refine' ev_compA rfl ?hi ?ht ?hw ?hb ?he; (case' hi => walk_at "ei"); (case' ht => walk_at "tg"); (case' hw => exact fun _ => rfl); (case' hb => rfl); (case' he => (intro _ _; walk_at "ek")))
  | (refine' ev_compAG rfl ?hi ?ht ?hw ?hb ?he; (case' hi => walk_at "ei"); (case' ht => walk_at "tg"); (case' hw => exact fun _ => rfl); (case' hb => rfl); (case' he => (intro _ _; walk_at "ek")))
  | (refine' ev_comp rfl ?hi ?ht ?hw ?hb ?hc ?he; (case' hi => walk_at "ei"); (case' ht => walk_at "tg"); (case' hw => exact fun _ => rfl); (case' hb => rfl); (case' hc => (intro _ _; walk_at "ev")); (case' he => (intro _ _ _; walk_at "ek")))
  | (refine' ev_compG rfl ?hi ?ht ?hw ?hb ?hc ?he; (case' hi => walk_at "ei"); (case' ht => walk_at "tg"); (case' hw => exact fun _ => rfl); (case' hb => rfl); (case' hc => (intro _ _; walk_at "ev")); (case' he => (intro _ _ _; walk_at "ek")))
  | (refine' ev_dcompA ?i1 ?i2 ?i3 rfl ?hi ?ht ?hw ?hb ?he ?hv ?hd; (case' hi => walk_at "ei"); (case' ht => walk_at "tg"); (case' hw => exact fun _ => rfl); (case' hb => rfl); (case' he => (intro _ _; walk_at "ek")); (case' hv => (intro _ _; walk_at "ek")); (case' i1 => infer_instance); (case' i2 => infer_instance); (case' i3 => infer_instance); (case' hd => decide))
  | skip)
local macro_rules | `(tactic| walk_at "st") => `(tactic| first
  | (refine' rt_seqR (rt_ret ?e ?d ?q); (case' e => walk_at "ev"); (case' d => rfl))
  | (refine' rt_ret ?e ?d ?q; (case' e => walk_at "ev"); (case' d => rfl))
  | (refine' rt_asg ?e ?s ?b; (case' e => walk_at "ev"); (case' s => first | exact sl_val | exact sl_own | exact sl_owd | skip); (case' b => walk_at "st"))
  | (refine' rt_asgT ?e ?s ?t ?b; (case' e => walk_at "ev"); (case' s => walk_at "kp"); (case' t => first | exact tg_tp2 | exact tg_tp3 | exact tg_tp4 | skip); (case' b => walk_at "st"))
  | (refine' rt_ifs ?e ?a ?b; (case' e => walk_at "ev"); (case' a => (intro _; walk_at "st")); (case' b => (intro _; walk_at "st")))
  | (refine' rt_app rfl ?e ?x ?z ?b; (case' e => walk_at "ek"); (case' x => rfl); (case' z => walk_at "side"); (case' b => walk_at "st"))
  | (refine' rt_asgL ?e ?p ?k ?j ?x ?l ?b; (case' e => walk_at "ek"); (case' p => rfl); (case' k => walk_at "ev"); (case' j => first | rfl | skip); (case' x => rfl); (case' l => walk_at "side"); (case' b => walk_at "st"))
  | (refine' rt_aug rfl ?e ?y ?b; (case' e => walk_at "ev"); (case' y => first | rfl | skip); (case' b => walk_at "st"))
  | (refine' rt_assoc ?_; walk_at "st")
  | (refine' rt_skip ?_; walk_at "st")
  | skip)
local macro_rules | `(tactic| walk_at "bo") => `(tactic| first
  | (refine' bo_asg ?e ?s ?b; (case' e => walk_at "ev"); (case' s => first | exact sl_val | exact sl_own | exact sl_owd | skip); (case' b => walk_at "bo"))
  | (refine' bo_asgT ?e ?s ?t ?b; (case' e => walk_at "ev"); (case' s => walk_at "kp"); (case' t => first | exact tg_tp2 | exact tg_tp3 | exact tg_tp4 | skip); (case' b => walk_at "bo"))
  | (refine' bo_app rfl ?e ?x ?z ?b; (case' e => walk_at "ek"); (case' x => rfl); (case' z => walk_at "side"); (case' b => walk_at "bo"))
  | (refine' bo_asgL ?e ?p ?k ?j ?x ?l ?b; (case' e => walk_at "ek"); (case' p => rfl); (case' k => walk_at "ev"); (case' j => first | rfl | skip); (case' x => rfl); (case' l => walk_at "side"); (case' b => walk_at "bo"))
  | (refine' bo_aug rfl ?e ?y ?b; (case' e => walk_at "ev"); (case' y => first | rfl | skip); (case' b => walk_at "bo"))
  | (refine' bo_ret ?e ?d; (case' e => walk_at "ev"); (case' d => rfl))
  | (refine' bo_ifs' ?e ?a ?b; (case' e => walk_at "ev"); (case' a => (intro _; walk_at "bo")); (case' b => (intro _; walk_at "bo")))
  | (refine' bo_assoc ?_; walk_at "bo")
  | (refine' bo_sk ?_; walk_at "bo")
  | refine' bo_skip ?_ | refine' bo_seqC ?_ | refine' bo_cnt ?_
  | skip)
local macro_rules | `(tactic| walk_at "bof") => `(tactic| first
  | (refine' bo_asg ?e ?s ?b; (case' e => walk_at "ev"); (case' s => first | exact sl_val | exact sl_own | exact sl_owd | skip); (case' b => walk_at "bof"))
  | (refine' bo_asgT ?e ?s ?t ?b; (case' e => walk_at "ev"); (case' s => walk_at "kp"); (case' t => first | exact tg_tp2 | exact tg_tp3 | exact tg_tp4 | skip); (case' b => walk_at "bof"))
  | (refine' bo_ret ?e ?d; (case' e => walk_at "ev"); (case' d => rfl))
  | (refine' bo_ifs ?e ?a ?b; (case' e => walk_at "ev"); (case' a => (intro _; walk_at "bof")); (case' b => (intro _; walk_at "bof")))
  | (refine' bo_assoc ?_; walk_at "bof")
  | (refine' bo_sk ?_; walk_at "bof")
  | refine' bo_skip ?_ | refine' bo_seqC ?_ | refine' bo_cnt ?_
  | skip)
mutual
def pl : D → Bool
  | .non => true
  | .bl _ => true
  | .int _ => true
  | .str _ => true
  | .tup xs => pls xs
  | .lst xs => pls xs
  | _ => false
def pls : List D → Bool
  | [] => true
  | x :: xs => pl x && pls xs
end
def kindD (x : D) : Int := if isTy .bool x = true then 1 else if isTy .int x = true then 2 else if isTy .str x = true then 3 else if isTy .tuple x = true then 4 else if isTy .list x = true then 5 else if isNon x = true then 6 else 0
theorem encD (x : D) : (enc x : D) = x := rfl
def nm__law_kind : List Str := ["x"]
def ir__law_kind : IS :=
(.seq (.ifs (.tst (.isi (.bor 0) .bool))
 (.seq (.ret (.cst (.int 1)))
  .skip)
 .skip)
  (.seq (.ifs (.tst (.isi (.bor 0) .int))
 (.seq (.ret (.cst (.int 2)))
  .skip)
 .skip)
  (.seq (.ifs (.tst (.isi (.bor 0) .str))
 (.seq (.ret (.cst (.int 3)))
  .skip)
 .skip)
  (.seq (.ifs (.tst (.isi (.bor 0) .tuple))
 (.seq (.ret (.cst (.int 4)))
  .skip)
 .skip)
  (.seq (.ifs (.tst (.isi (.bor 0) .list))
 (.seq (.ret (.cst (.int 5)))
  .skip)
 .skip)
  (.seq (.ifs (.cmp .is (.bor 0) (.cst .non))
 (.seq (.ret (.cst (.int 6)))
  .skip)
 .skip)
  (.seq (.ret (.cst (.int 0)))
  .skip)))))))
def fs__law_kind : List (Nat × Str) := []
def cs__law_kind : List (Str × D) := []
@[irreducible] def sp__law_kind : Spec := fun ds dr Q _ => ∃ (x : D), ds = [enc x] ∧ (hasTy x = true ) ∧ Q (.val (enc (kindD x : Int))) dr
theorem vl__law_kind {x : D} (hp : hasTy x = true ) : VlR sp__law_kind [enc x] (.val (enc (kindD x : Int))) := fun dr Q xe q => by unfold sp__law_kind; exact ⟨x, rfl, hp, q⟩
theorem rt__law_kind {C : PC} {n : Nat}  (x : D) (hp : hasTy x = true ) : Rt C ir__law_kind ⟨[.val (enc x)], n⟩ n (.val (enc (kindD x : Int))) := by
  unfold ir__law_kind
  walk_at "st"
  all_goals first | exact hp | (simp only [RV.toD, encD] at *; show RV.val (.int _) = .val (.int (kindD x)); unfold kindD; simp [*])
theorem wp__law_kind (sp : Nat → Spec) (xe : Nat → Nat → Prop)  : ∀ ds dr Q, sp__law_kind ds dr Q (fun _ _ => False) → wpF ⟨sp, xe⟩ nm__law_kind.length ir__law_kind ds dr Q := by
  intro ds dr Q h
  unfold sp__law_kind at h
  obtain ⟨x, rfl, hp, hq⟩ := h
  exact wpF_of (rt__law_kind (C := ⟨sp, xe⟩)  x hp) hq
local macro_rules | `(tactic| walk_at "vl") => `(tactic| (refine' vl__law_kind ?_; walk_at "side"))
def okQ : Nat → D → Prop
  | 0, x => (match x with | .int _ => True | .bl _ => True | .str _ => True | .non => True | _ => False)
  | L + 1, x => (match x with | .int _ => True | .bl _ => True | .str _ => True | .non => True | .tup xs => xs.length ≤ 1000000 ∧ ∀ d ∈ xs, okQ L d | .lst xs => xs.length ≤ 1000000 ∧ ∀ d ∈ xs, okQ L d | _ => False)
@[irreducible] def sp__law_equal (L : Nat) : Spec := fun ds dr Q _ => ∃ x, ds = [x, x] ∧ okQ L x ∧ Q (.val (.bl true)) dr
theorem okQ_ty {L : Nat} {x : D} (h : okQ L x) : hasTy x = true ∧ kindD x ≠ 0 := by
  cases L <;> cases x <;> first | exact h.elim | exact ⟨rfl, show (6 : Int) ≠ 0 by decide⟩ | exact ⟨rfl, show (1 : Int) ≠ 0 by decide⟩ | exact ⟨rfl, show (2 : Int) ≠ 0 by decide⟩ | exact ⟨rfl, show (3 : Int) ≠ 0 by decide⟩ | exact ⟨rfl, show (4 : Int) ≠ 0 by decide⟩ | exact ⟨rfl, show (5 : Int) ≠ 0 by decide⟩
def nm__law_equal : List Str := ["x", "due", "k"]
def ir__law_equal : IS :=
(.seq (.ifs (.or (.cmp .ne (.call 91 (.acons (.var 0) .anil)) (.call 91 (.acons (.var 1) .anil))) (.cmp .eq (.call 91 (.acons (.var 0) .anil)) (.cst (.int 0))))
 (.seq (.ret (.cst (.bl false)))
  .skip)
 .skip)
  (.seq (.ifs (.or (.tst (.isi (.bor 1) .tuple)) (.tst (.isi (.bor 1) .list)))
 (.seq (.ifs (.cmp .ne (.blt .len (.acons (.bor 0) .anil)) (.blt .len (.acons (.bor 1) .anil)))
 (.seq (.ret (.cst (.bl false)))
  .skip)
 .skip)
  (.seq (.fr (.nm 2) (.itR1 (.blt .len (.acons (.bor 1) .anil)))
 (.seq (.ifs (.not (.tst (.call 52 (.acons (.idx (.bor 0) (.bor 2)) (.acons (.idx (.bor 1) (.bor 2)) .anil)))))
 (.seq (.ret (.cst (.bl false)))
  .skip)
 .skip)
  .skip))
  (.seq (.ret (.cst (.bl true)))
  .skip)))
 .skip)
  (.seq (.ret (.cmp .eq (.bor 0) (.bor 1)))
  .skip)))
def fs__law_equal : List (Nat × Str) := [(91, "_law_kind"), (52, "_law_equal")]
def cs__law_equal : List (Str × D) := []
theorem rt_equal {C : PC} {n : Nat} (L : Nat) (h__law_kind : C.sp 91 = sp__law_kind) (h : ∀ M, L = M + 1 → C.sp 52 = sp__law_equal M) (x : D) (hx : okQ L x) : Rt C ir__law_equal ⟨[.val x, .val x, .no], n⟩ n (.val (.bl true)) := by
  obtain ⟨ht, hk⟩ := okQ_ty hx
  have kc : ∀ (i : Nat) (z : SV), i < 2 → Ev C (.call 91 (.acons (.var i) .anil)) ⟨[.val x, .val x, z], n⟩ (.val (enc (kindD x))) ⟨[.val x, .val x, z], n⟩ := fun i z hi => by
    refine ev_call h__law_kind (eva_F (ev_var ?_) kp_val eva_nil) (vl__law_kind (x := x) ht)
    match i, hi with
    | 0, _ => rfl
    | 1, _ => rfl
  unfold ir__law_equal
  refine rt_ifs (k := !decide (kindD x = kindD x) || decide (kindD x = 0)) (ev_or (ev_cmp (kc 0 _ (by decide)) (kc 1 _ (by decide)) cmp_neI) fun _ => ev_cmp (kc 0 _ (by decide)) ev_cst cmp_eqI) (fun h => ?_) fun _ => ?_
  · simp [hk] at h
  refine rt_skip ?_
  have ct : Ev C (.or (.tst (.isi (.bor 1) .tuple)) (.tst (.isi (.bor 1) .list))) ⟨[.val x, .val x, .no], n⟩ (.val (.bl (isTy .tuple x || isTy .list x))) ⟨[.val x, .val x, .no], n⟩ := ev_or (ev_tst (ev_isi (ev_bor rfl) ht rfl) tru_B) fun _ => ev_tst (ev_isi (ev_bor rfl) ht rfl) tru_B
  refine rt_ifs ct (fun hs => ?_) fun hs => ?_
  · have hseq : ∃ xs M, (x = .tup xs ∨ x = .lst xs) ∧ L = M + 1 ∧ xs.length ≤ 1000000 ∧ ∀ d ∈ xs, okQ M d := by
      cases L with
      | zero => cases x <;> first | exact hx.elim | cases hs
      | succ M => cases x <;> first | exact ⟨_, M, .inl rfl, rfl, hx.1, hx.2⟩ | exact ⟨_, M, .inr rfl, rfl, hx.1, hx.2⟩ | exact hx.elim | cases hs
    obtain ⟨xs, M, hxs, hL, hz, hd⟩ := hseq
    have len : ∀ i z, i < 2 → Ev C (.blt .len (.acons (.bor i) .anil)) ⟨[.val x, .val x, z], n⟩ (.val (.int (xs.length : Nat))) ⟨[.val x, .val x, z], n⟩ := fun i z hi => by
      rcases hxs with rfl | rfl
      · refine ev_blt (eva_T (ev_bor ?_) rfl eva_nil) blt_lenTr
        match i, hi with
        | 0, _ => rfl
        | 1, _ => rfl
      · refine ev_blt (eva_T (ev_bor ?_) rfl eva_nil) blt_lenLr
        match i, hi with
        | 0, _ => rfl
        | 1, _ => rfl
    refine rt_assoc (rt_ifs (k := !decide (xs.length = xs.length)) (ev_cmp (len 0 _ (by decide)) (len 1 _ (by decide)) cmp_neN) (fun h => ?_) fun _ => rt_skip ?_)
    · simp at h
    refine rt_assoc ?_
    refine rt_all (xs := List.range xs.length) (f := enc) (p := fun _ => true) (fun ρ => ∃ z, ρ = ⟨[.val x, .val x, z], n⟩) (evi_r1 (len 1 _ (by decide)) rfl (by omega)) ⟨_, rfl⟩ ?t1 ?r1 ?r2
    case' t1 =>
      rintro k hk ρ ⟨z, rfl⟩
      have hk := List.mem_range.mp hk
      refine ⟨_, tg_nm, ?_⟩
      have ix : ∀ i, i < 2 → Ev C (.idx (.bor i) (.bor 2)) ⟨[.val x, .val x, .val (enc k)], n⟩ (.val xs[k]) ⟨[.val x, .val x, .val (enc k)], n⟩ := fun i hi => by
        have g : xs[k]? = some xs[k] := List.getElem?_eq_getElem hk
        rcases hxs with rfl | rfl
        · refine ev_idx (ev_bor ?_) (ev_bor rfl) (idx_litT (n := k) g)
          match i, hi with
          | 0, _ => rfl
          | 1, _ => rfl
        · refine ev_idx (ev_bor ?_) (ev_bor rfl) (idx_litL (n := k) g)
          match i, hi with
          | 0, _ => rfl
          | 1, _ => rfl
      refine bo_ifs' (k := !true) (ev_not (ev_tst (ev_call (h M hL) (eva_F (ix 0 (by decide)) kp_val (eva_F (ix 1 (by decide)) kp_val eva_nil)) (r := .val (.bl true)) fun dr Q xe q => ?_) tru_B)) (fun h => by cases h) fun _ => bo_sk (bo_skip ⟨_, rfl⟩)
      unfold sp__law_equal
      exact ⟨_, rfl, hd _ (List.getElem_mem hk), q⟩
    case' r1 => (intro h; simp at h)
    case' r2 =>
      rintro _ ρ ⟨z, rfl⟩
      refine rt_assoc ?_
      walk_at "st"
      rfl
  · refine rt_skip ?_
    have e : CmpR .eq x x true := by
      have t : ∀ {p : Prop} [Decidable p], p → decide p = true := fun h => decide_eq_true h
      cases L with
      | zero =>
        cases x with
        | int i => have := @cmp_eqI i i; rwa [t rfl] at this
        | bl i => have := @cmp_eqB i i; rwa [t rfl] at this
        | str i => have := @cmp_eqS i i; rwa [t rfl] at this
        | non => exact fun Q q => q
        | _ => exact hx.elim
      | succ M =>
        cases x with
        | int i => have := @cmp_eqI i i; rwa [t rfl] at this
        | bl i => have := @cmp_eqB i i; rwa [t rfl] at this
        | str i => have := @cmp_eqS i i; rwa [t rfl] at this
        | non => exact fun Q q => q
        | tup xs => cases hs
        | lst xs => cases hs
        | _ => exact hx.elim
    exact rt_seqR (rt_ret (ev_cmp (ev_bor rfl) (ev_bor rfl) e) rfl rfl)
theorem wp__law_equal (L : Nat) (sp : Nat → Spec) (xe : Nat → Nat → Prop) (h0 : sp 91 = sp__law_kind) (h1 : ∀ M, L = M + 1 → sp 52 = sp__law_equal M) : ∀ ds dr Q, sp__law_equal L ds dr Q (fun _ _ => False) → wpF ⟨sp, xe⟩ nm__law_equal.length ir__law_equal ds dr Q := by
  intro ds dr Q h
  unfold sp__law_equal at h
  obtain ⟨x, rfl, hx, hq⟩ := h
  exact wpF_of (rt_equal (C := ⟨sp, xe⟩) L h0 h1 x hx) hq
theorem okQ_N (L : Nat) (n : Nat) : okQ L (enc n) := by cases L <;> trivial
theorem okQ_T {α : Type} [En α] {L : Nat} {xs : List α} (hz : xs.length ≤ 1000000) (h : ∀ x ∈ xs, okQ L (enc x)) : okQ (L + 1) (enc xs) := ⟨by rw [List.length_map]; exact hz, fun d hd => by
  obtain ⟨x, hx, rfl⟩ := List.mem_map.mp hd
  exact h x hx⟩
theorem okQ_L {α : Type} [En α] {L : Nat} {xs : List α} (hz : xs.length ≤ 1000000) (h : ∀ x ∈ xs, okQ L (enc x)) : okQ (L + 1) (.lst (xs.map enc)) := ⟨by rw [List.length_map]; exact hz, fun d hd => by
  obtain ⟨x, hx, rfl⟩ := List.mem_map.mp hd
  exact h x hx⟩
theorem okQ_P {α β : Type} [En α] [En β] {L : Nat} {p : α × β} (h1 : okQ L (enc p.1)) (h2 : okQ L (enc p.2)) : okQ (L + 1) (enc p) := ⟨by simp, fun d hd => by
  rcases List.mem_cons.mp hd with rfl | hd
  · exact h1
  · rw [List.mem_singleton.mp hd]; exact h2⟩
theorem okQ_Ns {L : Nat} {xs : List Nat} (hz : xs.length ≤ 1000000) : okQ (L + 1) (enc xs) := okQ_T hz fun x _ => okQ_N L x
end PL
namespace PL
open PySem PySem.Spec PyProof.Rows L2
open En
local macro_rules | `(tactic| walk_at "side") => `(tactic| first
  | assumption | trivial | decide | omega
  | (simp only [List.length_map, List.length_range, List.length_append, List.length_cons, List.length_nil, List.length_singleton, sizeLine_eq] at *; omega)
  | (simp_all; done) | skip)
local macro_rules | `(tactic| walk_at "vl") => `(tactic| skip)
local macro_rules | `(tactic| walk_at "kp") => `(tactic| first | exact kp_val | exact kp_own | exact kp_owd)
local macro_rules | `(tactic| walk_at "as") => `(tactic| first
  | exact as_enc | exact as_N | exact as_I | exact as_B | exact as_S | exact as_T | exact as_L
  | (refine' as_T1 ?h; (case' h => walk_at "as")) | (refine' as_P ?h ?i; (case' h => walk_at "as"); (case' i => walk_at "as")) | (refine' as_ite ?h ?i; (case' h => walk_at "as"); (case' i => walk_at "as")) | exact as_D | skip)
local macro_rules | `(tactic| walk_at "op") => `(tactic| first
  | exact cmp_eqN0 | exact cmp_ltN0 | exact cmp_leN0 | exact cmp_gtN0 | exact cmp_geN0 | exact cmp_neN0 | exact cmp_eqN1 | exact cmp_ltN1 | exact cmp_leN1 | exact cmp_gtN1 | exact cmp_geN1 | exact cmp_neN1 | exact cmp_eqN2 | exact cmp_ltN2 | exact cmp_leN2 | exact cmp_gtN2 | exact cmp_geN2 | exact cmp_neN2 | exact cmp_eqN3 | exact cmp_ltN3 | exact cmp_leN3 | exact cmp_gtN3 | exact cmp_geN3 | exact cmp_neN3 | exact cmp_eqN4 | exact cmp_ltN4 | exact cmp_leN4 | exact cmp_gtN4 | exact cmp_geN4 | exact cmp_neN4 | exact cmp_eqN5 | exact cmp_ltN5 | exact cmp_leN5 | exact cmp_gtN5 | exact cmp_geN5 | exact cmp_neN5 | exact bin_addN1 | exact bin_add1N
  | exact cmp_eqN | exact cmp_neN | exact cmp_ltN | exact cmp_leN | exact cmp_gtN | exact cmp_geN | exact bin_addN
  | exact cmp_eqI | exact cmp_eqS | exact cmp_eqB | exact cmp_eqT | exact cmp_eqT1 | exact cmp_eqT0 | exact cmp_eqL | exact cmp_eqE
  | exact cmp_neI | exact cmp_neS | exact cmp_neB | exact cmp_neT | exact cmp_neL | exact cmp_neE
  | exact cmp_lt | exact cmp_le | exact cmp_gt | exact cmp_ge | exact cmp_ltT
  | exact cmp_inI | exact cmp_ninI | exact cmp_inT | exact cmp_ninT | exact cmp_inL | exact cmp_ninL | exact cmp_inTp | exact cmp_ninTp | exact cmp_inLp | exact cmp_ninLp | exact cmp_inD | exact cmp_ninD | exact cmp_inN | exact cmp_ninN
  | exact cmp_isN | exact cmp_isnN | exact cmp_isB | exact cmp_isnB
  | exact bin_add | exact bin_sub | (refine' bin_mul ?_; walk_at "side") | (refine' bin_fdiv ?_; walk_at "side") | (refine' bin_mod ?_; walk_at "side")
  | (refine' bin_addT ?_; walk_at "side") | (refine' bin_addT1 ?_; walk_at "side") | (refine' bin_addL0 ?_; walk_at "side") | (refine' bin_addL ?_; walk_at "side") | (refine' bin_addL1 ?_; walk_at "side") | (refine' bin_repL ?_; walk_at "side") | (refine' bin_repT ?_; walk_at "side")
  | (refine' idx_0T ?_; walk_at "side") | (refine' idx_0L ?_; walk_at "side") | (refine' idx_T ?_; walk_at "side") | (refine' idx_L ?_; walk_at "side") | (refine' idx_D ?h; (case' h => first | assumption | skip)) | (refine' idx_0T ?_; walk_at "side") | (refine' idx_0L ?_; walk_at "side") | (refine' idx_lastL ?_; walk_at "side") | (refine' idx_lastT ?_; walk_at "side")
  | (refine' idx_IT ?_; walk_at "side") | (refine' idx_IL ?_; walk_at "side")
  | exact slc_T | exact slc_L | exact rev_T | exact rev_L
  | exact tru_B | exact tru_I | exact tru_N | exact tru_T | exact tru_L
  | exact blt_lenT | exact blt_lenL | exact blt_lenD | exact blt_lenTr | exact blt_lenLr | exact blt_intI | exact blt_intB | exact blt_tupL | exact blt_tupT | (refine' blt_tupR ?_; walk_at "side")
  | exact blt_lstL | exact blt_lstT | exact blt_lstD | (refine' blt_lstR ?_; walk_at "side") | (refine' blt_rngN ?_; walk_at "side") | (refine' blt_rng1 ?_; walk_at "side")
  | exact blt_srtL | exact blt_srtT | exact blt_srtD | exact blt_srtP
  | (refine' blt_minLN ?_; walk_at "side") | (refine' blt_maxLN ?_; walk_at "side") | (refine' blt_minTN ?_; walk_at "side") | (refine' blt_maxTN ?_; walk_at "side")
  | (refine' blt_minL ?_; walk_at "side") | (refine' blt_maxL ?_; walk_at "side") | (refine' blt_minT ?_; walk_at "side") | (refine' blt_maxT ?_; walk_at "side")
  | exact blt_sumLN | exact blt_sumL | exact blt_any | exact blt_all | exact blt_abs | exact blt_min2 | exact blt_max2
  | (refine' mth_ixT ?_; walk_at "side") | (refine' mth_ixL ?_; walk_at "side")
  | exact itm_tup | exact itm_lst | exact itm_dct | (refine' itm_rng ?_; walk_at "side")
  | exact sq_tup | exact sq_lst
  | skip)
local macro_rules | `(tactic| walk_at "tg") => `(tactic| first | exact fun _ => tg_nm | exact fun _ => tg_tp2 | exact fun _ => tg_tp3 | exact fun _ => tg_tp1 | skip)
local macro_rules | `(tactic| walk_at "ek") => `(tactic| first
  | (refine' evk_gen ?e ?k; (case' e => walk_at "ev"); (case' k => first | exact kpa_own | (refine' kpa_val ?h; (case' h => walk_at "as"))))
  | skip)
local macro_rules | `(tactic| walk_at "ea") => `(tactic| first
  | exact eva_nil
  | (refine' eva_T ?e ?d ?r; (case' e => walk_at "ev"); (case' d => first | rfl | skip); (case' r => walk_at "ea"))
  | (refine' eva_F ?e ?d ?r; (case' e => walk_at "ev"); (case' d => first | walk_at "kp" | skip); (case' r => walk_at "ea"))
  | skip)
local macro_rules | `(tactic| walk_at "ei") => `(tactic| first
  | (refine' evi_r1 ?e ?h ?z; (case' e => walk_at "ev"); (case' h => first | rfl | skip); (case' z => walk_at "side"))
  | (refine' evi_r21 ?e ?e2 ?h ?h2 ?z; (case' e => walk_at "ev"); (case' e2 => walk_at "ev"); (case' h => rfl); (case' h2 => rfl); (case' z => walk_at "side"))
  | (refine' evi_r2 ?e ?e2 ?h ?h2 ?z ?z2; (case' e => walk_at "ev"); (case' e2 => walk_at "ev"); (case' h => first | rfl | skip); (case' h2 => first | rfl | skip); (case' z => walk_at "side"); (case' z2 => walk_at "side"))
  | (refine' evi_T ?e ?h; (case' e => walk_at "ev"); (case' h => walk_at "op"))
  | (refine' evi_F ?e ?k ?h; (case' e => walk_at "ev"); (case' k => first | walk_at "kp" | skip); (case' h => walk_at "op"))
  | (refine' evi_zipT ?e ?e2 ?h ?h2; (case' e => walk_at "ev"); (case' e2 => walk_at "ev"); (case' h => walk_at "op"); (case' h2 => walk_at "op"))
  | (refine' evi_zipF ?e ?k ?e2 ?k2 ?h ?h2; (case' e => walk_at "ev"); (case' k => walk_at "kp"); (case' e2 => walk_at "ev"); (case' k2 => walk_at "kp"); (case' h => walk_at "op"); (case' h2 => walk_at "op"))
  | (refine' evi_zip3T ?e ?e2 ?e3 ?h ?h2 ?h3; (case' e => walk_at "ev"); (case' e2 => walk_at "ev"); (case' e3 => walk_at "ev"); (case' h => walk_at "op"); (case' h2 => walk_at "op"); (case' h3 => walk_at "op"))
  | (refine' evi_enumT ?e ?h; (case' e => walk_at "ev"); (case' h => walk_at "op"))
  | (refine' evi_itemsT ?e ?h; (case' e => walk_at "ev"); (case' h => first | rfl | skip))
  | (refine' evi_itemsF ?e ?k ?h; (case' e => walk_at "ev"); (case' k => walk_at "kp"); (case' h => first | rfl | skip))
  | skip)
local macro_rules | `(tactic| walk_at "ev") => `(tactic| first
  | exact ev_cst
  | exact ev_bor rfl | exact ev_borO rfl | exact ev_borD rfl
  | exact ev_var rfl | exact ev_varO rfl | exact ev_varD rfl
  | (refine' ev_bin ?a ?b ?o; (case' a => walk_at "ev"); (case' b => walk_at "ev"); (case' o => walk_at "op"))
  | (refine' ev_cmp ?a ?b ?o; (case' a => walk_at "ev"); (case' b => walk_at "ev"); (case' o => walk_at "op"))
  | (refine' ev_cmp2 ?a ?b ?o ?c ?o2; (case' a => walk_at "ev"); (case' b => walk_at "ev"); (case' o => walk_at "op"); (case' c => walk_at "ev"); (case' o2 => walk_at "op"))
  | (refine' ev_tst ?a ?o; (case' a => walk_at "ev"); (case' o => walk_at "op"))
  | (refine' ev_and ?a ?b; (case' a => walk_at "ev"); (case' b => (intro _; walk_at "ev")))
  | (refine' ev_or ?a ?b; (case' a => walk_at "ev"); (case' b => (intro _; walk_at "ev")))
  | (refine' ev_not ?a; (case' a => walk_at "ev"))
  | (refine' ev_ite ?a ?b ?c; (case' a => walk_at "ev"); (case' b => (intro _; walk_at "ev")); (case' c => (intro _; walk_at "ev")))
  | (refine' ev_idx ?a ?b ?o; (case' a => walk_at "ev"); (case' b => walk_at "ev"); (case' o => walk_at "op"))
  | (refine' ev_blt ?a ?o; (case' a => walk_at "ea"); (case' o => walk_at "op"))
  | (refine' ev_call ?h ?a ?o; (case' h => first | assumption | skip); (case' a => walk_at "ea"); (case' o => walk_at "vl"))
  | (refine' ev_tup ?a ?z; (case' a => walk_at "ea"); (case' z => walk_at "side"))
  | (refine' ev_lst ?a ?z; (case' a => walk_at "ea"); (case' z => walk_at "side"))
  | exact ev_dnew
  | (refine' ev_neg ?a ?o; (case' a => walk_at "ev"); (case' o => first | rfl | skip))
  | (refine' ev_mth ?a ?b ?o; (case' a => walk_at "ev"); (case' b => walk_at "ea"); (case' o => walk_at "op"))
  | (refine' ev_slc0 ?a ?o; (case' a => walk_at "ev"); (case' o => walk_at "op"))
  | (refine' ev_slcF rfl ?a ?b ?h ?o; (case' a => walk_at "ev"); (case' b => walk_at "ev"); (case' h => first | rfl | skip); (case' o => walk_at "op"))
  | (refine' ev_slcT rfl ?a ?b ?h ?o; (case' a => walk_at "ev"); (case' b => walk_at "ev"); (case' h => first | rfl | skip); (case' o => walk_at "op"))
  | (refine' ev_slc2 rfl rfl ?a ?b ?h ?c ?i ?o; (case' a => walk_at "ev"); (case' b => walk_at "ev"); (case' h => first | rfl | skip); (case' c => walk_at "ev"); (case' i => first | rfl | skip); (case' o => walk_at "op"))
  | (refine' ev_rev ?a ?o; (case' a => walk_at "ev"); (case' o => walk_at "op"))
  | (refine' ev_isi ?a ?t ?b; (case' a => walk_at "ev"); (case' t => first | rfl | skip); (case' b => first | rfl | skip))
  | (refine' ev_compI rfl ?hi ?ht ?he ?hw ?hb ?hc; (case' hi => walk_at "ei"); (case' ht => exact fun _ => tg_nm); (case' he => exact fun _ => rfl); (case' hw => exact fun _ => rfl); (case' hb => rfl); (case' hc => (intro _ _; walk_at "ev")))
  | (refine' ev_compA rfl ?hi ?ht ?hw ?hb ?he; (case' hi => walk_at "ei"); (case' ht => walk_at "tg"); (case' hw => exact fun _ => rfl); (case' hb => rfl); (case' he => (intro _ _; walk_at "ek")))
  | (refine' ev_compAG rfl ?hi ?ht ?hw ?hb ?he; (case' hi => walk_at "ei"); (case' ht => walk_at "tg"); (case' hw => exact fun _ => rfl); (case' hb => rfl); (case' he => (intro _ _; walk_at "ek")))
  | (refine' ev_comp rfl ?hi ?ht ?hw ?hb ?hc ?he; (case' hi => walk_at "ei"); (case' ht => walk_at "tg"); (case' hw => exact fun _ => rfl); (case' hb => rfl); (case' hc => (intro _ _; walk_at "ev")); (case' he => (intro _ _ _; walk_at "ek")))
  | (refine' ev_compG rfl ?hi ?ht ?hw ?hb ?hc ?he; (case' hi => walk_at "ei"); (case' ht => walk_at "tg"); (case' hw => exact fun _ => rfl); (case' hb => rfl); (case' hc => (intro _ _; walk_at "ev")); (case' he => (intro _ _ _; walk_at "ek")))
  | (refine' ev_dcompA ?i1 ?i2 ?i3 rfl ?hi ?ht ?hw ?hb ?he ?hv ?hd; (case' hi => walk_at "ei"); (case' ht => walk_at "tg"); (case' hw => exact fun _ => rfl); (case' hb => rfl); (case' he => (intro _ _; walk_at "ek")); (case' hv => (intro _ _; walk_at "ek")); (case' i1 => infer_instance); (case' i2 => infer_instance); (case' i3 => infer_instance); (case' hd => decide))
  | skip)
local macro_rules | `(tactic| walk_at "st") => `(tactic| first
  | (refine' rt_seqR (rt_ret ?e ?d ?q); (case' e => walk_at "ev"); (case' d => rfl))
  | (refine' rt_ret ?e ?d ?q; (case' e => walk_at "ev"); (case' d => rfl))
  | (refine' rt_asg ?e ?s ?b; (case' e => walk_at "ev"); (case' s => first | exact sl_val | exact sl_own | exact sl_owd | skip); (case' b => walk_at "st"))
  | (refine' rt_asgT ?e ?s ?t ?b; (case' e => walk_at "ev"); (case' s => walk_at "kp"); (case' t => first | exact tg_tp2 | exact tg_tp3 | exact tg_tp4 | skip); (case' b => walk_at "st"))
  | (refine' rt_ifs ?e ?a ?b; (case' e => walk_at "ev"); (case' a => (intro _; walk_at "st")); (case' b => (intro _; walk_at "st")))
  | (refine' rt_app rfl ?e ?x ?z ?b; (case' e => walk_at "ek"); (case' x => rfl); (case' z => walk_at "side"); (case' b => walk_at "st"))
  | (refine' rt_asgL ?e ?p ?k ?j ?x ?l ?b; (case' e => walk_at "ek"); (case' p => rfl); (case' k => walk_at "ev"); (case' j => first | rfl | skip); (case' x => rfl); (case' l => walk_at "side"); (case' b => walk_at "st"))
  | (refine' rt_aug rfl ?e ?y ?b; (case' e => walk_at "ev"); (case' y => first | rfl | skip); (case' b => walk_at "st"))
  | (refine' rt_assoc ?_; walk_at "st")
  | (refine' rt_skip ?_; walk_at "st")
  | skip)
local macro_rules | `(tactic| walk_at "bo") => `(tactic| first
  | (refine' bo_asg ?e ?s ?b; (case' e => walk_at "ev"); (case' s => first | exact sl_val | exact sl_own | exact sl_owd | skip); (case' b => walk_at "bo"))
  | (refine' bo_asgT ?e ?s ?t ?b; (case' e => walk_at "ev"); (case' s => walk_at "kp"); (case' t => first | exact tg_tp2 | exact tg_tp3 | exact tg_tp4 | skip); (case' b => walk_at "bo"))
  | (refine' bo_app rfl ?e ?x ?z ?b; (case' e => walk_at "ek"); (case' x => rfl); (case' z => walk_at "side"); (case' b => walk_at "bo"))
  | (refine' bo_asgL ?e ?p ?k ?j ?x ?l ?b; (case' e => walk_at "ek"); (case' p => rfl); (case' k => walk_at "ev"); (case' j => first | rfl | skip); (case' x => rfl); (case' l => walk_at "side"); (case' b => walk_at "bo"))
  | (refine' bo_aug rfl ?e ?y ?b; (case' e => walk_at "ev"); (case' y => first | rfl | skip); (case' b => walk_at "bo"))
  | (refine' bo_ret ?e ?d; (case' e => walk_at "ev"); (case' d => rfl))
  | (refine' bo_ifs' ?e ?a ?b; (case' e => walk_at "ev"); (case' a => (intro _; walk_at "bo")); (case' b => (intro _; walk_at "bo")))
  | (refine' bo_assoc ?_; walk_at "bo")
  | (refine' bo_sk ?_; walk_at "bo")
  | refine' bo_skip ?_ | refine' bo_seqC ?_ | refine' bo_cnt ?_
  | skip)
local macro_rules | `(tactic| walk_at "bof") => `(tactic| first
  | (refine' bo_asg ?e ?s ?b; (case' e => walk_at "ev"); (case' s => first | exact sl_val | exact sl_own | exact sl_owd | skip); (case' b => walk_at "bof"))
  | (refine' bo_asgT ?e ?s ?t ?b; (case' e => walk_at "ev"); (case' s => walk_at "kp"); (case' t => first | exact tg_tp2 | exact tg_tp3 | exact tg_tp4 | skip); (case' b => walk_at "bof"))
  | (refine' bo_ret ?e ?d; (case' e => walk_at "ev"); (case' d => rfl))
  | (refine' bo_ifs ?e ?a ?b; (case' e => walk_at "ev"); (case' a => (intro _; walk_at "bof")); (case' b => (intro _; walk_at "bof")))
  | (refine' bo_assoc ?_; walk_at "bof")
  | (refine' bo_sk ?_; walk_at "bof")
  | refine' bo_skip ?_ | refine' bo_seqC ?_ | refine' bo_cnt ?_
  | skip)
local macro_rules | `(tactic| walk_at "vl") => `(tactic| (refine' vl__law_kind ?_; walk_at "side"))
def asciiS (s : Str) : Bool := s.cps.all fun c => decide (c < 128)
def okv (N : Nat) : Nat → D → Prop
  | _, .non => True
  | _, .bl _ => True
  | _, .int i => i.natAbs ≤ N
  | _, .str s => s.length ≤ N ∧ asciiS s = true
  | L + 1, .tup xs => xs.length ≤ N ∧ ∀ x ∈ xs, okv N L x
  | L + 1, .lst xs => xs.length ≤ N ∧ ∀ x ∈ xs, okv N L x
  | _, _ => False
def RVd (r : RV) (d : D) : Prop := r = .val d ∨ ∃ xs, r = .own xs ∧ d = .lst xs
@[irreducible] def sp__law_bent (M : Nat) : Spec := fun ds dr Q _ => ∃ (N L : Nat) (v : D), ds = [.pool, v] ∧ L ≤ M ∧ 2 ≤ N ∧ N ≤ 100000 ∧ okv N L v ∧ dr + 50 * (L + 1) < 2 ^ 40 ∧ ∀ (r : RV) (d : D) (dr' : Nat), RVd r d → okv (3 * N + 16) (L + 1) d → dr' ≤ dr + 50 * (L + 1) → Q r dr'
@[irreducible] def sp__law_bends (top : Nat) : Spec := fun ds dr Q _ => ∃ (N L many : Nat) (v : D), ds = [.pool, v, .int (many : Nat)] ∧ L + 1 ≤ top ∧ top ≤ 20 ∧ 2 ≤ N ∧ N ≤ 20000 ∧ many ≤ 1000 ∧ okv N L v ∧ dr + 3000 * many < 2 ^ 40 ∧ ∀ (vs : List D) (dr' : Nat), vs.length ≤ many + 11 → (∀ x ∈ vs, okv (9 * N + 64) (L + 2) x) → dr' ≤ dr + 3000 * many → Q (.own vs) dr'
theorem vl_equal {L : Nat} {x y : D} (h : x = y) (hx : okQ L y) : VlR (sp__law_equal L) [x, y] (.val (enc true)) := fun dr Q xe q => by
  unfold sp__law_equal
  exact ⟨y, by rw [h], hx, q⟩
end PL
namespace PL
open PySem PySem.Spec PyProof.Rows L2
open En
def M.ok {α : Type} (m : M α) (c : Nat) (P : α → Prop) : Prop := ∀ d, d + c < 2 ^ 40 → m.run d fun a d' => P a ∧ d' ≤ d + c
section
variable {α β τ R X : Type} {c c1 c2 : Nat}
theorem ok_le {m : M α} {P : α → Prop} (h : m.ok c1 P) (hc : c1 ≤ c) : m.ok c P := fun d hd => m.mono d _ _ (fun a d' ⟨h1, h2⟩ => ⟨h1, by omega⟩) (h d (by omega))
theorem ok_mono {m : M α} {P Q : α → Prop} (h : m.ok c P) (hq : ∀ a, P a → Q a) : m.ok c Q := fun d hd => m.mono d _ _ (fun a d' ⟨h1, h2⟩ => ⟨hq a h1, h2⟩) (h d hd)
theorem ok_pure {a : α} {P : α → Prop} (h : P a) : (M.pure a).ok c P := fun d hd => ⟨h, by omega⟩
theorem ok_bind {m : M α} {f : α → M β} {P : α → Prop} {Q : β → Prop} (h : m.ok c1 P) (hf : ∀ a, P a → (f a).ok c2 Q) : (m.bind f).ok (c1 + c2) Q := fun d hd => m.mono d _ _ (fun a d' ⟨h1, h2⟩ => (f a).mono d' _ _ (fun b d2 ⟨h3, h4⟩ => ⟨h3, by omega⟩) (hf a h1 d' (by omega))) (h d (by omega))
theorem ok_req {m : M α} {P : Prop} {Q : α → Prop} (hp : P) (h : m.ok c Q) : (M.req P m).ok c Q := fun d hd => ⟨hp, h d hd⟩
theorem ok_draw {k : Nat} (hk : 0 < k) : (M.draw k).ok 1 (fun v => v < k) := fun d hd => ⟨⟨hk, by omega⟩, fun v hv => ⟨hv, by omega⟩⟩
theorem ok_ite {k : Bool} {m1 m2 : M α} {P : α → Prop} (h1 : k = true → m1.ok c P) (h2 : k = false → m2.ok c P) : (if k = true then m1 else m2).ok c P := by
  cases k with
  | true => exact h1 rfl
  | false => exact h2 rfl
theorem ok_no {k : Bool} {m1 m2 : M α} {P : α → Prop} (hk : k = false) (h2 : m2.ok c P) : (if k = true then m1 else m2).ok c P := by rw [hk]; exact h2
theorem ok_opt {inj : R → X} {m : M X} {t : Option R} {P : X → Prop} (ht : t = none) (h : m.ok c P) : (M.opt inj m t).ok c P := by rw [ht]; exact h
theorem ok_fold {step : τ → α → M τ} (I : Nat → τ → Prop) : ∀ (xs : List α) (s : τ) (k : Nat), I k s → (∀ i x s, xs[i]? = some x → I (k + i) s → (step s x).ok c (I (k + i + 1))) → (M.fold step xs s).ok (c * xs.length) (I (k + xs.length))
  | [], s, k, h, _ => ok_pure h
  | x :: xs, s, k, h, ht => by
    have e : c * (x :: xs).length = c + c * xs.length := by rw [List.length_cons, Nat.mul_add, Nat.mul_one, Nat.add_comm]
    have e2 : k + (x :: xs).length = k + 1 + xs.length := by rw [List.length_cons]; omega
    rw [e, e2]
    exact ok_bind (ht 0 x s rfl h) fun s' hs => ok_fold I xs s' (k + 1) hs fun i y s2 hy h2 => by
      have := ht (i + 1) y s2 (by simpa using hy) (by rw [show k + (i + 1) = k + 1 + i by omega]; exact h2)
      rwa [show k + (i + 1) + 1 = k + 1 + i + 1 by omega] at this
theorem ok_search {o : α → M (Option R)} : ∀ {xs : List α}, (∀ x ∈ xs, (o x).ok c (fun t => t = none)) → (M.search o xs).ok (c * xs.length) (fun t => t = none)
  | [], _ => ok_pure rfl
  | x :: xs, h => by
    have e : c * (x :: xs).length = c + c * xs.length := by rw [List.length_cons, Nat.mul_add, Nat.mul_one, Nat.add_comm]
    rw [e]
    refine ok_bind (h x List.mem_cons_self) fun t ht => ?_
    subst ht
    exact ok_search fun y hy => h y (List.mem_cons_of_mem _ hy)
inductive Comes (K : α → Prop) (Φ : α → β → Prop) : List α → List β → Prop
  | nil : Comes K Φ [] []
  | skip {x : α} {xs : List α} {ys : List β} : K x → Comes K Φ xs ys → Comes K Φ (x :: xs) ys
  | take {x : α} {y : β} {xs : List α} {ys : List β} : Φ x y → Comes K Φ xs ys → Comes K Φ (x :: xs) (y :: ys)
theorem ok_comp {p : α → M Bool} {g : α → M β} {Y N : α → Prop} {Φ : α → β → Prop} : ∀ {xs : List α}, (∀ x ∈ xs, (p x).ok c1 (fun k => (k = true → Y x) ∧ (k = false → N x))) → (∀ x ∈ xs, Y x → (g x).ok c2 (Φ x)) → (M.comp p g xs).ok ((c1 + c2) * xs.length) (Comes N Φ xs)
  | [], _, _ => ok_pure .nil
  | x :: xs, hp, hg => by
    have e : (c1 + c2) * (x :: xs).length = c1 + (c2 + ((c1 + c2) * xs.length + 0)) := by rw [List.length_cons, Nat.mul_add, Nat.mul_one]; omega
    rw [e]
    have ih := ok_comp (Y := Y) (N := N) (Φ := Φ) (fun y hy => hp y (List.mem_cons_of_mem _ hy)) (fun y hy => hg y (List.mem_cons_of_mem _ hy))
    refine ok_bind (hp x List.mem_cons_self) fun k hk => ?_
    refine ok_ite (fun h => ?_) (fun h => ?_)
    · exact ok_bind (hg x List.mem_cons_self (hk.1 h)) fun y hy => ok_bind ih fun ys hys => ok_pure (.take hy hys)
    · exact ok_le (ok_mono ih fun ys hys => .skip (hk.2 h) hys) (by omega)
theorem Comes.mem {K : α → Prop} {Φ : α → β → Prop} {xs : List α} {ys : List β} (h : Comes K Φ xs ys) : ∀ y ∈ ys, ∃ x ∈ xs, Φ x y := by
  induction h with
  | nil => intro y hy; cases hy
  | skip _ _ ih => intro y hy; obtain ⟨x, h1, h2⟩ := ih y hy; exact ⟨x, List.mem_cons_of_mem _ h1, h2⟩
  | take hx _ ih =>
    intro y hy
    rcases List.mem_cons.mp hy with rfl | hy
    · exact ⟨_, List.mem_cons_self, hx⟩
    · obtain ⟨x, h1, h2⟩ := ih y hy; exact ⟨x, List.mem_cons_of_mem _ h1, h2⟩
theorem Comes.len {K : α → Prop} {Φ : α → β → Prop} {xs : List α} {ys : List β} (hK : ∀ x ∈ xs, ¬ K x) (h : Comes K Φ xs ys) : ys.length = xs.length := by
  induction h with
  | nil => rfl
  | skip hk _ _ => exact absurd hk (hK _ List.mem_cons_self)
  | take _ _ ih => rw [List.length_cons, List.length_cons, ih fun x hx => hK x (List.mem_cons_of_mem _ hx)]
theorem Comes.sub {K : α → Prop} {Φ : α → α → Prop} (hΦ : ∀ x y, Φ x y → x = y) {xs ys : List α} (h : Comes K Φ xs ys) : ys.Sublist xs := by
  induction h with
  | nil => exact .slnil
  | skip _ _ ih => exact .cons _ ih
  | take hx _ ih => cases hΦ _ _ hx; exact .cons₂ _ ih
theorem law_end {σ : Type} {C : PC} {F : Bm σ Bool} {ir : IS} {sl : List SV} {m : M Bool} (hw : F.w = fun x => .val (enc x)) (hb : BlM C F ir sl Tn2.out m) (h : m.ok c (fun b => b = true)) (hc : c < 2 ^ 40 := by decide) : wpS C ir ⟨sl, 0⟩ ⟨fun _ => False, fun r _ => r = .val (.bl true), fun _ => False, fun _ => False⟩ := hb 0 _ (m.mono 0 _ _ (fun b d' ⟨h1, _⟩ => by
  show (F.at d').w b = _
  show F.w b = _
  rw [hw, h1]; rfl) (h 0 (by omega)))
end
end PL
namespace PL
open PySem PySem.Spec PyProof.Rows L2
open En
end PL
namespace PL
open PySem PySem.Spec PyProof.Rows L2
open En
def f_law_line_s1  (s2 : ((List Nat) × (List Nat))) (k : Nat) : (M ((List Nat) × (List Nat))) :=
  (M.req ((s2.1.length ≤ 1000000 ∧ s2.2.length + 1 ≤ sizeLine)) ((M.draw s2.1.length).bind fun (v : Nat) => M.req (v < s2.1.length) (M.pure ((s2.1.eraseIdx v), (s2.2 ++ [s2.1.getD v default])))))
def f_law_line (n2 : Nat) : M (List Nat) :=
  (M.req ((n2 ≤ 16777216)) (M.req ((n2 ≤ 16777216)) ((M.fold f_law_line_s1 (List.range n2) ((List.range n2), [])).bind fun (s2 : ((List Nat) × (List Nat))) => (M.pure s2.2))))
def nm_f_law_line : List Str := ["pool", "n", "left", "line", "k"]
def ir_f_law_line : IS :=
(.seq (.asg (.nm 2) (.blt .list (.acons (.blt .range (.acons (.bor 1) .anil)) .anil)))
  (.seq (.asg (.nm 3) (.tup .anil))
  (.seq (.fr (.nm 4) (.itR1 (.bor 1))
 (.seq (.popT 3 2 (.call 50 (.acons (.var 0) (.acons (.blt .len (.acons (.bor 2) .anil)) .anil))))
  .skip))
  (.seq (.ret (.var 3))
  .skip))))
def fs_f_law_line : List (Nat × Str) := [(50, "_law_draw")]
def cs_f_law_line : List (Str × D) := []
theorem bm_f_law_line {C : PC} (h_draw : C.sp 50 = sp_draw) (n2 : Nat) : BlM C (⟨[], fun _ _ => [], fun x => .val (enc x)⟩ : Bm Unit (List Nat)) ir_f_law_line [.val .pool, .val (enc n2), .no, .no, .no] Tn2.out (f_law_line n2) :=
  (bm_req fun h11 => (bm_asg (fun dn => (ev_blt (eva_T (ev_rng (ev_bor rfl) h11) rfl eva_nil) (g_lstR h11))) sl_own (bm_asg (fun dn => (ev_tup0 (α := Nat))) sl_val (bm_req fun h9 => (bm_forN (⟨[], fun s2 z2 => [.val .pool, .val (enc n2), .own (s2.1.map enc), .val (enc s2.2), z2 4], fun _ => .val .non⟩ : Bm ((List Nat) × (List Nat)) Unit)  f_law_line_s1 (s0 := ((List.range n2), [])) (fun dn => (i_R1 (ev_bor rfl) h9)) (zl [.no, .no, .no, .no, .no]) rfl (by exact trivial) (fun k h1 s2 z2 h3 => ⟨_, fun _ => tg_nm, (bm_req fun h5 => (bm_popT (xs := s2.1) (ts := s2.2) (em_draw h_draw (fun dn => (ev_var rfl)) (fun dn => (ev_blt (eva_T (ev_borO rfl) rfl eva_nil) g_lenL))) rfl rfl rfl h5 (fun v => (bm_go (s := ((s2.1.eraseIdx v), (s2.2 ++ [s2.1.getD v default]))) rfl (zl [.no, .no, .no, .no, .val (enc k)]) rfl (by exact trivial)))))⟩) (fun s2 z2 h3 => (bm_pure (fun dn => (bl_ret (x := s2.2) (ev_var rfl) rfl)))))))))
@[irreducible] def sp_f_law_line : Spec := fun ds dr Q _ => ∃ (n2 : Nat), ds = [.pool, enc n2] ∧ (f_law_line n2).run dr fun x d => Q (.val (enc x)) d
theorem vm_f_law_line (n2 : Nat) : ∀ dr (Q : RV → Nat → Prop) xe, (f_law_line n2).run dr (fun x d => Q (.val (enc x)) d) → sp_f_law_line [.pool, enc n2] dr Q xe := fun dr Q xe q => by unfold sp_f_law_line; exact ⟨n2, rfl, q⟩
theorem wp_f_law_line (sp : Nat → Spec) (xe : Nat → Nat → Prop) (h_draw : sp 50 = sp_draw) : ∀ ds dr Q, sp_f_law_line ds dr Q (fun _ _ => False) → wpF ⟨sp, xe⟩ nm_f_law_line.length ir_f_law_line ds dr Q := by
  intro ds dr Q h
  unfold sp_f_law_line at h
  obtain ⟨n2, rfl, hq⟩ := h
  exact wpF_bm (bm_f_law_line (C := ⟨sp, xe⟩) h_draw n2) hq
end PL
namespace PL
open PySem PySem.Spec PyProof.Rows L2
open En
def f_law_beats_s1 (lean : Nat) (line : (List Nat)) (i : Nat) (s3 : (List (Nat × Nat))) (j : Nat) : (M (List (Nat × Nat))) :=
  (((M.draw lean).bind fun (v : Nat) => M.req (True) (M.pure ((decide (0 < v)) : Bool))).bind fun (k : Bool) => if k = true then (M.req ((i < line.length) ∧ (j < line.length) ∧ (s3.length < sizeLine)) (M.pure (s3 ++ [((line.getD i default), (line.getD j default))]))) else (M.pure s3))
def f_law_beats_s2 (n2 : Nat) (lean : Nat) (line : (List Nat)) (s2 : (List (Nat × Nat))) (i : Nat) : (M (List (Nat × Nat))) :=
  (M.req (((i + 1) ≤ 16777216 ∧ n2 ≤ 16777216)) ((M.fold (f_law_beats_s1 lean line i) (List.range' (i + 1) (n2 - (i + 1))) s2).bind fun (s3 : (List (Nat × Nat))) => (M.pure s3)))
def f_law_beats (n2 : Nat) (lean : Nat) : M (List (Nat × Nat)) :=
  ((f_law_line n2).bind fun (line : (List Nat)) => (M.req ((n2 ≤ 16777216)) ((M.fold (f_law_beats_s2 n2 lean line) (List.range n2) ([] : List (Nat × Nat))).bind fun (s2 : (List (Nat × Nat))) => (M.pure (srt s2)))))
@[irreducible] def sp_f_law_beats : Spec := fun ds dr Q _ => ∃ (n2 : Nat) (lean : Nat), ds = [.pool, enc n2, enc lean] ∧ (f_law_beats n2 lean).run dr fun x d => Q (.val (enc x)) d
end PL
namespace PL
open PySem PySem.Spec PyProof.Rows L2
open En
def f_law_some (many : Nat) (lean : Nat) : M (List Nat) :=
  (M.req ((many ≤ 16777216)) ((M.comp (fun (one : Nat) => ((M.draw lean).bind fun (v : Nat) => M.req (True) (M.pure ((decide (0 < v)) : Bool)))) (fun (one : Nat) => (M.pure one)) (List.range many)).bind fun (v2 : (List Nat)) => M.req (True) (M.pure v2)))
def nm_f_law_some : List Str := ["pool", "many", "lean", "one"]
def ir_f_law_some : IS :=
(.seq (.ret (.blt .tuple (.acons (.comp [3] (.nm 3) (.itR1 (.bor 1)) (.cmp .gt (.call 50 (.acons (.var 0) (.acons (.var 2) .anil))) (.cst (.int 0))) (.var 3)) .anil)))
  .skip)
def fs_f_law_some : List (Nat × Str) := [(50, "_law_draw")]
def cs_f_law_some : List (Str × D) := []
theorem bm_f_law_some {C : PC} (h_draw : C.sp 50 = sp_draw) (many : Nat) (lean : Nat) : BlM C (⟨[], fun _ _ => [], fun x => .val (enc x)⟩ : Bm Unit (List Nat)) ir_f_law_some [.val .pool, .val (enc many), .val (enc lean), .no] Tn2.out (f_law_some many lean) :=
  (bm_req fun h6 => (bm_retO (em_blt (w := (fun (x : (List Nat)) => .val (enc x))) (g := fun (v2 : (List Nat)) => v2) (fun (v2 : (List Nat)) => True) (am_lastT (em_compP (fun (one : Nat) => ((M.draw lean).bind fun (v : Nat) => M.req (True) (M.pure ((decide (0 < v)) : Bool)))) (fun (one : Nat) => (M.pure one)) (wg := (fun (x : Nat) => .val (enc x))) (fun (one : Nat) => [.val .pool, .val (enc many), .val (enc lean), .val (enc one)]) (fun dn => rfl) (fun dn => (i_R1 (ev_bor rfl) h6)) (fun one h1 _ => tg_nm) (fun _ _ => rfl) (fun _ _ => rfl) (fun one h1 => (em_cmp1 (g := (fun (v : Nat) => (decide (0 < v)))) (fun (v : Nat) => True) (em_draw h_draw (fun dn => (ev_var rfl)) (fun dn => (ev_var rfl))) (fun dn => (ev_cN 0 rfl)) (fun (v : Nat) h2 => g_gtN))) (fun _ => kp_val) (fun one h1 => (em_val (w := (fun (x : Nat) => .val (enc x))) (a := one) (fun dn => (ev_var rfl))))) (fun dn => eva_nil)) (fun (v2 : (List Nat)) h5 => g_tupL))))
@[irreducible] def sp_f_law_some : Spec := fun ds dr Q _ => ∃ (many : Nat) (lean : Nat), ds = [.pool, enc many, enc lean] ∧ (f_law_some many lean).run dr fun x d => Q (.val (enc x)) d
theorem vm_f_law_some (many : Nat) (lean : Nat) : ∀ dr (Q : RV → Nat → Prop) xe, (f_law_some many lean).run dr (fun x d => Q (.val (enc x)) d) → sp_f_law_some [.pool, enc many, enc lean] dr Q xe := fun dr Q xe q => by unfold sp_f_law_some; exact ⟨many, lean, rfl, q⟩
theorem wp_f_law_some (sp : Nat → Spec) (xe : Nat → Nat → Prop) (h_draw : sp 50 = sp_draw) : ∀ ds dr Q, sp_f_law_some ds dr Q (fun _ _ => False) → wpF ⟨sp, xe⟩ nm_f_law_some.length ir_f_law_some ds dr Q := by
  intro ds dr Q h
  unfold sp_f_law_some at h
  obtain ⟨many, lean, rfl, hq⟩ := h
  exact wpF_bm (bm_f_law_some (C := ⟨sp, xe⟩) h_draw many lean) hq
end PL
namespace PL
open PySem PySem.Spec PyProof.Rows L2
open En
def f_law_row_s1 (deeds : Nat) (s2 : (List Nat)) (k : Nat) : (M (List Nat)) :=
  ((((M.draw deeds).bind fun (v2 : Nat) => M.pure ([v2] : (List Nat))).bind fun (w : (List Nat)) => M.req ((s2.length + w.length ≤ sizeLine)) (M.pure ((s2 ++ w) : (List Nat)))).bind fun (row : (List Nat)) => (M.pure row))
def f_law_row (deeds : Nat) (most : Nat) : M (List Nat) :=
  (((M.draw (most + 1)).bind fun (v : Nat) => M.req (v ≤ 16777216) (M.pure (List.range v))).bind fun (xs : (List Nat)) => ((M.fold (f_law_row_s1 deeds) xs []).bind fun (s2 : (List Nat)) => (M.pure s2)))
@[irreducible] def sp_f_law_row : Spec := fun ds dr Q _ => ∃ (deeds : Nat) (most : Nat), ds = [.pool, enc deeds, enc most] ∧ (f_law_row deeds most).run dr fun x d => Q (.val (enc x)) d
end PL
namespace PL
open PySem PySem.Spec PyProof.Rows L2
open En
theorem erase_perm {α : Type} [Inhabited α] : ∀ {xs : List α} {v : Nat}, v < xs.length → (xs.eraseIdx v ++ [xs.getD v default]).Perm xs
  | [], _, h => by simp at h
  | x :: xs, 0, _ => by
    show (xs ++ [x]).Perm (x :: xs)
    exact List.perm_append_singleton x xs
  | x :: xs, v + 1, h => by
    have ih := erase_perm (xs := xs) (v := v) (by simpa using h)
    show (x :: (xs.eraseIdx v ++ [xs.getD v default])).Perm (x :: xs)
    exact ih.cons x
theorem ok_line {n : Nat} (hn : n ≤ 100) : (f_law_line n).ok 100 (LineOf n) := by
  unfold f_law_line
  have sz := sizeLine_eq
  refine ok_req (by omega) (ok_req (by omega) (ok_le (ok_bind (c2 := 0) (ok_fold (c := 1) (fun i s => (s.2 ++ s.1).Perm (List.range n) ∧ s.2.length = i) (List.range n) _ 0 ⟨by simp, rfl⟩ fun i x s hx hI => ?_) fun s hs => ?_) (by simp; omega)))
  · obtain ⟨hx1, hx2⟩ := List.getElem?_eq_some_iff.mp hx
    have hi : i < n := by simpa using hx1
    have hl := hI.1.length_eq
    rw [List.length_append, List.length_range] at hl
    have hI2 := hI.2
    unfold f_law_line_s1
    refine ok_req ⟨by omega, by omega⟩ (ok_le (ok_bind (c2 := 0) (ok_draw (by omega)) fun v hv => ok_req hv (ok_pure ⟨?_, ?_⟩)) (by omega))
    · refine List.Perm.trans ?_ hI.1
      rw [List.append_assoc]
      refine List.Perm.append_left _ ?_
      exact (List.perm_append_comm).trans (erase_perm hv)
    · show (s.2 ++ [_]).length = _
      rw [List.length_append, hI2]; rfl
  · obtain ⟨hp, hl⟩ := hs
    have h2 := hp.length_eq
    rw [List.length_append, List.length_range] at h2
    rw [List.length_range] at hl
    have : s.1 = [] := List.length_eq_zero_iff.mp (by omega)
    rw [this, List.append_nil] at hp
    exact ok_pure hp
theorem LineOf.len {n : Nat} {l : List Nat} (h : LineOf n l) : l.length = n := by have := h.length_eq; simpa using this
theorem LineOf.mem {n : Nat} {l : List Nat} (h : LineOf n l) {x : Nat} : x ∈ l ↔ x < n := by rw [h.mem_iff, List.mem_range]
theorem LineOf.nodup {n : Nat} {l : List Nat} (h : LineOf n l) : l.Nodup := h.nodup_iff.mpr List.nodup_range
theorem LineOf.get {n : Nat} {l : List Nat} (h : LineOf n l) {i : Nat} (hi : i < n) : l.getD i default < n := h.mem.mp (by
  rw [List.getD_eq_getElem?_getD, List.getElem?_eq_getElem (by rw [h.len]; exact hi)]
  exact List.getElem_mem _)
theorem mem_srt {α : Type} [En α] [DecidableEq α] [Dt α] [Od α] {xs : List α} {a : α} : a ∈ srt xs ↔ a ∈ xs := (srt_perm xs).mem_iff
theorem ok_some {many lean : Nat} (hm : many ≤ 1000) (hl : 0 < lean) : (f_law_some many lean).ok 1000 (fun rs => rs.Sublist (List.range many)) := by
  unfold f_law_some
  refine ok_req (by omega) (ok_le (ok_bind (c2 := 0) (ok_comp (c1 := 1) (c2 := 0) (Y := fun _ => True) (N := fun _ => True) (Φ := fun x y => x = y) (fun x hx => ?_) fun x hx _ => ok_pure rfl) fun ys hys => ok_req trivial (ok_pure (hys.sub fun _ _ h => h))) (by simp; omega))
  exact ok_bind (c2 := 0) (ok_draw hl) fun v hv => ok_req trivial (ok_pure ⟨fun _ => trivial, fun _ => trivial⟩)
end PL
namespace PL
open PySem PySem.Spec PyProof.Rows L2
open En
section
variable {α τ R X : Type}
theorem whl_inv {PC P : τ → Prop} {c : τ → Bool} {step : τ → Tn2 τ R} (I : τ → Prop) (μ : τ → Nat) (Rr : R → Prop) (G : τ → Prop) (hc : ∀ s, I s → PC s) (h0 : ∀ s, I s → c s = true → 0 < μ s)
    (h : ∀ s, I s → c s = true → P s ∧ match step s with | .go s' => I s' ∧ μ s' < μ s | .out r => Rr r | .brk s' => G s') (he : ∀ s, I s → c s = false → G s) :
    ∀ (k : Nat) (s : τ), I s → μ s ≤ k → whlP PC P c step k s ∧ (match whlT c step k s with | .out r => Rr r | .go s' => G s' | .brk s' => G s')
  | 0, s, hI, hk => by
    have hcs : c s = false := by
      cases e : c s with
      | false => rfl
      | true => have := h0 s hI e; omega
    exact ⟨⟨hc s hI, hcs⟩, he s hI hcs⟩
  | k + 1, s, hI, hk => by
    cases e : c s with
    | false =>
      refine ⟨⟨hc s hI, fun h => by rw [e] at h; cases h⟩, ?_⟩
      rw [whlT, if_neg (by rw [e]; exact Bool.false_ne_true)]
      exact he s hI e
    | true =>
      obtain ⟨h1, h2⟩ := h s hI e
      cases e2 : step s with
      | out r =>
        rw [e2] at h2
        refine ⟨⟨hc s hI, fun _ => ⟨h1, by rw [e2]; trivial⟩⟩, ?_⟩
        rw [whlT, if_pos e, e2]; exact h2
      | brk s' =>
        rw [e2] at h2
        refine ⟨⟨hc s hI, fun _ => ⟨h1, by rw [e2]; trivial⟩⟩, ?_⟩
        rw [whlT, if_pos e, e2]; exact h2
      | go s' =>
        rw [e2] at h2
        have ih := whl_inv I μ Rr G hc h0 h he k s' h2.1 (by have := h2.2; omega)
        refine ⟨⟨hc s hI, fun _ => ⟨h1, by rw [e2]; exact ih.1⟩⟩, ?_⟩
        rw [whlT, if_pos e, e2]; exact ih.2
theorem fold_inv {P : τ → α → Prop} {step : τ → α → τ} (I : Nat → τ → Prop) : ∀ (xs : List α) (s : τ) (k : Nat), I k s → (∀ i x s, xs[i]? = some x → I (k + i) s → P s x ∧ I (k + i + 1) (step s x)) → foldP P step xs s ∧ I (k + xs.length) (xs.foldl step s)
  | [], s, k, hI, _ => ⟨trivial, hI⟩
  | x :: xs, s, k, hI, h => by
    have e2 : k + (x :: xs).length = k + 1 + xs.length := by rw [List.length_cons]; omega
    obtain ⟨h1, h2⟩ := h 0 x s rfl hI
    have ih := fold_inv (P := P) I xs (step s x) (k + 1) h2 fun i y s2 hy hs => by
      have := h (i + 1) y s2 (by simpa using hy) (by rw [show k + (i + 1) = k + 1 + i by omega]; exact hs)
      rwa [show k + (i + 1) + 1 = k + 1 + i + 1 by omega] at this
    exact ⟨⟨h1, ih.1⟩, by rw [e2]; exact ih.2⟩
end
theorem rg_get {n i x : Nat} (h : (List.range n)[i]? = some x) : x = i ∧ i < n := by
  obtain ⟨h1, h2⟩ := List.getElem?_eq_some_iff.mp h
  exact ⟨by simpa using h2.symm, by simpa using h1⟩
theorem nodup_len : ∀ {s l : List Nat}, s.Nodup → (∀ x ∈ s, x ∈ l) → s.length ≤ l.length
  | [], _, _, _ => Nat.zero_le _
  | a :: s, l, h, hs => by
    obtain ⟨h1, h2⟩ := List.nodup_cons.mp h
    have ha := hs a List.mem_cons_self
    have := nodup_len (s := s) (l := l.erase a) h2 fun x hx => (List.mem_erase_of_ne (fun e => by subst e; exact h1 hx)).mpr (hs x (List.mem_cons_of_mem _ hx))
    rw [List.length_erase_of_mem ha] at this
    have := List.length_pos_of_mem ha
    rw [List.length_cons]; omega
end PL
namespace PL
open PySem PySem.Spec PyProof.Rows L2
open En
def f_are_numbers (value : V) (low : Int) (high : Int) : Bool :=
  ((f_are_integers value low high) && (f_is_ascending value))
def pre_f_are_numbers (value : V) (low : Int) (high : Int) : Prop :=
  (pre_f_are_integers value low high) ∧ ((f_are_integers value low high) = true → ((pre_f_is_ascending value)))
@[irreducible] def sp_f_are_numbers : Spec := fun ds dr Q _ => ∃ (value : V) (low : Int) (high : Int), ds = [enc value, enc low, enc high] ∧ pre_f_are_numbers value low high ∧ Q (.val (enc (f_are_numbers value low high))) dr
end PL
namespace PL
open PySem PySem.Spec PyProof.Rows L2
open En
def f_law_set (x : V) (low : Int) (high : Int) : Bool :=
  ((f_law_ints x low high) && (f_law_up x))
def pre_f_law_set (x : V) (low : Int) (high : Int) : Prop :=
  (pre_f_law_ints x low high) ∧ ((f_law_ints x low high) = true → ((pre_f_law_up x)))
@[irreducible] def sp_f_law_set : Spec := fun ds dr Q _ => ∃ (x : V) (low : Int) (high : Int), ds = [enc x, enc low, enc high] ∧ pre_f_law_set x low high ∧ Q (.val (enc (f_law_set x low high))) dr
end PL
namespace PL
open PySem PySem.Spec PyProof.Rows L2
open En
def f_law_menus_s1  (s2 : (List (List Nat))) (thing : Nat) : (List (List Nat)) :=
  (s2 ++ (s2.map fun (row : (List Nat)) => (row ++ [thing])))
def f_law_menus_p2  (s2 : (List (List Nat))) (thing : Nat) : Prop :=
  (∀ row ∈ s2, ((row.length + ([thing] : (List Nat)).length ≤ sizeLine))) ∧ (s2.length + ((s2.map fun (row : (List Nat)) => (row ++ [thing])) : (List (List Nat))).length ≤ sizeLine)
def f_law_menus (n2 : Nat) : (List (List Nat)) :=
  (srt (((List.range n2).foldl f_law_menus_s1 [[]]).filter fun (row2 : (List Nat)) => (decide (0 < row2.length))))
def pre_f_law_menus (n2 : Nat) : Prop :=
  (n2 ≤ 16777216) ∧ (foldP f_law_menus_p2 f_law_menus_s1 (List.range n2) [[]])
def nm_f_law_menus : List Str := ["n", "found", "thing", "row"]
def ir_f_law_menus : IS :=
(.seq (.asg (.nm 1) (.lst (.acons (.tup .anil) .anil)))
  (.seq (.fr (.nm 2) (.itR1 (.bor 0))
 (.seq (.asg (.nm 1) (.bin .add (.bor 1) (.comp [3] (.nm 3) (.itSeq (.bor 1)) (.cst (.bl true)) (.bin .add (.bor 3) (.tup (.acons (.var 2) .anil))))))
  .skip))
  (.seq (.ret (.blt .sorted (.acons (.comp [3] (.nm 3) (.itSeq (.bor 1)) (.cmp .gt (.blt .len (.acons (.bor 3) .anil)) (.cst (.int 0))) (.var 3)) .anil)))
  .skip)))
def fs_f_law_menus : List (Nat × Str) := []
def cs_f_law_menus : List (Str × D) := []
theorem bl_f_law_menus {C : PC} {dn : Nat} (n2 : Nat) (hp : pre_f_law_menus n2) : Bl C ⟨dn, [], fun (_ : Unit) _ => [], fun x => .own (x.map enc)⟩ ir_f_law_menus ⟨[.val (enc n2), .no, .no, .no], dn⟩ (.out (f_law_menus n2)) :=
  (bl_asg (ev_lstL ([[]] : List (List Nat)) (eva_F (ev_tup0 (α := Nat)) kp_val eva_nil) rfl rfl) sl_own (bl_for (⟨dn, [], fun s2 z2 => [.val (enc n2), .own (s2.map enc), z2 2, .no], fun _ => .val .non⟩ : Bk (List (List Nat)) Unit) (step := f_law_menus_s1) f_law_menus_p2 (s0 := [[]]) rfl (i_R1 (ev_bor rfl) hp.1) (zl [.no, .no, .no]) rfl (by exact trivial) hp.2 (fun thing h1 s2 z2 h2 h3 => ⟨_, tg_nm, (bl_asg (ev_bin (ev_borO rfl) (g_compM (fun (row : (List Nat)) => (row ++ [thing])) (fun (row : (List Nat)) => ⟨[.val (enc n2), .own (s2.map enc), .val (enc thing), .val (enc row)], dn⟩) rfl (i_Lb (ev_borO rfl)) (fun row h4 => tg_nm) (fun _ => rfl) rfl (fun row h4 => evk (ev_bin (ev_bor rfl) (ev_tupL ([thing] : (List Nat)) (eva_F (ev_var rfl) kp_val eva_nil) rfl rfl) (g_addT (h2.1 row h4))) kp_val)) (g_addL h2.2)) sl_own (bl_go (s := (s2 ++ (s2.map fun (row : (List Nat)) => (row ++ [thing])))) (zl [.no, .no, .val (enc thing)]) rfl (by exact trivial)))⟩) (fun z2 h3 => (bl_ret (x := (srt (((List.range n2).foldl f_law_menus_s1 [[]]).filter fun (row2 : (List Nat)) => (decide (0 < row2.length))))) (ev_blt (eva_T (g_compF (fun (row2 : (List Nat)) => (decide (0 < row2.length))) (fun (row2 : (List Nat)) => ⟨[.val (enc n2), .own ((((List.range n2).foldl f_law_menus_s1 [[]]) : (List (List Nat))).map enc), z2 2, .val (enc row2)], dn⟩) rfl (i_Lb (ev_borO rfl)) (fun row2 h6 => tg_nm) (fun _ => rfl) rfl (fun row2 h6 => (ev_cmp (ev_blt (eva_T (ev_bor rfl) rfl eva_nil) g_lenT) (ev_cN 0 rfl) g_gtN)) (fun row2 h6 h7 => evk (ev_var rfl) kp_val)) rfl eva_nil) g_srtL) rfl))))
@[irreducible] def sp_f_law_menus : Spec := fun ds dr Q _ => ∃ (n2 : Nat), ds = [enc n2] ∧ pre_f_law_menus n2 ∧ Q (.own ((f_law_menus n2).map enc)) dr
theorem vl_f_law_menus (n2 : Nat) (hp : pre_f_law_menus n2) : VlR sp_f_law_menus [enc n2] (.own ((f_law_menus n2).map enc)) := fun dr Q xe q => by unfold sp_f_law_menus; exact ⟨n2, rfl, hp, q⟩
theorem wp_f_law_menus (sp : Nat → Spec) (xe : Nat → Nat → Prop) : ∀ ds dr Q, sp_f_law_menus ds dr Q (fun _ _ => False) → wpF ⟨sp, xe⟩ nm_f_law_menus.length ir_f_law_menus ds dr Q := by
  intro ds dr Q h
  unfold sp_f_law_menus at h
  obtain ⟨n2, rfl, hp, hq⟩ := h
  exact wpF_bl (bl_f_law_menus (C := ⟨sp, xe⟩) n2 hp) hq
end PL
namespace PL
open PySem PySem.Spec PyProof.Rows L2
open En
def f_law_sets (n2 : Nat) : (List (List Nat)) :=
  (srt ([[]] ++ (f_law_menus n2)))
def pre_f_law_sets (n2 : Nat) : Prop :=
  (pre_f_law_menus n2) ∧ (([[]] : (List (List Nat))).length + ((f_law_menus n2) : (List (List Nat))).length ≤ sizeLine)
def nm_f_law_sets : List Str := ["n"]
def ir_f_law_sets : IS :=
(.seq (.ret (.blt .sorted (.acons (.bin .add (.lst (.acons (.tup .anil) .anil)) (.call 22240 (.acons (.var 0) .anil))) .anil)))
  .skip)
def fs_f_law_sets : List (Nat × Str) := [(22240, "_law_menus")]
def cs_f_law_sets : List (Str × D) := []
theorem bl_f_law_sets {C : PC} (h_f_law_menus : C.sp 22240 = sp_f_law_menus) {dn : Nat} (n2 : Nat) (hp : pre_f_law_sets n2) : Bl C ⟨dn, [], fun (_ : Unit) _ => [], fun x => .own (x.map enc)⟩ ir_f_law_sets ⟨[.val (enc n2)], dn⟩ (.out (f_law_sets n2)) :=
  (bl_ret (x := (srt ([[]] ++ (f_law_menus n2)))) (ev_blt (eva_T (ev_bin (ev_lstL ([[]] : List (List Nat)) (eva_F (ev_tup0 (α := Nat)) kp_val eva_nil) rfl rfl) (ev_call h_f_law_menus (eva_F (ev_var rfl) kp_val eva_nil) (vl_f_law_menus n2 hp.1)) (g_addL hp.2)) rfl eva_nil) g_srtL) rfl)
@[irreducible] def sp_f_law_sets : Spec := fun ds dr Q _ => ∃ (n2 : Nat), ds = [enc n2] ∧ pre_f_law_sets n2 ∧ Q (.own ((f_law_sets n2).map enc)) dr
theorem vl_f_law_sets (n2 : Nat) (hp : pre_f_law_sets n2) : VlR sp_f_law_sets [enc n2] (.own ((f_law_sets n2).map enc)) := fun dr Q xe q => by unfold sp_f_law_sets; exact ⟨n2, rfl, hp, q⟩
theorem wp_f_law_sets (sp : Nat → Spec) (xe : Nat → Nat → Prop) (h_f_law_menus : sp 22240 = sp_f_law_menus) : ∀ ds dr Q, sp_f_law_sets ds dr Q (fun _ _ => False) → wpF ⟨sp, xe⟩ nm_f_law_sets.length ir_f_law_sets ds dr Q := by
  intro ds dr Q h
  unfold sp_f_law_sets at h
  obtain ⟨n2, rfl, hp, hq⟩ := h
  exact wpF_bl (bl_f_law_sets (C := ⟨sp, xe⟩) h_f_law_menus n2 hp) hq
end PL
namespace PL
open PySem PySem.Spec PyProof.Rows L2
open En
def f_law_things  : M Nat :=
  ((M.draw 8).bind fun (w : Nat) => M.req ((w < [3, 3, 4, 2, 3, 4, 1, 3].length)) (M.pure (([3, 3, 4, 2, 3, 4, 1, 3].getD w default) : Nat)))
def nm_f_law_things : List Str := ["pool"]
def ir_f_law_things : IS :=
(.seq (.ret (.idx (.lst (.acons (.cst (.int 3)) (.acons (.cst (.int 3)) (.acons (.cst (.int 4)) (.acons (.cst (.int 2)) (.acons (.cst (.int 3)) (.acons (.cst (.int 4)) (.acons (.cst (.int 1)) (.acons (.cst (.int 3)) .anil))))))))) (.call 50 (.acons (.var 0) (.acons (.cst (.int 8)) .anil)))))
  .skip)
def fs_f_law_things : List (Nat × Str) := [(50, "_law_draw")]
def cs_f_law_things : List (Str × D) := []
theorem bm_f_law_things {C : PC} (h_draw : C.sp 50 = sp_draw)  : BlM C (⟨[], fun _ _ => [], fun x => .val (enc x)⟩ : Bm Unit Nat) ir_f_law_things [.val .pool] Tn2.out f_law_things :=
  (bm_retO (em_idx2 (g := (fun (w : Nat) => ([3, 3, 4, 2, 3, 4, 1, 3].getD w default))) (fun (w : Nat) => (w < [3, 3, 4, 2, 3, 4, 1, 3].length)) (fun dn => (ev_lstL ([3, 3, 4, 2, 3, 4, 1, 3] : List Nat) (eva_F (ev_cN 3 rfl) kp_val (eva_F (ev_cN 3 rfl) kp_val (eva_F (ev_cN 4 rfl) kp_val (eva_F (ev_cN 2 rfl) kp_val (eva_F (ev_cN 3 rfl) kp_val (eva_F (ev_cN 4 rfl) kp_val (eva_F (ev_cN 1 rfl) kp_val (eva_F (ev_cN 3 rfl) kp_val eva_nil)))))))) rfl rfl)) (em_draw h_draw (fun dn => (ev_var rfl)) (fun dn => (ev_cN 8 rfl))) (fun (w : Nat) h1 => (g_ixL h1))))
@[irreducible] def sp_f_law_things : Spec := fun ds dr Q _ => ds = [.pool] ∧ f_law_things.run dr fun x d => Q (.val (enc x)) d
theorem vm_f_law_things  : ∀ dr (Q : RV → Nat → Prop) xe, f_law_things.run dr (fun x d => Q (.val (enc x)) d) → sp_f_law_things [.pool] dr Q xe := fun dr Q xe q => by unfold sp_f_law_things; exact ⟨rfl, q⟩
theorem wp_f_law_things (sp : Nat → Spec) (xe : Nat → Nat → Prop) (h_draw : sp 50 = sp_draw) : ∀ ds dr Q, sp_f_law_things ds dr Q (fun _ _ => False) → wpF ⟨sp, xe⟩ nm_f_law_things.length ir_f_law_things ds dr Q := by
  intro ds dr Q h
  unfold sp_f_law_things at h
  obtain ⟨rfl, hq⟩ := h
  exact wpF_bm (bm_f_law_things (C := ⟨sp, xe⟩) h_draw ) hq
end PL
namespace PL
open PySem PySem.Spec PyProof.Rows L2
open En
theorem ok_things : f_law_things.ok 1 (fun n => 1 ≤ n ∧ n ≤ 4) := by
  unfold f_law_things
  refine ok_le (ok_bind (c2 := 0) (ok_draw (by decide)) fun v hv => ok_req (by simpa using hv) (ok_pure ?_)) (by decide)
  have : ∀ v, v < 8 → 1 ≤ [3, 3, 4, 2, 3, 4, 1, 3].getD v default ∧ [3, 3, 4, 2, 3, 4, 1, 3].getD v default ≤ 4 := by decide
  exact this v hv
def SetOf (n : Nat) (r : List Nat) : Prop := r.Pairwise (· < ·) ∧ ∀ x ∈ r, x < n
theorem SetOf.nodup {n : Nat} {r : List Nat} (h : SetOf n r) : r.Nodup := h.1.imp fun h => Nat.ne_of_lt h
theorem SetOf.len {n : Nat} {r : List Nat} (h : SetOf n r) : r.length ≤ n := by
  have := nodup_len h.nodup (l := List.range n) fun x hx => List.mem_range.mpr (h.2 x hx)
  simpa using this
theorem SetOf.nil {n : Nat} : SetOf n [] := ⟨.nil, fun x hx => nomatch hx⟩
theorem SetOf.range (n : Nat) : SetOf n (List.range n) := ⟨List.pairwise_lt_range, fun x hx => List.mem_range.mp hx⟩
theorem SetOf.snoc {n : Nat} {r : List Nat} (h : SetOf n r) : SetOf (n + 1) (r ++ [n]) := ⟨List.pairwise_append.mpr ⟨h.1, List.pairwise_singleton .., fun a ha b hb => by rw [List.mem_singleton.mp hb]; exact h.2 a ha⟩, fun x hx => by
  rcases List.mem_append.mp hx with h1 | h1
  · have := h.2 x h1; omega
  · rw [List.mem_singleton.mp h1]; omega⟩
theorem SetOf.mono {n m : Nat} {r : List Nat} (h : SetOf n r) (hm : n ≤ m) : SetOf m r := ⟨h.1, fun x hx => Nat.lt_of_lt_of_le (h.2 x hx) hm⟩
theorem SetOf.sub {n : Nat} {r s : List Nat} (h : SetOf n r) (hs : s.Sublist r) : SetOf n s := ⟨h.1.sublist hs, fun x hx => h.2 x (hs.mem hx)⟩
def MenI (i : Nat) (s : List (List Nat)) : Prop := s.length = 2 ^ i ∧ ∀ r ∈ s, SetOf i r
theorem menus_fold {n : Nat} (hn : n ≤ 20) : foldP f_law_menus_p2 f_law_menus_s1 (List.range n) [[]] ∧ MenI n ((List.range n).foldl f_law_menus_s1 [[]]) := by
  have sz := sizeLine_eq
  have := fold_inv (P := f_law_menus_p2) (step := f_law_menus_s1) MenI (List.range n) [[]] 0 ⟨rfl, fun r hr => by rw [List.mem_singleton.mp hr]; exact .nil⟩ fun i x s hx hI => by
    obtain ⟨rfl, hi⟩ := rg_get hx
    rw [Nat.zero_add] at hI ⊢
    have h2 : 2 ^ x ≤ 2 ^ 20 := Nat.pow_le_pow_right (by decide) (by omega)
    refine ⟨⟨fun r hr => ?_, ?_⟩, ?_, fun r hr => ?_⟩
    · have := (hI.2 r hr).len
      show r.length + 1 ≤ _
      omega
    · rw [List.length_map, hI.1]; omega
    · show (s ++ s.map _).length = 2 ^ (x + 1)
      rw [List.length_append, List.length_map, hI.1, Nat.pow_succ]; omega
    · rcases List.mem_append.mp hr with h | h
      · exact (hI.2 r h).mono (by omega)
      · obtain ⟨q, hq, rfl⟩ := List.mem_map.mp h
        exact (hI.2 q hq).snoc
  refine ⟨this.1, ?_⟩
  simpa using this.2
theorem pre_menus {n : Nat} (hn : n ≤ 20) : pre_f_law_menus n := ⟨by omega, (menus_fold hn).1⟩
theorem menus_mem {n : Nat} (hn : n ≤ 20) {r : List Nat} (h : r ∈ f_law_menus n) : SetOf n r ∧ r ≠ [] := by
  unfold f_law_menus at h
  rw [mem_srt] at h
  have h := List.mem_filter.mp h
  refine ⟨(menus_fold hn).2.2 r h.1, fun e => ?_⟩
  have := h.2
  rw [e] at this
  cases this
theorem menus_len {n : Nat} (hn : n ≤ 20) : (f_law_menus n).length ≤ 2 ^ n := by
  unfold f_law_menus
  rw [(srt_perm _).length_eq, ← (menus_fold hn).2.1]
  exact List.length_filter_le ..
theorem pre_sets {n : Nat} (hn : n ≤ 20) : pre_f_law_sets n := ⟨pre_menus hn, by
  have := menus_len hn
  have h2 : 2 ^ n ≤ 2 ^ 20 := Nat.pow_le_pow_right (by decide) (by omega)
  have sz := sizeLine_eq
  show 1 + _ ≤ _
  omega⟩
theorem sets_mem {n : Nat} (hn : n ≤ 20) {r : List Nat} (h : r ∈ f_law_sets n) : SetOf n r := by
  unfold f_law_sets at h
  rw [mem_srt] at h
  rcases List.mem_append.mp h with h | h
  · rw [List.mem_singleton.mp h]; exact .nil
  · exact (menus_mem hn h).1
theorem sets_len {n : Nat} (hn : n ≤ 20) : (f_law_sets n).length ≤ 2 ^ n + 1 := by
  unfold f_law_sets
  rw [(srt_perm _).length_eq, List.length_append]
  have := menus_len hn
  show 1 + _ ≤ _
  omega
end PL
set_option maxHeartbeats 1000000
namespace PL
open PySem PySem.Spec PyProof.Rows L2
open En
theorem pt_keys {κ ν : Type} [DecidableEq κ] (kvs : List (κ × ν)) (k : κ) (v : ν) : (pt kvs k v).map (·.1) = if k ∈ kvs.map (·.1) then kvs.map (·.1) else kvs.map (·.1) ++ [k] := by
  unfold pt
  have e : (kvs.any fun p => decide (p.1 = k)) = decide (k ∈ kvs.map (·.1)) := by
    rw [Bool.eq_iff_iff, List.any_eq_true, decide_eq_true_eq, List.mem_map]
    constructor
    · rintro ⟨p, hp, h⟩; exact ⟨p, hp, of_decide_eq_true h⟩
    · rintro ⟨p, hp, h⟩; exact ⟨p, hp, decide_eq_true h⟩
  rw [e]
  by_cases h : k ∈ kvs.map (·.1)
  · rw [if_pos (decide_eq_true h), if_pos h, List.map_map]
    refine List.map_congr_left fun p _ => ?_
    show (if p.1 = k then (p.1, v) else p).1 = p.1
    split <;> rfl
  · rw [if_neg (by simpa using h), if_neg h, List.map_append]; rfl
theorem ptAll_keys {κ ν : Type} [DecidableEq κ] : ∀ (xs acc : List (κ × ν)), (acc.map (·.1)).Nodup → ((xs.foldl (fun l p => pt l p.1 p.2) acc).map (·.1)).Nodup ∧ ∀ a, a ∈ (xs.foldl (fun l p => pt l p.1 p.2) acc).map (·.1) ↔ a ∈ acc.map (·.1) ∨ a ∈ xs.map (·.1)
  | [], acc, h => ⟨h, fun a => by simp⟩
  | p :: xs, acc, h => by
    have h1 : ((pt acc p.1 p.2).map (·.1)).Nodup := by
      rw [pt_keys]
      split
      · exact h
      · rename_i hn
        rw [List.nodup_append]
        exact ⟨h, by simp, fun a ha b hb e => by rw [List.mem_singleton.mp hb] at e; subst e; exact hn ha⟩
    have ih := ptAll_keys xs (pt acc p.1 p.2) h1
    refine ⟨ih.1, fun a => ?_⟩
    rw [List.foldl_cons, ih.2 a, pt_keys, List.map_cons, List.mem_cons]
    split
    · rename_i hm
      constructor
      · rintro (h | h)
        · exact .inl h
        · exact .inr (.inr h)
      · rintro (h | rfl | h)
        · exact .inl h
        · exact .inl hm
        · exact .inr h
    · rw [List.mem_append, List.mem_singleton]
      constructor
      · rintro ((h | h) | h)
        · exact .inl h
        · exact .inr (.inl h)
        · exact .inr (.inr h)
      · rintro (h | h | h)
        · exact .inl (.inl h)
        · exact .inl (.inr h)
        · exact .inr h
theorem srt_uniq {α : Type} [En α] [DecidableEq α] [Dt α] [Od α] : ∀ {xs ys : List α}, xs.Perm ys → xs.Pairwise (fun a b => Od.lt b a = false) → ys.Pairwise (fun a b => Od.lt b a = false) → xs = ys
  | [], ys, h, _, _ => (List.nil_perm.mp h).symm
  | x :: xs, [], h, _, _ => by have := h.length_eq; cases this
  | x :: xs, y :: ys, h, h1, h2 => by
    obtain ⟨a1, a2⟩ := List.pairwise_cons.mp h1
    obtain ⟨b1, b2⟩ := List.pairwise_cons.mp h2
    have e : x = y := by
      refine Decidable.byContradiction fun ne => ?_
      have m1 : x ∈ ys := (List.mem_cons.mp (h.subset List.mem_cons_self)).resolve_left ne
      have m2 : y ∈ xs := (List.mem_cons.mp (h.symm.subset List.mem_cons_self)).resolve_left fun e => ne e.symm
      rcases Od.lin.tot x y ne with z | z
      · rw [b1 x m1] at z; cases z
      · rw [a1 y m2] at z; cases z
    subst e
    rw [srt_uniq (List.Perm.cons_inv h) a2 b2]
theorem srt_congr {α : Type} [En α] [DecidableEq α] [Dt α] [Od α] {xs ys : List α} (h : xs.Perm ys) : srt xs = srt ys := srt_uniq ((srt_perm xs).trans (h.trans (srt_perm ys).symm)) (srt_le xs) (srt_le ys)
theorem srt_lt {α : Type} [En α] [DecidableEq α] [Dt α] [Od α] {xs : List α} (nd : xs.Nodup) : (srt xs).Pairwise (fun a b => Od.lt a b = true) := by
  have h2 : (srt xs).Nodup := (srt_perm xs).nodup_iff.mpr nd
  refine ((srt_le xs).and h2).imp fun {a b} ⟨h, ne⟩ => ?_
  rcases Od.lin.tot a b ne with z | z
  · exact z
  · rw [z] at h; cases h
theorem srt_same {α : Type} [En α] [DecidableEq α] [Dt α] [Od α] {xs ys : List α} (h1 : xs.Nodup) (h2 : ys.Nodup) (h : ∀ a, a ∈ xs ↔ a ∈ ys) : srt xs = srt ys := srt_congr ((List.perm_ext_iff_of_nodup h1 h2).mpr h)
end PL
namespace PL
open PySem PySem.Spec PyProof.Rows L2
open En
def f_lines_of_s1 (things : Nat) (s2 : (List (List Nat))) (x : Nat) : (List (List Nat)) :=
  (s2.flatMap fun (row : (List Nat)) => ((List.range things).filter fun (one : Nat) => (!(decide (one ∈ row)))).map fun (one : Nat) => (row ++ [one]))
def f_lines_of_p2 (things : Nat) (s2 : (List (List Nat))) (x : Nat) : Prop :=
  (∀ row ∈ s2, ((things ≤ 16777216))) ∧ (∀ row ∈ s2, (∀ one ∈ (List.range things), (!(decide (one ∈ row))) = true → ((row.length + ([one] : (List Nat)).length ≤ sizeLine)))) ∧ (∃ N : Nat, (∀ row ∈ s2, (List.range things).length ≤ N) ∧ N * s2.length ≤ sizeLine)
def f_lines_of (things : Nat) : (Ls (List Nat)) :=
  (Ls.mk ((List.range things).foldl (f_lines_of_s1 things) [[]]))
def pre_f_lines_of (things : Nat) : Prop :=
  (things ≤ 16777216) ∧ (foldP (f_lines_of_p2 things) (f_lines_of_s1 things) (List.range things) [[]])
@[irreducible] def sp_f_lines_of : Spec := fun ds dr Q _ => ∃ (things : Nat), ds = [enc things] ∧ pre_f_lines_of things ∧ Q (.val (enc (f_lines_of things))) dr
end PL
namespace PL
open PySem PySem.Spec PyProof.Rows L2
open En
def f_law_all_lines_s1 (n2 : Nat) (s3 : (List (List Nat))) (row : (List Nat)) : (List (List Nat)) :=
  (s3 ++ (((List.range n2).filter fun (one : Nat) => (!(decide (one ∈ row)))).map fun (one : Nat) => (row ++ [one])))
def f_law_all_lines_p2 (n2 : Nat) (s3 : (List (List Nat))) (row : (List Nat)) : Prop :=
  (n2 ≤ 16777216) ∧ (∀ one ∈ (List.range n2), (!(decide (one ∈ row))) = true → ((row.length + ([one] : (List Nat)).length ≤ sizeLine))) ∧ (s3.length + ((((List.range n2).filter fun (one : Nat) => (!(decide (one ∈ row)))).map fun (one : Nat) => (row ++ [one])) : (List (List Nat))).length ≤ sizeLine)
def f_law_all_lines_3 (further : (List (List Nat))) : (List (List Nat)) :=
  further
def f_law_all_lines_s4 (n2 : Nat) (s2 : (List (List Nat))) (k : Nat) : (List (List Nat)) :=
  (f_law_all_lines_3 (s2.foldl (f_law_all_lines_s1 n2) ([] : List (List Nat))))
def f_law_all_lines_p5 (n2 : Nat) (s2 : (List (List Nat))) (k : Nat) : Prop :=
  (foldP (f_law_all_lines_p2 n2) (f_law_all_lines_s1 n2) s2 ([] : List (List Nat)))
def f_law_all_lines (n2 : Nat) : (Ls (List Nat)) :=
  (Ls.mk ((List.range n2).foldl (f_law_all_lines_s4 n2) [[]]))
def pre_f_law_all_lines (n2 : Nat) : Prop :=
  (n2 ≤ 16777216) ∧ (foldP (f_law_all_lines_p5 n2) (f_law_all_lines_s4 n2) (List.range n2) [[]])
@[irreducible] def sp_f_law_all_lines : Spec := fun ds dr Q _ => ∃ (n2 : Nat), ds = [enc n2] ∧ pre_f_law_all_lines n2 ∧ Q (.val (enc (f_law_all_lines n2))) dr
end PL
namespace PL
open PySem PySem.Spec PyProof.Rows L2
open En
def extL (n : Nat) (row : List Nat) : List (List Nat) := ((List.range n).filter fun one => (!(decide (one ∈ row)))).map fun one => (row ++ [one])
theorem extL_len (n : Nat) (row : List Nat) : (extL n row).length ≤ n := by
  unfold extL
  rw [List.length_map]
  have := List.length_filter_le (fun one => (!(decide (one ∈ row)))) (List.range n)
  simpa using this
theorem mem_extL {n : Nat} {row l : List Nat} : l ∈ extL n row ↔ ∃ x, x < n ∧ x ∉ row ∧ l = row ++ [x] := by
  unfold extL
  rw [List.mem_map]
  constructor
  · rintro ⟨x, hx, rfl⟩
    have := List.mem_filter.mp hx
    exact ⟨x, List.mem_range.mp this.1, by simpa using this.2, rfl⟩
  · rintro ⟨x, hx, hr, rfl⟩
    exact ⟨x, List.mem_filter.mpr ⟨List.mem_range.mpr hx, by simpa using hr⟩, rfl⟩
theorem flatMap_len {α β : Type} {f : α → List β} {N : Nat} : ∀ {xs : List α}, (∀ x ∈ xs, (f x).length ≤ N) → (xs.flatMap f).length ≤ N * xs.length
  | [], _ => by simp
  | x :: xs, h => by
    have := flatMap_len (f := f) (N := N) (xs := xs) fun y hy => h y (List.mem_cons_of_mem _ hy)
    have h1 := h x List.mem_cons_self
    rw [List.flatMap_cons, List.length_append, List.length_cons, Nat.mul_add, Nat.mul_one]; omega
def LinI (n i : Nat) (s : List (List Nat)) : Prop := s.length ≤ n ^ i ∧ ∀ r, r ∈ s ↔ (r.length = i ∧ r.Nodup ∧ ∀ x ∈ r, x < n)
theorem LinI.zero (n : Nat) : LinI n 0 [[]] := ⟨Nat.le_refl _, fun r => by
  rw [List.mem_singleton, List.length_eq_zero_iff]
  constructor
  · rintro rfl; exact ⟨rfl, .nil, fun x hx => nomatch hx⟩
  · exact fun h => h.1⟩
theorem LinI.step {n i : Nat} {s : List (List Nat)} (h : LinI n i s) : LinI n (i + 1) (s.flatMap (extL n)) := by
  refine ⟨?_, fun r => ?_⟩
  · have := flatMap_len (f := extL n) (N := n) (xs := s) fun x _ => extL_len n x
    have h2 := Nat.mul_le_mul_left n h.1
    rw [Nat.pow_succ, Nat.mul_comm]
    omega
  · rw [List.mem_flatMap]
    constructor
    · rintro ⟨q, hq, hr⟩
      obtain ⟨x, hx, hn, rfl⟩ := mem_extL.mp hr
      obtain ⟨h1, h2, h3⟩ := (h.2 q).mp hq
      refine ⟨by simp [h1], List.nodup_append.mpr ⟨h2, by simp, fun a ha b hb => ?_⟩, fun y hy => ?_⟩
      · rw [List.mem_singleton.mp hb]
        exact fun e => hn (e ▸ ha)
      · rcases List.mem_append.mp hy with hy | hy
        · exact h3 y hy
        · rw [List.mem_singleton.mp hy]; exact hx
    · rintro ⟨h1, h2, h3⟩
      have hne : r ≠ [] := fun e => by rw [e] at h1; cases h1
      have e := List.dropLast_concat_getLast hne
      rw [← e] at h2
      obtain ⟨n1, n2, n3⟩ := List.nodup_append.mp h2
      refine ⟨r.dropLast, (h.2 _).mpr ⟨by rw [List.length_dropLast]; omega, n1, fun x hx => h3 x (List.dropLast_subset _ hx)⟩, mem_extL.mpr ⟨r.getLast hne, h3 _ (List.getLast_mem hne), fun hx => ?_, e.symm⟩⟩
      exact n3 _ hx _ (List.mem_singleton.mpr rfl) rfl
theorem foldl_congr' {α τ : Type} {f g : τ → α → τ} (h : ∀ s a, f s a = g s a) (xs : List α) (s : τ) : xs.foldl f s = xs.foldl g s := by
  rw [show f = g from funext fun s => funext fun a => h s a]
end PL
namespace PL
open PySem PySem.Spec PyProof.Rows L2
open En
def f_subsets_of_s1  (s2 : (List (List Nat))) (item : Nat) : (List (List Nat)) :=
  (s2 ++ (s2.map fun (row : (List Nat)) => (row ++ [item])))
def f_subsets_of_p2  (s2 : (List (List Nat))) (item : Nat) : Prop :=
  (∀ row ∈ s2, ((row.length + ([item] : (List Nat)).length ≤ sizeLine))) ∧ (s2.length + ((s2.map fun (row : (List Nat)) => (row ++ [item])) : (List (List Nat))).length ≤ sizeLine)
def f_subsets_of (items : (Ls Nat)) : (List (List Nat)) :=
  (srt (items.l.foldl f_subsets_of_s1 [[]]))
def pre_f_subsets_of (items : (Ls Nat)) : Prop :=
  (foldP f_subsets_of_p2 f_subsets_of_s1 items.l [[]])
def nm_f_subsets_of : List Str := ["items", "found", "item", "row"]
def ir_f_subsets_of : IS :=
(.seq (.asg (.nm 1) (.lst (.acons (.tup .anil) .anil)))
  (.seq (.fr (.nm 2) (.itSeq (.var 0))
 (.seq (.asg (.nm 1) (.bin .add (.bor 1) (.comp [3] (.nm 3) (.itSeq (.bor 1)) (.cst (.bl true)) (.bin .add (.bor 3) (.tup (.acons (.var 2) .anil))))))
  .skip))
  (.seq (.ret (.blt .sorted (.acons (.bor 1) .anil)))
  .skip)))
def fs_f_subsets_of : List (Nat × Str) := []
def cs_f_subsets_of : List (Str × D) := []
theorem bl_f_subsets_of {C : PC} {dn : Nat} (items : (Ls Nat)) (hp : pre_f_subsets_of items) : Bl C ⟨dn, [], fun (_ : Unit) _ => [], fun x => .own (x.map enc)⟩ ir_f_subsets_of ⟨[.val (.lst (items.l.map enc)), .no, .no, .no], dn⟩ (.out (f_subsets_of items)) :=
  (bl_asg (ev_lstL ([[]] : List (List Nat)) (eva_F (ev_tup0 (α := Nat)) kp_val eva_nil) rfl rfl) sl_own (bl_for (⟨dn, [], fun s2 z2 => [.val (.lst (items.l.map enc)), .own (s2.map enc), z2 2, .no], fun _ => .val .non⟩ : Bk (List (List Nat)) Unit) (step := f_subsets_of_s1) f_subsets_of_p2 (s0 := [[]]) rfl (i_Lv (ev_var rfl)) (zl [.no, .no, .no]) rfl (by exact trivial) hp (fun item h1 s2 z2 h2 h3 => ⟨_, tg_nm, (bl_asg (ev_bin (ev_borO rfl) (g_compM (fun (row : (List Nat)) => (row ++ [item])) (fun (row : (List Nat)) => ⟨[.val (.lst (items.l.map enc)), .own (s2.map enc), .val (enc item), .val (enc row)], dn⟩) rfl (i_Lb (ev_borO rfl)) (fun row h4 => tg_nm) (fun _ => rfl) rfl (fun row h4 => evk (ev_bin (ev_bor rfl) (ev_tupL ([item] : (List Nat)) (eva_F (ev_var rfl) kp_val eva_nil) rfl rfl) (g_addT (h2.1 row h4))) kp_val)) (g_addL h2.2)) sl_own (bl_go (s := (s2 ++ (s2.map fun (row : (List Nat)) => (row ++ [item])))) (zl [.no, .no, .val (enc item)]) rfl (by exact trivial)))⟩) (fun z2 h3 => (bl_ret (x := (srt (items.l.foldl f_subsets_of_s1 [[]]))) (ev_blt (eva_T (ev_borO rfl) rfl eva_nil) g_srtL) rfl))))
@[irreducible] def sp_f_subsets_of : Spec := fun ds dr Q _ => ∃ (items : (Ls Nat)), ds = [enc items] ∧ pre_f_subsets_of items ∧ Q (.own ((f_subsets_of items).map enc)) dr
theorem vl_f_subsets_of (items : (Ls Nat)) (hp : pre_f_subsets_of items) : VlR sp_f_subsets_of [enc items] (.own ((f_subsets_of items).map enc)) := fun dr Q xe q => by unfold sp_f_subsets_of; exact ⟨items, rfl, hp, q⟩
theorem wp_f_subsets_of (sp : Nat → Spec) (xe : Nat → Nat → Prop) : ∀ ds dr Q, sp_f_subsets_of ds dr Q (fun _ _ => False) → wpF ⟨sp, xe⟩ nm_f_subsets_of.length ir_f_subsets_of ds dr Q := by
  intro ds dr Q h
  unfold sp_f_subsets_of at h
  obtain ⟨items, rfl, hp, hq⟩ := h
  exact wpF_bl (bl_f_subsets_of (C := ⟨sp, xe⟩) items hp) hq
end PL
namespace PL
open PySem PySem.Spec PyProof.Rows L2
open En
def f_is_within (one : (List Nat)) (two : (List Nat)) : Bool :=
  (one.all fun (thing : Nat) => (decide (thing ∈ two)))
def nm_f_is_within : List Str := ["one", "two", "thing"]
def ir_f_is_within : IS :=
(.seq (.ret (.blt .all (.acons (.comp [2] (.nm 2) (.itSeq (.bor 0)) (.cst (.bl true)) (.cmp .isin (.bor 2) (.bor 1))) .anil)))
  .skip)
def fs_f_is_within : List (Nat × Str) := []
def cs_f_is_within : List (Str × D) := []
theorem bl_f_is_within {C : PC} {dn : Nat} (one : (List Nat)) (two : (List Nat)) : Bl C ⟨dn, [], fun (_ : Unit) _ => [], fun x => .val (enc x)⟩ ir_f_is_within ⟨[.val (enc one), .val (enc two), .no], dn⟩ (.out (f_is_within one two)) :=
  (bl_ret (x := ((one.all fun (thing : Nat) => (decide (thing ∈ two))) : Bool)) (ev_blt (eva_T (g_compM (fun (thing : Nat) => (decide (thing ∈ two))) (fun (thing : Nat) => ⟨[.val (enc one), .val (enc two), .val (enc thing)], dn⟩) rfl (i_T (ev_bor rfl)) (fun thing h1 => tg_nm) (fun _ => rfl) rfl (fun thing h1 => evk (ev_cmp (ev_bor rfl) (ev_bor rfl) g_inT) kp_val)) rfl eva_nil) g_allM) rfl)
@[irreducible] def sp_f_is_within : Spec := fun ds dr Q _ => ∃ (one : (List Nat)) (two : (List Nat)), ds = [enc one, enc two] ∧ Q (.val (enc (f_is_within one two))) dr
theorem vl_f_is_within (one : (List Nat)) (two : (List Nat)) : VlR sp_f_is_within [enc one, enc two] (.val (enc (f_is_within one two))) := fun dr Q xe q => by unfold sp_f_is_within; exact ⟨one, two, rfl, q⟩
theorem wp_f_is_within (sp : Nat → Spec) (xe : Nat → Nat → Prop) : ∀ ds dr Q, sp_f_is_within ds dr Q (fun _ _ => False) → wpF ⟨sp, xe⟩ nm_f_is_within.length ir_f_is_within ds dr Q := by
  intro ds dr Q h
  unfold sp_f_is_within at h
  obtain ⟨one, two, rfl, hq⟩ := h
  exact wpF_bl (bl_f_is_within (C := ⟨sp, xe⟩) one two) hq
end PL
namespace PL
open PySem PySem.Spec PyProof.Rows L2
open En
def f_law_in (one : (List Nat)) (two : (List Nat)) : Bool :=
  (decide ((one.countP fun (thing : Nat) => (!(decide (thing ∈ two)))) = 0))
def nm_f_law_in : List Str := ["one", "two", "thing"]
def ir_f_law_in : IS :=
(.seq (.ret (.cmp .eq (.blt .len (.acons (.comp [2] (.nm 2) (.itSeq (.bor 0)) (.cmp .notin (.bor 2) (.bor 1)) (.var 2)) .anil)) (.cst (.int 0))))
  .skip)
def fs_f_law_in : List (Nat × Str) := []
def cs_f_law_in : List (Str × D) := []
theorem bl_f_law_in {C : PC} {dn : Nat} (one : (List Nat)) (two : (List Nat)) : Bl C ⟨dn, [], fun (_ : Unit) _ => [], fun x => .val (enc x)⟩ ir_f_law_in ⟨[.val (enc one), .val (enc two), .no], dn⟩ (.out (f_law_in one two)) :=
  (bl_ret (x := ((decide ((one.countP fun (thing : Nat) => (!(decide (thing ∈ two)))) = 0)) : Bool)) (ev_cmp (ev_blt (eva_T (g_compF (fun (thing : Nat) => (!(decide (thing ∈ two)))) (fun (thing : Nat) => ⟨[.val (enc one), .val (enc two), .val (enc thing)], dn⟩) rfl (i_T (ev_bor rfl)) (fun thing h1 => tg_nm) (fun _ => rfl) rfl (fun thing h1 => (ev_cmp (ev_bor rfl) (ev_bor rfl) g_ninT)) (fun thing h1 h2 => evk (ev_var rfl) kp_val)) rfl eva_nil) g_lenF0) (ev_cN 0 rfl) g_eq) rfl)
@[irreducible] def sp_f_law_in : Spec := fun ds dr Q _ => ∃ (one : (List Nat)) (two : (List Nat)), ds = [enc one, enc two] ∧ Q (.val (enc (f_law_in one two))) dr
theorem vl_f_law_in (one : (List Nat)) (two : (List Nat)) : VlR sp_f_law_in [enc one, enc two] (.val (enc (f_law_in one two))) := fun dr Q xe q => by unfold sp_f_law_in; exact ⟨one, two, rfl, q⟩
theorem wp_f_law_in (sp : Nat → Spec) (xe : Nat → Nat → Prop) : ∀ ds dr Q, sp_f_law_in ds dr Q (fun _ _ => False) → wpF ⟨sp, xe⟩ nm_f_law_in.length ir_f_law_in ds dr Q := by
  intro ds dr Q h
  unfold sp_f_law_in at h
  obtain ⟨one, two, rfl, hq⟩ := h
  exact wpF_bl (bl_f_law_in (C := ⟨sp, xe⟩) one two) hq
end PL
namespace PL
open PySem PySem.Spec PyProof.Rows L2
open En
def MenJ (i : Nat) (s : List (List Nat)) : Prop := s.Nodup ∧ ∀ r, r ∈ s ↔ SetOf i r
theorem setOf_succ {i : Nat} {r : List Nat} : SetOf (i + 1) r ↔ SetOf i r ∨ ∃ q, SetOf i q ∧ r = q ++ [i] := by
  constructor
  · intro h
    rcases List.eq_nil_or_concat r with rfl | ⟨q, x, e⟩
    · exact .inl .nil
    · rw [List.concat_eq_append] at e
      subst e
      obtain ⟨h1, h2⟩ := h
      obtain ⟨p1, p2, p3⟩ := List.pairwise_append.mp h1
      have hx := h2 x (by simp)
      by_cases hi : x = i
      · subst hi
        exact .inr ⟨q, ⟨p1, fun y hy => p3 y hy x (by simp)⟩, rfl⟩
      · refine .inl ⟨h1, fun y hy => ?_⟩
        rcases List.mem_append.mp hy with hy | hy
        · have := p3 y hy x (by simp); omega
        · rw [List.mem_singleton.mp hy]; omega
  · rintro (h | ⟨q, h, rfl⟩)
    · exact h.mono (Nat.le_succ _)
    · exact h.snoc
theorem menJ_step {i : Nat} {s : List (List Nat)} (h : MenJ i s) : MenJ (i + 1) (s ++ s.map fun row => row ++ [i]) := by
  obtain ⟨h1, h2⟩ := h
  refine ⟨List.nodup_append.mpr ⟨h1, (nodup_map' fun a b e => (List.append_inj_left' e rfl)).mpr h1, fun a ha b hb e => ?_⟩, fun r => ?_⟩
  · obtain ⟨q, hq, rfl⟩ := List.mem_map.mp hb
    subst e
    have := ((h2 _).mp ha).2 i (by simp)
    omega
  · rw [List.mem_append, List.mem_map, setOf_succ, h2]
    constructor
    · rintro (h | ⟨q, hq, rfl⟩)
      · exact .inl h
      · exact .inr ⟨q, (h2 q).mp hq, rfl⟩
    · rintro (h | ⟨q, hq, rfl⟩)
      · exact .inl h
      · exact .inr ⟨q, (h2 q).mpr hq, rfl⟩
theorem menJ_fold : ∀ n : Nat, MenJ n ((List.range n).foldl f_law_menus_s1 [[]])
  | 0 => ⟨by simp, fun r => by
    constructor
    · intro h; rw [List.mem_singleton.mp h]; exact .nil
    · intro h
      cases r with
      | nil => simp
      | cons a r => exact absurd (h.2 a (by simp)) (by omega)⟩
  | n + 1 => by
    rw [List.range_succ, List.foldl_append]
    exact menJ_step (menJ_fold n)
theorem mem_menus {n : Nat} {r : List Nat} : r ∈ f_law_menus n ↔ SetOf n r ∧ r ≠ [] := by
  unfold f_law_menus
  rw [mem_srt, List.mem_filter, (menJ_fold n).2]
  cases r <;> simp
theorem nodup_menus (n : Nat) : (f_law_menus n).Nodup := (srt_perm _).nodup_iff.mpr ((menJ_fold n).1.filter _)
theorem nodup_sets0 (n : Nat) : ([[]] ++ f_law_menus n).Nodup := by
  rw [List.singleton_append, List.nodup_cons]
  exact ⟨fun h => (mem_menus.mp h).2 rfl, nodup_menus n⟩
theorem mem_sets {n : Nat} {r : List Nat} : r ∈ f_law_sets n ↔ SetOf n r := by
  unfold f_law_sets
  rw [mem_srt, List.singleton_append, List.mem_cons, mem_menus]
  constructor
  · rintro (rfl | h)
    · exact .nil
    · exact h.1
  · intro h
    by_cases e : r = []
    · exact .inl e
    · exact .inr ⟨h, e⟩
theorem nodup_sets (n : Nat) : (f_law_sets n).Nodup := (srt_perm _).nodup_iff.mpr (nodup_sets0 n)
theorem subsets_eq (n : Nat) : f_subsets_of (Ls.mk (List.range n)) = f_law_sets n := by
  unfold f_subsets_of f_law_sets
  refine srt_same (menJ_fold n).1 (nodup_sets0 n) fun a => ?_
  have h1 : a ∈ (List.range n).foldl f_subsets_of_s1 [[]] ↔ SetOf n a := (menJ_fold n).2 a
  rw [h1, ← mem_sets (n := n)]
  unfold f_law_sets
  rw [mem_srt]
theorem pre_subsets {n : Nat} (hn : n ≤ 20) : pre_f_subsets_of (Ls.mk (List.range n)) := (menus_fold hn).1
theorem dset_mem {xs : List Nat} {a : Nat} : a ∈ srt ((ptAll (xs.map fun (thing : Nat) => (thing, true))).map (·.1)) ↔ a ∈ xs := by
  rw [mem_srt]
  have := (ptAll_keys (xs.map fun (thing : Nat) => (thing, true)) [] .nil).2 a
  have e : (ptAll (xs.map fun (thing : Nat) => (thing, true))) = (xs.map fun (thing : Nat) => (thing, true)).foldl (fun l p => pt l p.1 p.2) [] := rfl
  rw [e, this]
  simp
theorem dset_asc {xs : List Nat} : (srt ((ptAll (xs.map fun (thing : Nat) => (thing, true))).map (·.1))).Pairwise (· < ·) := by
  have := (ptAll_keys (xs.map fun (thing : Nat) => (thing, true)) [] .nil).1
  exact (srt_lt this).imp fun h => by simpa [Od.lt] using h
theorem asc_eq : ∀ {a b : List Nat}, a.Pairwise (· < ·) → b.Pairwise (· < ·) → (∀ x, x ∈ a ↔ x ∈ b) → a = b := fun {a b} h1 h2 h => by
  have p : a.Perm b := (List.perm_ext_iff_of_nodup (h1.imp fun h => Nat.ne_of_lt h) (h2.imp fun h => Nat.ne_of_lt h)).mpr h
  exact p.eq_of_pairwise (fun x y _ _ h1 h2 => absurd h1 (by omega)) h1 h2
theorem countP_lt {α : Type} {p q : α → Bool} : ∀ {xs : List α}, (∀ x ∈ xs, p x = true → q x = true) → (∃ x ∈ xs, q x = true ∧ p x = false) → xs.countP p < xs.countP q
  | x :: xs, h, ⟨y, hy, h1, h2⟩ => by
    have hx := h x (by simp)
    have hm : xs.countP p ≤ xs.countP q := List.countP_mono_left fun z hz => h z (List.mem_cons_of_mem _ hz)
    rw [List.countP_cons, List.countP_cons]
    rcases List.mem_cons.mp hy with rfl | hy
    · rw [if_pos h1, if_neg (by rw [h2]; exact Bool.false_ne_true)]; omega
    · have := countP_lt (xs := xs) (fun z hz => h z (List.mem_cons_of_mem _ hz)) ⟨y, hy, h1, h2⟩
      split <;> split <;> first | omega | (rename_i a b; exact absurd (hx a) b)
theorem within_iff {a b : List Nat} : f_is_within a b = true ↔ ∀ t ∈ a, t ∈ b := by
  unfold f_is_within
  rw [List.all_eq_true]
  simp
theorem lawin_iff {a b : List Nat} : f_law_in a b = true ↔ ∀ t ∈ a, t ∈ b := by
  unfold f_law_in
  rw [countP0, List.all_eq_true]
  simp
theorem lawin_within (a b : List Nat) : f_law_in a b = f_is_within a b := by
  rw [Bool.eq_iff_iff, lawin_iff, within_iff]
section
variable {α : Type} [En α] [DecidableEq α] [Dt α] [Od α]
theorem fold_in : ∀ (r : List α) (x : α), r.foldl (fun a y => if Od.lt y a = true then y else a) x ∈ x :: r
  | [], x => List.mem_cons_self
  | y :: r, x => by
    rw [List.foldl_cons]
    split
    · exact List.mem_cons_of_mem _ (fold_in r y)
    · rcases List.mem_cons.mp (fold_in r x) with e | e
      · rw [e]; exact List.mem_cons_self
      · exact List.mem_cons_of_mem _ (List.mem_cons_of_mem _ e)
theorem minO_mem [Inhabited α] : ∀ {xs : List α}, xs ≠ [] → minO xs ∈ xs
  | [], h => absurd rfl h
  | x :: r, _ => fold_in r x
theorem lt_tri (a b c : α) (h1 : Od.lt b a = false) (h2 : Od.lt c b = false) : Od.lt c a = false := by
  have L : Lin (Od.lt (α := α)) := Od.lin
  cases e : Od.lt c a with
  | false => rfl
  | true =>
    by_cases hcb : c = b
    · subst hcb; rw [h1] at e; cases e
    · have hbc : Od.lt b c = true := by
        exact (L.tot c b hcb).resolve_left (by rw [h2]; exact Bool.false_ne_true)
      have := L.tr _ _ _ hbc e
      rw [h1] at this; cases this
theorem minO_le [Inhabited α] {xs : List α} {a : α} (h : a ∈ xs) : Od.lt a (minO xs) = false := by
  have L : Lin (Od.lt (α := α)) := Od.lin
  have irr : ∀ x : α, Od.lt x x = false := L.ir
  have key : ∀ (r : List α) (x : α), (∀ y ∈ r, Od.lt y (r.foldl (fun a y => if Od.lt y a = true then y else a) x) = false) ∧ Od.lt x (r.foldl (fun a y => if Od.lt y a = true then y else a) x) = false := by
    intro r
    induction r with
    | nil => exact fun x => ⟨(fun y hy => nomatch hy), irr x⟩
    | cons y r ih =>
      intro x
      rw [List.foldl_cons]
      cases e : Od.lt y x with
      | true =>
        rw [if_pos rfl]
        obtain ⟨i1, i2⟩ := ih y
        refine ⟨fun z hz => ?_, ?_⟩
        · rcases List.mem_cons.mp hz with rfl | hz
          · exact i2
          · exact i1 z hz
        · exact lt_tri _ y _ i2 (by
            cases e2 : Od.lt x y with
            | false => rfl
            | true => have := L.tr _ _ _ e e2; rw [irr] at this; cases this)
      | false =>
        rw [if_neg Bool.false_ne_true]
        obtain ⟨i1, i2⟩ := ih x
        refine ⟨fun z hz => ?_, i2⟩
        rcases List.mem_cons.mp hz with rfl | hz
        · exact lt_tri _ x _ i2 e
        · exact i1 z hz
  cases xs with
  | nil => simp at h
  | cons x r =>
    rcases List.mem_cons.mp h with rfl | h
    · exact (key r a).2
    · exact (key r x).1 a h
end
end PL
namespace PL
open PySem PySem.Spec PyProof.Rows L2
open En
def f_law_closed_s1 (rules : (List ((List Nat) × Nat))) (s2 : (List (List Nat))) (row : (List Nat)) : (List (List Nat)) :=
  (if (decide ((rules.countP fun (p : ((List Nat) × Nat)) => ((f_law_in p.1 row) && (!(decide (p.2 ∈ row))))) = 0)) = true then (s2 ++ [row]) else s2)
def f_law_closed_p2 (rules : (List ((List Nat) × Nat))) (s2 : (List (List Nat))) (row : (List Nat)) : Prop :=
  ((decide ((rules.countP fun (p : ((List Nat) × Nat)) => ((f_law_in p.1 row) && (!(decide (p.2 ∈ row))))) = 0)) = true → ((s2.length < sizeLine)))
def f_law_closed (n2 : Nat) (rules : (List ((List Nat) × Nat))) : (Ls (List Nat)) :=
  (Ls.mk ((f_law_sets n2).foldl (f_law_closed_s1 rules) ([] : List (List Nat))))
def pre_f_law_closed (n2 : Nat) (rules : (List ((List Nat) × Nat))) : Prop :=
  (pre_f_law_sets n2) ∧ (foldP (f_law_closed_p2 rules) (f_law_closed_s1 rules) (f_law_sets n2) ([] : List (List Nat)))
@[irreducible] def sp_f_law_closed : Spec := fun ds dr Q _ => ∃ (n2 : Nat) (rules : (List ((List Nat) × Nat))), ds = [enc n2, enc rules] ∧ pre_f_law_closed n2 rules ∧ Q (.val (enc (f_law_closed n2 rules))) dr
end PL
namespace PL
open PySem PySem.Spec PyProof.Rows L2
open En
def f_breaks_rule (row : (List Nat)) (rule : ((List Nat) × Nat)) : Bool :=
  ((f_is_within rule.1 row) && (!(decide (rule.2 ∈ row))))
def nm_f_breaks_rule : List Str := ["row", "rule"]
def ir_f_breaks_rule : IS :=
(.seq (.ret (.and (.call 30920 (.acons (.idx (.bor 1) (.cst (.int 0))) (.acons (.var 0) .anil))) (.cmp .notin (.idx (.bor 1) (.cst (.int 1))) (.bor 0))))
  .skip)
def fs_f_breaks_rule : List (Nat × Str) := [(30920, "is_within")]
def cs_f_breaks_rule : List (Str × D) := []
theorem bl_f_breaks_rule {C : PC} (h_f_is_within : C.sp 30920 = sp_f_is_within) {dn : Nat} (row : (List Nat)) (rule : ((List Nat) × Nat)) : Bl C ⟨dn, [], fun (_ : Unit) _ => [], fun x => .val (enc x)⟩ ir_f_breaks_rule ⟨[.val (enc row), .val (enc rule)], dn⟩ (.out (f_breaks_rule row rule)) :=
  (bl_ret (x := (((f_is_within rule.1 row) && (!(decide (rule.2 ∈ row)))) : Bool)) (ev_and (ev_call h_f_is_within (eva_F (ev_idx (ev_bor rfl) (ev_cN 0 rfl) g_ixP0) kp_val (eva_F (ev_var rfl) kp_val eva_nil)) (vl_f_is_within rule.1 row)) (fun h1 => (ev_cmp (ev_idx (ev_bor rfl) (ev_cN 1 rfl) g_ixP1) (ev_bor rfl) g_ninT))) rfl)
@[irreducible] def sp_f_breaks_rule : Spec := fun ds dr Q _ => ∃ (row : (List Nat)) (rule : ((List Nat) × Nat)), ds = [enc row, enc rule] ∧ Q (.val (enc (f_breaks_rule row rule))) dr
theorem vl_f_breaks_rule (row : (List Nat)) (rule : ((List Nat) × Nat)) : VlR sp_f_breaks_rule [enc row, enc rule] (.val (enc (f_breaks_rule row rule))) := fun dr Q xe q => by unfold sp_f_breaks_rule; exact ⟨row, rule, rfl, q⟩
theorem wp_f_breaks_rule (sp : Nat → Spec) (xe : Nat → Nat → Prop) (h_f_is_within : sp 30920 = sp_f_is_within) : ∀ ds dr Q, sp_f_breaks_rule ds dr Q (fun _ _ => False) → wpF ⟨sp, xe⟩ nm_f_breaks_rule.length ir_f_breaks_rule ds dr Q := by
  intro ds dr Q h
  unfold sp_f_breaks_rule at h
  obtain ⟨row, rule, rfl, hq⟩ := h
  exact wpF_bl (bl_f_breaks_rule (C := ⟨sp, xe⟩) h_f_is_within row rule) hq
end PL
namespace PL
open PySem PySem.Spec PyProof.Rows L2
open En
def f_closed_sets (things : Nat) (rules : (List ((List Nat) × Nat))) : (List (List Nat)) :=
  ((f_subsets_of (Ls.mk (List.range things))).filter fun (row : (List Nat)) => (!(rules.any fun (rule : ((List Nat) × Nat)) => (f_breaks_rule row rule))))
def pre_f_closed_sets (things : Nat) (rules : (List ((List Nat) × Nat))) : Prop :=
  (things ≤ 16777216) ∧ (pre_f_subsets_of (Ls.mk (List.range things)))
def nm_f_closed_sets : List Str := ["things", "rules", "row", "rule"]
def ir_f_closed_sets : IS :=
(.seq (.ret (.comp [2] (.nm 2) (.itSeq (.call 34100 (.acons (.blt .list (.acons (.blt .range (.acons (.bor 0) .anil)) .anil)) .anil))) (.not (.tst (.blt .any (.acons (.comp [3] (.nm 3) (.itSeq (.bor 1)) (.cst (.bl true)) (.call 25920 (.acons (.var 2) (.acons (.var 3) .anil)))) .anil)))) (.var 2)))
  .skip)
def fs_f_closed_sets : List (Nat × Str) := [(34100, "subsets_of"), (25920, "breaks_rule")]
def cs_f_closed_sets : List (Str × D) := []
theorem bl_f_closed_sets {C : PC} (h_f_subsets_of : C.sp 34100 = sp_f_subsets_of) (h_f_breaks_rule : C.sp 25920 = sp_f_breaks_rule) {dn : Nat} (things : Nat) (rules : (List ((List Nat) × Nat))) (hp : pre_f_closed_sets things rules) : Bl C ⟨dn, [], fun (_ : Unit) _ => [], fun x => .own (x.map enc)⟩ ir_f_closed_sets ⟨[.val (enc things), .val (enc rules), .no, .no], dn⟩ (.out (f_closed_sets things rules)) :=
  (bl_ret (x := ((f_subsets_of (Ls.mk (List.range things))).filter fun (row : (List Nat)) => (!(rules.any fun (rule : ((List Nat) × Nat)) => (f_breaks_rule row rule))))) (g_compF (fun (row : (List Nat)) => (!(rules.any fun (rule : ((List Nat) × Nat)) => (f_breaks_rule row rule)))) (fun (row : (List Nat)) => ⟨[.val (enc things), .val (enc rules), .val (enc row), .no], dn⟩) rfl (i_Lo (ev_call h_f_subsets_of (eva_F (ev_blt (eva_T (ev_rng (ev_bor rfl) hp.1) rfl eva_nil) (g_lstR hp.1)) kp_ls eva_nil) (vl_f_subsets_of (Ls.mk (List.range things)) hp.2))) (fun row h1 => tg_nm) (fun _ => rfl) rfl (fun row h1 => (ev_not (ev_tst (ev_blt (eva_T (g_compM (fun (rule : ((List Nat) × Nat)) => (f_breaks_rule row rule)) (fun (rule : ((List Nat) × Nat)) => ⟨[.val (enc things), .val (enc rules), .val (enc row), .val (enc rule)], dn⟩) rfl (i_T (ev_bor rfl)) (fun rule h2 => tg_nm) (fun _ => rfl) rfl (fun rule h2 => evk (ev_call h_f_breaks_rule (eva_F (ev_var rfl) kp_val (eva_F (ev_var rfl) kp_val eva_nil)) (vl_f_breaks_rule row rule)) kp_val)) rfl eva_nil) g_anyM) g_trB))) (fun row h1 h4 => evk (ev_var rfl) kp_val)) rfl)
@[irreducible] def sp_f_closed_sets : Spec := fun ds dr Q _ => ∃ (things : Nat) (rules : (List ((List Nat) × Nat))), ds = [enc things, enc rules] ∧ pre_f_closed_sets things rules ∧ Q (.own ((f_closed_sets things rules).map enc)) dr
theorem vl_f_closed_sets (things : Nat) (rules : (List ((List Nat) × Nat))) (hp : pre_f_closed_sets things rules) : VlR sp_f_closed_sets [enc things, enc rules] (.own ((f_closed_sets things rules).map enc)) := fun dr Q xe q => by unfold sp_f_closed_sets; exact ⟨things, rules, rfl, hp, q⟩
theorem wp_f_closed_sets (sp : Nat → Spec) (xe : Nat → Nat → Prop) (h_f_subsets_of : sp 34100 = sp_f_subsets_of) (h_f_breaks_rule : sp 25920 = sp_f_breaks_rule) : ∀ ds dr Q, sp_f_closed_sets ds dr Q (fun _ _ => False) → wpF ⟨sp, xe⟩ nm_f_closed_sets.length ir_f_closed_sets ds dr Q := by
  intro ds dr Q h
  unfold sp_f_closed_sets at h
  obtain ⟨things, rules, rfl, hp, hq⟩ := h
  exact wpF_bl (bl_f_closed_sets (C := ⟨sp, xe⟩) h_f_subsets_of h_f_breaks_rule things rules hp) hq
end PL
namespace PL
open PySem PySem.Spec PyProof.Rows L2
open En
def f_filled_1 (s2 : ((List Nat) × Bool)) (more : (List Nat)) : (Tn2 ((List Nat) × Bool) (List Nat)) :=
  (.go ((srt ((ptAll ((s2.1 ++ more).map fun (thing : Nat) => (thing, true))).map (·.1))), (decide (more.length = 0))))
def pre_f_filled_1 (s2 : ((List Nat) × Bool)) (more : (List Nat)) : Prop :=
  (s2.1.length + more.length ≤ sizeLine)
def ir_f_filled_1 : IS :=
(.seq (.asg (.nm 1) (.blt .tuple (.acons (.blt .sorted (.acons (.dcomp [5] (.nm 5) (.itSeq (.bin .add (.bor 1) (.blt .tuple (.acons (.bor 3) .anil)))) (.cst (.bl true)) (.var 5) (.cst (.bl true))) .anil)) .anil)))
  (.seq (.asg (.nm 2) (.cmp .eq (.blt .len (.acons (.bor 3) .anil)) (.cst (.int 0))))
  .skip))
theorem bl_f_filled_1 {C : PC} {dn : Nat} (rules : (List ((List Nat) × Nat))) (s2 : ((List Nat) × Bool)) (more : (List Nat)) (hp : pre_f_filled_1 s2 more) : Bl C (⟨dn, [], fun s2 z2 => [.val (enc rules), .val (enc s2.1), .val (enc s2.2), z2 3, .no, .no], fun x => .val (enc x)⟩ : Bk ((List Nat) × Bool) (List Nat)) ir_f_filled_1 ⟨[.val (enc rules), .val (enc s2.1), .val (enc s2.2), .own (more.map enc), .no, .no], dn⟩ (f_filled_1 s2 more) :=
  (bl_asg (ev_blt (eva_T (ev_blt (eva_T (g_dcompM (fun (thing : Nat) => thing) (fun (thing : Nat) => true) (fun (thing : Nat) => ⟨[.val (enc rules), .val (enc s2.1), .val (enc s2.2), .own (more.map enc), .no, .val (enc thing)], dn⟩) rfl (i_T (ev_bin (ev_bor rfl) (ev_blt (eva_T (ev_borO rfl) rfl eva_nil) g_tupL) (g_addT hp))) (fun thing h6 => tg_nm) (fun _ => rfl) rfl (fun thing h6 => evk (ev_var rfl) kp_val) (fun thing h6 => evk (ev_cB true) kp_val)) rfl eva_nil) g_srtD) rfl eva_nil) g_tupL) sl_val (bl_asg (ev_cmp (ev_blt (eva_T (ev_borO rfl) rfl eva_nil) g_lenL) (ev_cN 0 rfl) g_eq) sl_val (bl_go (s := ((srt ((ptAll ((s2.1 ++ more).map fun (thing : Nat) => (thing, true))).map (·.1))), (decide (more.length = 0)))) (zl [.no, .no, .no, .own (more.map enc)]) rfl (by exact trivial))))
def f_filled_c2  (s2 : ((List Nat) × Bool)) : Bool :=
  (!s2.2)
def f_filled_s3 (rules : (List ((List Nat) × Nat))) (s2 : ((List Nat) × Bool)) : Tn2 ((List Nat) × Bool) (List Nat) :=
  (f_filled_1 s2 ((rules.filter fun (rule : ((List Nat) × Nat)) => (f_breaks_rule s2.1 rule)).map fun (rule : ((List Nat) × Nat)) => rule.2))
def f_filled_p4 (rules : (List ((List Nat) × Nat))) (s2 : ((List Nat) × Bool)) : Prop :=
  (pre_f_filled_1 s2 ((rules.filter fun (rule : ((List Nat) × Nat)) => (f_breaks_rule s2.1 rule)).map fun (rule : ((List Nat) × Nat)) => rule.2))
def f_filled (rules : (List ((List Nat) × Nat))) (row : (List Nat)) : (List Nat) :=
  ((whlT f_filled_c2 (f_filled_s3 rules) (rules.length + 1) (row, false)).fin id (fun s2 => s2.1))
def pre_f_filled (rules : (List ((List Nat) × Nat))) (row : (List Nat)) : Prop :=
  (whlP (fun _ => True) (f_filled_p4 rules) f_filled_c2 (f_filled_s3 rules) (rules.length + 1) (row, false))
def nm_f_filled : List Str := ["rules", "row", "is_quiet", "more", "rule", "thing"]
def ir_f_filled : IS :=
(.seq (.asg (.nm 2) (.cst (.bl false)))
  (.seq (.whl (.not (.tst (.bor 2)))
 (.seq (.asg (.nm 3) (.comp [4] (.nm 4) (.itSeq (.bor 0)) (.tst (.call 25920 (.acons (.var 1) (.acons (.var 4) .anil)))) (.idx (.bor 4) (.cst (.int 1)))))
  (.seq (.asg (.nm 1) (.blt .tuple (.acons (.blt .sorted (.acons (.dcomp [5] (.nm 5) (.itSeq (.bin .add (.bor 1) (.blt .tuple (.acons (.bor 3) .anil)))) (.cst (.bl true)) (.var 5) (.cst (.bl true))) .anil)) .anil)))
  (.seq (.asg (.nm 2) (.cmp .eq (.blt .len (.acons (.bor 3) .anil)) (.cst (.int 0))))
  .skip))))
  (.seq (.ret (.var 1))
  .skip)))
def fs_f_filled : List (Nat × Str) := [(25920, "breaks_rule")]
def cs_f_filled : List (Str × D) := []
theorem bl_f_filled {C : PC} (h_f_breaks_rule : C.sp 25920 = sp_f_breaks_rule) {dn : Nat} (rules : (List ((List Nat) × Nat))) (row : (List Nat)) (hp : pre_f_filled rules row) : Bl C ⟨dn, [], fun (_ : Unit) _ => [], fun x => .val (enc x)⟩ ir_f_filled ⟨[.val (enc rules), .val (enc row), .no, .no, .no, .no], dn⟩ (.out (f_filled rules row)) :=
  (bl_asg (ev_cB false) sl_val (bl_whl Tn2.out id (⟨dn, [], fun s2 z2 => [.val (enc rules), .val (enc s2.1), .val (enc s2.2), z2 3, .no, .no], fun x => .val (enc x)⟩ : Bk ((List Nat) × Bool) (List Nat)) f_filled_c2 (f_filled_s3 rules) (fun _ => True) (f_filled_p4 rules) (rules.length + 1) (s0 := (row, false)) (fun s2 => s2.1) (fun _ => rfl) rfl rfl (zl [.no, .no, .no, .no]) rfl (by exact trivial) hp (fun s2 z2 h2 h3 => ⟨z2, (ev_not (ev_tst (ev_bor rfl) g_trB)), h3⟩) (fun s2 z2 h1 h2 h3 => (bl_asg (g_comp (fun (rule : ((List Nat) × Nat)) => (f_breaks_rule s2.1 rule)) (fun (rule : ((List Nat) × Nat)) => rule.2) (fun (rule : ((List Nat) × Nat)) => ⟨[.val (enc rules), .val (enc s2.1), .val (enc s2.2), z2 3, .val (enc rule), .no], dn⟩) rfl (i_T (ev_bor rfl)) (fun rule h4 => tg_nm) (fun _ => rfl) rfl (fun rule h4 => (ev_tst (ev_call h_f_breaks_rule (eva_F (ev_var rfl) kp_val (eva_F (ev_var rfl) kp_val eva_nil)) (vl_f_breaks_rule s2.1 rule)) g_trB)) (fun rule h4 h5 => evk (ev_idx (ev_bor rfl) (ev_cN 1 rfl) g_ixP1) kp_val)) sl_own (by exact bl_f_filled_1 rules s2 ((rules.filter fun (rule : ((List Nat) × Nat)) => (f_breaks_rule s2.1 rule)).map fun (rule : ((List Nat) × Nat)) => rule.2) h2))) (fun s2 h7 z2 h3 => (bl_ret (x := s2.1) (ev_var rfl) rfl))))
@[irreducible] def sp_f_filled : Spec := fun ds dr Q _ => ∃ (rules : (List ((List Nat) × Nat))) (row : (List Nat)), ds = [enc rules, enc row] ∧ pre_f_filled rules row ∧ Q (.val (enc (f_filled rules row))) dr
theorem vl_f_filled (rules : (List ((List Nat) × Nat))) (row : (List Nat)) (hp : pre_f_filled rules row) : VlR sp_f_filled [enc rules, enc row] (.val (enc (f_filled rules row))) := fun dr Q xe q => by unfold sp_f_filled; exact ⟨rules, row, rfl, hp, q⟩
theorem wp_f_filled (sp : Nat → Spec) (xe : Nat → Nat → Prop) (h_f_breaks_rule : sp 25920 = sp_f_breaks_rule) : ∀ ds dr Q, sp_f_filled ds dr Q (fun _ _ => False) → wpF ⟨sp, xe⟩ nm_f_filled.length ir_f_filled ds dr Q := by
  intro ds dr Q h
  unfold sp_f_filled at h
  obtain ⟨rules, row, rfl, hp, hq⟩ := h
  exact wpF_bl (bl_f_filled (C := ⟨sp, xe⟩) h_f_breaks_rule rules row hp) hq
end PL
namespace PL
open PySem PySem.Spec PyProof.Rows L2
open En
def f_filled_2_1 (s2 : ((List Nat) × Bool)) (more : (List Nat)) : (Tn2 ((List Nat) × Bool) (List Nat)) :=
  (.go ((srt ((ptAll ((s2.1 ++ more).map fun (thing : Nat) => (thing, true))).map (·.1))), (decide (more.length = 0))))
def pre_f_filled_2_1 (s2 : ((List Nat) × Bool)) (more : (List Nat)) : Prop :=
  (s2.1.length + more.length ≤ sizeLine)
def ir_f_filled_2_1 : IS :=
(.seq (.asg (.nm 1) (.blt .tuple (.acons (.blt .sorted (.acons (.dcomp [5] (.nm 5) (.itSeq (.bin .add (.bor 1) (.blt .tuple (.acons (.bor 3) .anil)))) (.cst (.bl true)) (.var 5) (.cst (.bl true))) .anil)) .anil)))
  (.seq (.asg (.nm 2) (.cmp .eq (.blt .len (.acons (.bor 3) .anil)) (.cst (.int 0))))
  .skip))
theorem bl_f_filled_2_1 {C : PC} {dn : Nat} (rules : (Ls ((List Nat) × Nat))) (s2 : ((List Nat) × Bool)) (more : (List Nat)) (hp : pre_f_filled_2_1 s2 more) : Bl C (⟨dn, [], fun s2 z2 => [.val (.lst (rules.l.map enc)), .val (enc s2.1), .val (enc s2.2), z2 3, .no, .no], fun x => .val (enc x)⟩ : Bk ((List Nat) × Bool) (List Nat)) ir_f_filled_2_1 ⟨[.val (.lst (rules.l.map enc)), .val (enc s2.1), .val (enc s2.2), .own (more.map enc), .no, .no], dn⟩ (f_filled_2_1 s2 more) :=
  (bl_asg (ev_blt (eva_T (ev_blt (eva_T (g_dcompM (fun (thing : Nat) => thing) (fun (thing : Nat) => true) (fun (thing : Nat) => ⟨[.val (.lst (rules.l.map enc)), .val (enc s2.1), .val (enc s2.2), .own (more.map enc), .no, .val (enc thing)], dn⟩) rfl (i_T (ev_bin (ev_bor rfl) (ev_blt (eva_T (ev_borO rfl) rfl eva_nil) g_tupL) (g_addT hp))) (fun thing h6 => tg_nm) (fun _ => rfl) rfl (fun thing h6 => evk (ev_var rfl) kp_val) (fun thing h6 => evk (ev_cB true) kp_val)) rfl eva_nil) g_srtD) rfl eva_nil) g_tupL) sl_val (bl_asg (ev_cmp (ev_blt (eva_T (ev_borO rfl) rfl eva_nil) g_lenL) (ev_cN 0 rfl) g_eq) sl_val (bl_go (s := ((srt ((ptAll ((s2.1 ++ more).map fun (thing : Nat) => (thing, true))).map (·.1))), (decide (more.length = 0)))) (zl [.no, .no, .no, .own (more.map enc)]) rfl (by exact trivial))))
def f_filled_2_c2  (s2 : ((List Nat) × Bool)) : Bool :=
  (!s2.2)
def f_filled_2_s3 (rules : (Ls ((List Nat) × Nat))) (s2 : ((List Nat) × Bool)) : Tn2 ((List Nat) × Bool) (List Nat) :=
  (f_filled_2_1 s2 ((rules.l.filter fun (rule : ((List Nat) × Nat)) => (f_breaks_rule s2.1 rule)).map fun (rule : ((List Nat) × Nat)) => rule.2))
def f_filled_2_p4 (rules : (Ls ((List Nat) × Nat))) (s2 : ((List Nat) × Bool)) : Prop :=
  (pre_f_filled_2_1 s2 ((rules.l.filter fun (rule : ((List Nat) × Nat)) => (f_breaks_rule s2.1 rule)).map fun (rule : ((List Nat) × Nat)) => rule.2))
def f_filled_2 (rules : (Ls ((List Nat) × Nat))) (row : (List Nat)) : (List Nat) :=
  ((whlT f_filled_2_c2 (f_filled_2_s3 rules) (rules.l.length + 1) (row, false)).fin id (fun s2 => s2.1))
def pre_f_filled_2 (rules : (Ls ((List Nat) × Nat))) (row : (List Nat)) : Prop :=
  (whlP (fun _ => True) (f_filled_2_p4 rules) f_filled_2_c2 (f_filled_2_s3 rules) (rules.l.length + 1) (row, false))
def nm_f_filled_2 : List Str := ["rules", "row", "is_quiet", "more", "rule", "thing"]
def ir_f_filled_2 : IS :=
(.seq (.asg (.nm 2) (.cst (.bl false)))
  (.seq (.whl (.not (.tst (.bor 2)))
 (.seq (.asg (.nm 3) (.comp [4] (.nm 4) (.itSeq (.bor 0)) (.tst (.call 25920 (.acons (.var 1) (.acons (.var 4) .anil)))) (.idx (.bor 4) (.cst (.int 1)))))
  (.seq (.asg (.nm 1) (.blt .tuple (.acons (.blt .sorted (.acons (.dcomp [5] (.nm 5) (.itSeq (.bin .add (.bor 1) (.blt .tuple (.acons (.bor 3) .anil)))) (.cst (.bl true)) (.var 5) (.cst (.bl true))) .anil)) .anil)))
  (.seq (.asg (.nm 2) (.cmp .eq (.blt .len (.acons (.bor 3) .anil)) (.cst (.int 0))))
  .skip))))
  (.seq (.ret (.var 1))
  .skip)))
def fs_f_filled_2 : List (Nat × Str) := [(25920, "breaks_rule")]
def cs_f_filled_2 : List (Str × D) := []
theorem bl_f_filled_2 {C : PC} (h_f_breaks_rule : C.sp 25920 = sp_f_breaks_rule) {dn : Nat} (rules : (Ls ((List Nat) × Nat))) (row : (List Nat)) (hp : pre_f_filled_2 rules row) : Bl C ⟨dn, [], fun (_ : Unit) _ => [], fun x => .val (enc x)⟩ ir_f_filled_2 ⟨[.val (.lst (rules.l.map enc)), .val (enc row), .no, .no, .no, .no], dn⟩ (.out (f_filled_2 rules row)) :=
  (bl_asg (ev_cB false) sl_val (bl_whl Tn2.out id (⟨dn, [], fun s2 z2 => [.val (.lst (rules.l.map enc)), .val (enc s2.1), .val (enc s2.2), z2 3, .no, .no], fun x => .val (enc x)⟩ : Bk ((List Nat) × Bool) (List Nat)) f_filled_2_c2 (f_filled_2_s3 rules) (fun _ => True) (f_filled_2_p4 rules) (rules.l.length + 1) (s0 := (row, false)) (fun s2 => s2.1) (fun _ => rfl) rfl rfl (zl [.no, .no, .no, .no]) rfl (by exact trivial) hp (fun s2 z2 h2 h3 => ⟨z2, (ev_not (ev_tst (ev_bor rfl) g_trB)), h3⟩) (fun s2 z2 h1 h2 h3 => (bl_asg (g_comp (fun (rule : ((List Nat) × Nat)) => (f_breaks_rule s2.1 rule)) (fun (rule : ((List Nat) × Nat)) => rule.2) (fun (rule : ((List Nat) × Nat)) => ⟨[.val (.lst (rules.l.map enc)), .val (enc s2.1), .val (enc s2.2), z2 3, .val (enc rule), .no], dn⟩) rfl (i_Lv (ev_bor rfl)) (fun rule h4 => tg_nm) (fun _ => rfl) rfl (fun rule h4 => (ev_tst (ev_call h_f_breaks_rule (eva_F (ev_var rfl) kp_val (eva_F (ev_var rfl) kp_val eva_nil)) (vl_f_breaks_rule s2.1 rule)) g_trB)) (fun rule h4 h5 => evk (ev_idx (ev_bor rfl) (ev_cN 1 rfl) g_ixP1) kp_val)) sl_own (by exact bl_f_filled_2_1 rules s2 ((rules.l.filter fun (rule : ((List Nat) × Nat)) => (f_breaks_rule s2.1 rule)).map fun (rule : ((List Nat) × Nat)) => rule.2) h2))) (fun s2 h7 z2 h3 => (bl_ret (x := s2.1) (ev_var rfl) rfl))))
@[irreducible] def sp_f_filled_2 : Spec := fun ds dr Q _ => ∃ (rules : (Ls ((List Nat) × Nat))) (row : (List Nat)), ds = [enc rules, enc row] ∧ pre_f_filled_2 rules row ∧ Q (.val (enc (f_filled_2 rules row))) dr
theorem vl_f_filled_2 (rules : (Ls ((List Nat) × Nat))) (row : (List Nat)) (hp : pre_f_filled_2 rules row) : VlR sp_f_filled_2 [enc rules, enc row] (.val (enc (f_filled_2 rules row))) := fun dr Q xe q => by unfold sp_f_filled_2; exact ⟨rules, row, rfl, hp, q⟩
theorem wp_f_filled_2 (sp : Nat → Spec) (xe : Nat → Nat → Prop) (h_f_breaks_rule : sp 25920 = sp_f_breaks_rule) : ∀ ds dr Q, sp_f_filled_2 ds dr Q (fun _ _ => False) → wpF ⟨sp, xe⟩ nm_f_filled_2.length ir_f_filled_2 ds dr Q := by
  intro ds dr Q h
  unfold sp_f_filled_2 at h
  obtain ⟨rules, row, rfl, hp, hq⟩ := h
  exact wpF_bl (bl_f_filled_2 (C := ⟨sp, xe⟩) h_f_breaks_rule rules row hp) hq
end PL
namespace PL
open PySem PySem.Spec PyProof.Rows L2
open En
def f_comes_of (rules : (List ((List Nat) × Nat))) (rule : ((List Nat) × Nat)) : Bool :=
  (decide (rule.2 ∈ (f_filled rules rule.1)))
def pre_f_comes_of (rules : (List ((List Nat) × Nat))) (rule : ((List Nat) × Nat)) : Prop :=
  (pre_f_filled rules rule.1)
def nm_f_comes_of : List Str := ["rules", "rule"]
def ir_f_comes_of : IS :=
(.seq (.ret (.cmp .isin (.idx (.bor 1) (.cst (.int 1))) (.call 28000 (.acons (.var 0) (.acons (.idx (.bor 1) (.cst (.int 0))) .anil)))))
  .skip)
def fs_f_comes_of : List (Nat × Str) := [(28000, "filled")]
def cs_f_comes_of : List (Str × D) := []
theorem bl_f_comes_of {C : PC} (h_f_filled : C.sp 28000 = sp_f_filled) {dn : Nat} (rules : (List ((List Nat) × Nat))) (rule : ((List Nat) × Nat)) (hp : pre_f_comes_of rules rule) : Bl C ⟨dn, [], fun (_ : Unit) _ => [], fun x => .val (enc x)⟩ ir_f_comes_of ⟨[.val (enc rules), .val (enc rule)], dn⟩ (.out (f_comes_of rules rule)) :=
  (bl_ret (x := ((decide (rule.2 ∈ (f_filled rules rule.1))) : Bool)) (ev_cmp (ev_idx (ev_bor rfl) (ev_cN 1 rfl) g_ixP1) (ev_call h_f_filled (eva_F (ev_var rfl) kp_val (eva_F (ev_idx (ev_bor rfl) (ev_cN 0 rfl) g_ixP0) kp_val eva_nil)) (vl_f_filled rules rule.1 hp)) g_inT) rfl)
@[irreducible] def sp_f_comes_of : Spec := fun ds dr Q _ => ∃ (rules : (List ((List Nat) × Nat))) (rule : ((List Nat) × Nat)), ds = [enc rules, enc rule] ∧ pre_f_comes_of rules rule ∧ Q (.val (enc (f_comes_of rules rule))) dr
theorem vl_f_comes_of (rules : (List ((List Nat) × Nat))) (rule : ((List Nat) × Nat)) (hp : pre_f_comes_of rules rule) : VlR sp_f_comes_of [enc rules, enc rule] (.val (enc (f_comes_of rules rule))) := fun dr Q xe q => by unfold sp_f_comes_of; exact ⟨rules, rule, rfl, hp, q⟩
theorem wp_f_comes_of (sp : Nat → Spec) (xe : Nat → Nat → Prop) (h_f_filled : sp 28000 = sp_f_filled) : ∀ ds dr Q, sp_f_comes_of ds dr Q (fun _ _ => False) → wpF ⟨sp, xe⟩ nm_f_comes_of.length ir_f_comes_of ds dr Q := by
  intro ds dr Q h
  unfold sp_f_comes_of at h
  obtain ⟨rules, rule, rfl, hp, hq⟩ := h
  exact wpF_bl (bl_f_comes_of (C := ⟨sp, xe⟩) h_f_filled rules rule hp) hq
end PL
namespace PL
open PySem PySem.Spec PyProof.Rows L2
open En
def f_comes_of_2 (rules : (Ls ((List Nat) × Nat))) (rule : ((List Nat) × Nat)) : Bool :=
  (decide (rule.2 ∈ (f_filled_2 (Ls.mk rules.l) rule.1)))
def pre_f_comes_of_2 (rules : (Ls ((List Nat) × Nat))) (rule : ((List Nat) × Nat)) : Prop :=
  (pre_f_filled_2 (Ls.mk rules.l) rule.1)
def nm_f_comes_of_2 : List Str := ["rules", "rule"]
def ir_f_comes_of_2 : IS :=
(.seq (.ret (.cmp .isin (.idx (.bor 1) (.cst (.int 1))) (.call 28001 (.acons (.var 0) (.acons (.idx (.bor 1) (.cst (.int 0))) .anil)))))
  .skip)
def fs_f_comes_of_2 : List (Nat × Str) := [(28001, "filled")]
def cs_f_comes_of_2 : List (Str × D) := []
theorem bl_f_comes_of_2 {C : PC} (h_f_filled_2 : C.sp 28001 = sp_f_filled_2) {dn : Nat} (rules : (Ls ((List Nat) × Nat))) (rule : ((List Nat) × Nat)) (hp : pre_f_comes_of_2 rules rule) : Bl C ⟨dn, [], fun (_ : Unit) _ => [], fun x => .val (enc x)⟩ ir_f_comes_of_2 ⟨[.val (.lst (rules.l.map enc)), .val (enc rule)], dn⟩ (.out (f_comes_of_2 rules rule)) :=
  (bl_ret (x := ((decide (rule.2 ∈ (f_filled_2 (Ls.mk rules.l) rule.1))) : Bool)) (ev_cmp (ev_idx (ev_bor rfl) (ev_cN 1 rfl) g_ixP1) (ev_call h_f_filled_2 (eva_F (ev_var rfl) kp_lsv (eva_F (ev_idx (ev_bor rfl) (ev_cN 0 rfl) g_ixP0) kp_val eva_nil)) (vl_f_filled_2 (Ls.mk rules.l) rule.1 hp)) g_inT) rfl)
@[irreducible] def sp_f_comes_of_2 : Spec := fun ds dr Q _ => ∃ (rules : (Ls ((List Nat) × Nat))) (rule : ((List Nat) × Nat)), ds = [enc rules, enc rule] ∧ pre_f_comes_of_2 rules rule ∧ Q (.val (enc (f_comes_of_2 rules rule))) dr
theorem vl_f_comes_of_2 (rules : (Ls ((List Nat) × Nat))) (rule : ((List Nat) × Nat)) (hp : pre_f_comes_of_2 rules rule) : VlR sp_f_comes_of_2 [enc rules, enc rule] (.val (enc (f_comes_of_2 rules rule))) := fun dr Q xe q => by unfold sp_f_comes_of_2; exact ⟨rules, rule, rfl, hp, q⟩
theorem wp_f_comes_of_2 (sp : Nat → Spec) (xe : Nat → Nat → Prop) (h_f_filled_2 : sp 28001 = sp_f_filled_2) : ∀ ds dr Q, sp_f_comes_of_2 ds dr Q (fun _ _ => False) → wpF ⟨sp, xe⟩ nm_f_comes_of_2.length ir_f_comes_of_2 ds dr Q := by
  intro ds dr Q h
  unfold sp_f_comes_of_2 at h
  obtain ⟨rules, rule, rfl, hp, hq⟩ := h
  exact wpF_bl (bl_f_comes_of_2 (C := ⟨sp, xe⟩) h_f_filled_2 rules rule hp) hq
end PL
namespace PL
open PySem PySem.Spec PyProof.Rows L2
open En
def f_ways_to_1 (rules : (List ((List Nat) × Nat))) (s2 : ((List Nat) × (List Nat))) (places : (List Nat)) : (Tn2 ((List Nat) × (List Nat)) (Option (List Nat))) :=
  (if (decide (places.length = 0)) = true then (.out none) else (.go ((srt (s2.1 ++ [(rules.getD (places.getD 0 default) default).2])), (s2.2 ++ [(places.getD 0 default)]))))
def pre_f_ways_to_1 (rules : (List ((List Nat) × Nat))) (s2 : ((List Nat) × (List Nat))) (places : (List Nat)) : Prop :=
  ((decide (places.length = 0)) = false → ((0 < places.length) ∧ (s2.2.length < sizeLine) ∧ ((places.getD 0 default) < rules.length) ∧ (s2.1.length + ([(rules.getD (places.getD 0 default) default).2] : (List Nat)).length ≤ sizeLine)))
def f_ways_to_c2 (rule : ((List Nat) × Nat)) (s2 : ((List Nat) × (List Nat))) : Bool :=
  (!(decide (rule.2 ∈ s2.1)))
def f_ways_to_s3 (rules : (List ((List Nat) × Nat))) (s2 : ((List Nat) × (List Nat))) : Tn2 ((List Nat) × (List Nat)) (Option (List Nat)) :=
  (f_ways_to_1 rules s2 (((rules.mapIdx fun k x => (k, x)).filter fun (p : (Nat × ((List Nat) × Nat))) => (f_breaks_rule s2.1 p.2)).map fun (p : (Nat × ((List Nat) × Nat))) => p.1))
def f_ways_to_p4 (rules : (List ((List Nat) × Nat))) (s2 : ((List Nat) × (List Nat))) : Prop :=
  (pre_f_ways_to_1 rules s2 (((rules.mapIdx fun k x => (k, x)).filter fun (p : (Nat × ((List Nat) × Nat))) => (f_breaks_rule s2.1 p.2)).map fun (p : (Nat × ((List Nat) × Nat))) => p.1))
def f_ways_to (rules : (List ((List Nat) × Nat))) (rule : ((List Nat) × Nat)) : (Option (List Nat)) :=
  ((whlT (f_ways_to_c2 rule) (f_ways_to_s3 rules) (rules.length + 1) (rule.1, ([] : List Nat))).fin id (fun s2 => (some s2.2)))
def pre_f_ways_to (rules : (List ((List Nat) × Nat))) (rule : ((List Nat) × Nat)) : Prop :=
  (whlP (fun _ => True) (f_ways_to_p4 rules) (f_ways_to_c2 rule) (f_ways_to_s3 rules) (rules.length + 1) (rule.1, ([] : List Nat)))
@[irreducible] def sp_f_ways_to : Spec := fun ds dr Q _ => ∃ (rules : (List ((List Nat) × Nat))) (rule : ((List Nat) × Nat)), ds = [enc rules, enc rule] ∧ pre_f_ways_to rules rule ∧ Q (.val (enc (f_ways_to rules rule))) dr
end PL
namespace PL
open PySem PySem.Spec PyProof.Rows L2
open En
def f_law_kind_2 (x : Nat) : Nat :=
  (if false = true then 1 else (if true = true then 2 else (if false = true then 3 else (if false = true then 4 else (if false = true then 5 else (if false = true then 6 else 0))))))
@[irreducible] def sp_f_law_kind_2 : Spec := fun ds dr Q _ => ∃ (x : Nat), ds = [enc x] ∧ Q (.val (enc (f_law_kind_2 x))) dr
end PL
namespace PL
open PySem PySem.Spec PyProof.Rows L2
open En
def f_law_int_2 (x : Nat) (low : Int) (high : Int) : Bool :=
  ((decide ((f_law_kind_2 x) = 2)) && ((decide (low ≤ ((x : Nat) : Int))) && (decide (((x : Nat) : Int) ≤ high))))
@[irreducible] def sp_f_law_int_2 : Spec := fun ds dr Q _ => ∃ (x : Nat) (low : Int) (high : Int), ds = [enc x, enc low, enc high] ∧ Q (.val (enc (f_law_int_2 x low high))) dr
end PL
namespace PL
open PySem PySem.Spec PyProof.Rows L2
open En
def f_law_shows_s1 (rules : (List ((List Nat) × Nat))) (s2 : (List Nat)) (place : Nat) : Tn2 (List Nat) Bool :=
  (if ((!(f_law_int_2 place ((0 : Int) : Int) ((((rules.length : Nat) : Int) - (1 : Int)) : Int))) || (!(f_law_in ((rules.getD place default).1 : (List Nat)) s2))) = true then (.out false) else (if (!(decide ((rules.getD place default).2 ∈ s2))) = true then (.go (s2 ++ [(rules.getD place default).2])) else (.go s2)))
def f_law_shows_p2 (rules : (List ((List Nat) × Nat))) (s2 : (List Nat)) (place : Nat) : Prop :=
  ((!(f_law_int_2 place ((0 : Int) : Int) ((((rules.length : Nat) : Int) - (1 : Int)) : Int))) = false → ((place < rules.length))) ∧ (((!(f_law_int_2 place ((0 : Int) : Int) ((((rules.length : Nat) : Int) - (1 : Int)) : Int))) || (!(f_law_in ((rules.getD place default).1 : (List Nat)) s2))) = false → ((place < rules.length) ∧ ((!(decide ((rules.getD place default).2 ∈ s2))) = true → ((place < rules.length) ∧ (s2.length + ([(rules.getD place default).2] : (List Nat)).length ≤ sizeLine)))))
def f_law_shows (rules : (List ((List Nat) × Nat))) (rule : ((List Nat) × Nat)) (places : (Option (List Nat))) : Bool :=
  ((runT2 (f_law_shows_s1 rules) ((places).getD default) rule.1).fin id (fun s2 => (decide (rule.2 ∈ s2))))
def pre_f_law_shows (rules : (List ((List Nat) × Nat))) (rule : ((List Nat) × Nat)) (places : (Option (List Nat))) : Prop :=
  ((places).isSome = true) ∧ (runP (f_law_shows_p2 rules) (f_law_shows_s1 rules) ((places).getD default) rule.1)
@[irreducible] def sp_f_law_shows : Spec := fun ds dr Q _ => ∃ (rules : (List ((List Nat) × Nat))) (rule : ((List Nat) × Nat)) (places : (Option (List Nat))), ds = [enc rules, enc rule, enc places] ∧ pre_f_law_shows rules rule places ∧ Q (.val (enc (f_law_shows rules rule places))) dr
end PL
namespace PL
open PySem PySem.Spec PyProof.Rows L2
open En
def f_law_kind_3 (x : Int) : Nat :=
  (if false = true then 1 else (if true = true then 2 else (if false = true then 3 else (if false = true then 4 else (if false = true then 5 else (if false = true then 6 else 0))))))
@[irreducible] def sp_f_law_kind_3 : Spec := fun ds dr Q _ => ∃ (x : Int), ds = [enc x] ∧ Q (.val (enc (f_law_kind_3 x))) dr
end PL
namespace PL
open PySem PySem.Spec PyProof.Rows L2
open En
def f_law_int_3 (x : Int) (low : Int) (high : Int) : Bool :=
  ((decide ((f_law_kind_3 x) = 2)) && ((decide (low ≤ x)) && (decide (x ≤ high))))
@[irreducible] def sp_f_law_int_3 : Spec := fun ds dr Q _ => ∃ (x : Int) (low : Int) (high : Int), ds = [enc x, enc low, enc high] ∧ Q (.val (enc (f_law_int_3 x low high))) dr
end PL
namespace PL
open PySem PySem.Spec PyProof.Rows L2
open En
def f_law_shows_2_s1 (rules : (List ((List Nat) × Nat))) (s2 : (List Nat)) (place : Int) : Tn2 (List Nat) Bool :=
  (if ((!(f_law_int_3 place ((0 : Int) : Int) ((((rules.length : Nat) : Int) - (1 : Int)) : Int))) || (!(f_law_in ((gz rules place).1 : (List Nat)) s2))) = true then (.out false) else (if (!(decide ((gz rules place).2 ∈ s2))) = true then (.go (s2 ++ [(gz rules place).2])) else (.go s2)))
def f_law_shows_2_p2 (rules : (List ((List Nat) × Nat))) (s2 : (List Nat)) (place : Int) : Prop :=
  ((!(f_law_int_3 place ((0 : Int) : Int) ((((rules.length : Nat) : Int) - (1 : Int)) : Int))) = false → ((-((rules.length : Nat) : Int) ≤ place ∧ place < (rules.length : Nat)))) ∧ (((!(f_law_int_3 place ((0 : Int) : Int) ((((rules.length : Nat) : Int) - (1 : Int)) : Int))) || (!(f_law_in ((gz rules place).1 : (List Nat)) s2))) = false → ((-((rules.length : Nat) : Int) ≤ place ∧ place < (rules.length : Nat)) ∧ ((!(decide ((gz rules place).2 ∈ s2))) = true → ((-((rules.length : Nat) : Int) ≤ place ∧ place < (rules.length : Nat)) ∧ (s2.length + ([(gz rules place).2] : (List Nat)).length ≤ sizeLine)))))
def f_law_shows_2 (rules : (List ((List Nat) × Nat))) (rule : ((List Nat) × Nat)) (places : (List Int)) : Bool :=
  ((runT2 (f_law_shows_2_s1 rules) places rule.1).fin id (fun s2 => (decide (rule.2 ∈ s2))))
def pre_f_law_shows_2 (rules : (List ((List Nat) × Nat))) (rule : ((List Nat) × Nat)) (places : (List Int)) : Prop :=
  (runP (f_law_shows_2_p2 rules) (f_law_shows_2_s1 rules) places rule.1)
@[irreducible] def sp_f_law_shows_2 : Spec := fun ds dr Q _ => ∃ (rules : (List ((List Nat) × Nat))) (rule : ((List Nat) × Nat)) (places : (List Int)), ds = [enc rules, enc rule, enc places] ∧ pre_f_law_shows_2 rules rule places ∧ Q (.val (enc (f_law_shows_2 rules rule places))) dr
end PL
namespace PL
open PySem PySem.Spec PyProof.Rows L2
open En
def f_is_integer_2 (value : Int) : Bool :=
  (true && (!false))
@[irreducible] def sp_f_is_integer_2 : Spec := fun ds dr Q _ => ∃ (value : Int), ds = [enc value] ∧ Q (.val (enc (f_is_integer_2 value))) dr
end PL
namespace PL
open PySem PySem.Spec PyProof.Rows L2
open En
def f_is_number_2 (value : Int) (low : Int) (high : Int) : Bool :=
  ((f_is_integer_2 value) && ((decide (low ≤ value)) && (decide (value ≤ high))))
@[irreducible] def sp_f_is_number_2 : Spec := fun ds dr Q _ => ∃ (value : Int) (low : Int) (high : Int), ds = [enc value, enc low, enc high] ∧ Q (.val (enc (f_is_number_2 value low high))) dr
end PL
namespace PL
open PySem PySem.Spec PyProof.Rows L2
open En
def f_shows_way_s1 (rules : (List ((List Nat) × Nat))) (s2 : (List Nat)) (place : Int) : Tn2 (List Nat) Bool :=
  (if ((!(f_is_number_2 place ((0 : Int) : Int) ((((rules.length : Nat) : Int) - (1 : Int)) : Int))) || (!(f_is_within ((gz rules place).1 : (List Nat)) s2))) = true then (.out false) else (.go (srt ((ptAll ((s2 ++ [(gz rules place).2]).map fun (thing : Nat) => (thing, true))).map (·.1)))))
def f_shows_way_p2 (rules : (List ((List Nat) × Nat))) (s2 : (List Nat)) (place : Int) : Prop :=
  ((!(f_is_number_2 place ((0 : Int) : Int) ((((rules.length : Nat) : Int) - (1 : Int)) : Int))) = false → ((-((rules.length : Nat) : Int) ≤ place ∧ place < (rules.length : Nat)))) ∧ (((!(f_is_number_2 place ((0 : Int) : Int) ((((rules.length : Nat) : Int) - (1 : Int)) : Int))) || (!(f_is_within ((gz rules place).1 : (List Nat)) s2))) = false → ((-((rules.length : Nat) : Int) ≤ place ∧ place < (rules.length : Nat)) ∧ (s2.length + ([(gz rules place).2] : (List Nat)).length ≤ sizeLine)))
def f_shows_way (rules : (List ((List Nat) × Nat))) (rule : ((List Nat) × Nat)) (places : (List Int)) : Bool :=
  ((runT2 (f_shows_way_s1 rules) places rule.1).fin id (fun s2 => (decide (rule.2 ∈ s2))))
def pre_f_shows_way (rules : (List ((List Nat) × Nat))) (rule : ((List Nat) × Nat)) (places : (List Int)) : Prop :=
  (runP (f_shows_way_p2 rules) (f_shows_way_s1 rules) places rule.1)
@[irreducible] def sp_f_shows_way : Spec := fun ds dr Q _ => ∃ (rules : (List ((List Nat) × Nat))) (rule : ((List Nat) × Nat)) (places : (List Int)), ds = [enc rules, enc rule, enc places] ∧ pre_f_shows_way rules rule places ∧ Q (.val (enc (f_shows_way rules rule places))) dr
end PL
namespace PL
open PySem PySem.Spec PyProof.Rows L2
open En
def f_without_idle_1 (rule : ((List Nat) × Nat)) (s2 : (List ((List Nat) × Nat))) (rest2 : (List ((List Nat) × Nat))) : (List ((List Nat) × Nat)) :=
  (if (f_comes_of_2 (Ls.mk rest2) rule) = true then rest2 else s2)
def pre_f_without_idle_1 (rule : ((List Nat) × Nat)) (s2 : (List ((List Nat) × Nat))) (rest2 : (List ((List Nat) × Nat))) : Prop :=
  (pre_f_comes_of_2 (Ls.mk rest2) rule)
def ir_f_without_idle_1 : IS :=
(.seq (.ifs (.tst (.call 27321 (.acons (.var 3) (.acons (.var 2) .anil))))
 (.seq (.asg (.nm 1) (.var 3))
  .skip)
 .skip)
  .skip)
theorem bl_f_without_idle_1 {C : PC} (h_f_comes_of_2 : C.sp 27321 = sp_f_comes_of_2) {dn : Nat} (z2 : Nat → SV) (rules : (List ((List Nat) × Nat))) (rule : ((List Nat) × Nat)) (s2 : (List ((List Nat) × Nat))) (rest2 : (List ((List Nat) × Nat))) (hp : pre_f_without_idle_1 rule s2 rest2) : Bl C (⟨dn, [], fun s2 z2 => [.val (enc rules), fz (z2 1) (s2.map enc), z2 2, z2 3, .no], fun _ => .val .non⟩ : Bk (List ((List Nat) × Nat)) Unit) ir_f_without_idle_1 ⟨[.val (enc rules), fz (z2 1) (s2.map enc), .val (enc rule), .own (rest2.map enc), .no], dn⟩ (.go (f_without_idle_1 rule s2 rest2)) :=
  (bl_if Tn2.go (ev_tst (ev_call h_f_comes_of_2 (eva_F (ev_varO rfl) kp_lsv (eva_F (ev_var rfl) kp_val eva_nil)) (vl_f_comes_of_2 (Ls.mk rest2) rule hp)) g_trB) (fun h6 => (bl_as (bl_asg (ev_var rfl) sl_val (bl_sk (bl_go (s := rest2) (zl [.no, .no, .val (enc rule), .val (.lst (rest2.map enc))]) rfl (by exact trivial)))))) (fun h6 => (bl_sk (bl_go (s := s2) (zl [.no, (z2 1), .val (enc rule), .val (.lst (rest2.map enc))]) rfl (by exact trivial)))))
def f_without_idle_s2  (s2 : (List ((List Nat) × Nat))) (rule : ((List Nat) × Nat)) : (List ((List Nat) × Nat)) :=
  (f_without_idle_1 rule s2 (s2.filter fun (other : ((List Nat) × Nat)) => (!(decide (other = rule)))))
def f_without_idle_p3  (s2 : (List ((List Nat) × Nat))) (rule : ((List Nat) × Nat)) : Prop :=
  (pre_f_without_idle_1 rule s2 (s2.filter fun (other : ((List Nat) × Nat)) => (!(decide (other = rule)))))
def f_without_idle (rules : (List ((List Nat) × Nat))) : (List ((List Nat) × Nat)) :=
  (rules.reverse.foldl f_without_idle_s2 rules)
def pre_f_without_idle (rules : (List ((List Nat) × Nat))) : Prop :=
  (foldP f_without_idle_p3 f_without_idle_s2 rules.reverse rules)
def nm_f_without_idle : List Str := ["rules", "found", "rule", "rest", "other"]
def ir_f_without_idle : IS :=
(.seq (.asg (.nm 1) (.blt .list (.acons (.bor 0) .anil)))
  (.seq (.fr (.nm 2) (.itSeq (.rev (.bor 0)))
 (.seq (.asg (.nm 3) (.comp [4] (.nm 4) (.itSeq (.bor 1)) (.cmp .ne (.bor 4) (.bor 2)) (.var 4)))
  (.seq (.ifs (.tst (.call 27321 (.acons (.var 3) (.acons (.var 2) .anil))))
 (.seq (.asg (.nm 1) (.var 3))
  .skip)
 .skip)
  .skip)))
  (.seq (.ret (.blt .tuple (.acons (.bor 1) .anil)))
  .skip)))
def fs_f_without_idle : List (Nat × Str) := [(27321, "comes_of")]
def cs_f_without_idle : List (Str × D) := []
theorem bl_f_without_idle {C : PC} (h_f_comes_of_2 : C.sp 27321 = sp_f_comes_of_2) {dn : Nat} (rules : (List ((List Nat) × Nat))) (hp : pre_f_without_idle rules) : Bl C ⟨dn, [], fun (_ : Unit) _ => [], fun x => .val (enc x)⟩ ir_f_without_idle ⟨[.val (enc rules), .no, .no, .no, .no], dn⟩ (.out (f_without_idle rules)) :=
  (bl_asg (ev_blt (eva_T (ev_bor rfl) rfl eva_nil) g_lstT) sl_own (bl_for (⟨dn, [], fun s2 z2 => [.val (enc rules), fz (z2 1) (s2.map enc), z2 2, z2 3, .no], fun _ => .val .non⟩ : Bk (List ((List Nat) × Nat)) Unit) (step := f_without_idle_s2) f_without_idle_p3 (s0 := rules) rfl (i_T (ev_rev (ev_bor rfl) g_rvT)) (zl [.no, (.own []), .no, .no]) rfl (by exact trivial) hp (fun rule h1 s2 z2 h2 h3 => ⟨_, tg_nm, (bl_asg (g_compF (fun (other : ((List Nat) × Nat)) => (!(decide (other = rule)))) (fun (other : ((List Nat) × Nat)) => ⟨[.val (enc rules), fz (z2 1) (s2.map enc), .val (enc rule), z2 3, .val (enc other)], dn⟩) rfl (i_Lf (ev_borF (v := (z2 1)) rfl)) (fun other h4 => tg_nm) (fun _ => rfl) rfl (fun other h4 => (ev_cmp (ev_bor rfl) (ev_bor rfl) g_ne)) (fun other h4 h5 => evk (ev_var rfl) kp_val)) sl_own (by exact bl_f_without_idle_1 h_f_comes_of_2 z2 rules rule s2 (s2.filter fun (other : ((List Nat) × Nat)) => (!(decide (other = rule)))) h2))⟩) (fun z2 h3 => (bl_ret (x := ((rules.reverse.foldl f_without_idle_s2 rules) : (List ((List Nat) × Nat)))) (ev_blt (eva_T (ev_borF (v := (z2 1)) rfl) rfl eva_nil) (bzBlt g_tupL)) rfl))))
@[irreducible] def sp_f_without_idle : Spec := fun ds dr Q _ => ∃ (rules : (List ((List Nat) × Nat))), ds = [enc rules] ∧ pre_f_without_idle rules ∧ Q (.val (enc (f_without_idle rules))) dr
theorem vl_f_without_idle (rules : (List ((List Nat) × Nat))) (hp : pre_f_without_idle rules) : VlR sp_f_without_idle [enc rules] (.val (enc (f_without_idle rules))) := fun dr Q xe q => by unfold sp_f_without_idle; exact ⟨rules, rfl, hp, q⟩
theorem wp_f_without_idle (sp : Nat → Spec) (xe : Nat → Nat → Prop) (h_f_comes_of_2 : sp 27321 = sp_f_comes_of_2) : ∀ ds dr Q, sp_f_without_idle ds dr Q (fun _ _ => False) → wpF ⟨sp, xe⟩ nm_f_without_idle.length ir_f_without_idle ds dr Q := by
  intro ds dr Q h
  unfold sp_f_without_idle at h
  obtain ⟨rules, rfl, hp, hq⟩ := h
  exact wpF_bl (bl_f_without_idle (C := ⟨sp, xe⟩) h_f_comes_of_2 rules hp) hq
end PL
namespace PL
open PySem PySem.Spec PyProof.Rows L2
open En
def f_are_equal_books (things : Nat) (one : (List ((List Nat) × Nat))) (two : (List ((List Nat) × Nat))) : Bool :=
  (decide ((f_closed_sets things one) = (f_closed_sets things two)))
def pre_f_are_equal_books (things : Nat) (one : (List ((List Nat) × Nat))) (two : (List ((List Nat) × Nat))) : Prop :=
  (pre_f_closed_sets things one) ∧ (pre_f_closed_sets things two)
def nm_f_are_equal_books : List Str := ["things", "one", "two"]
def ir_f_are_equal_books : IS :=
(.seq (.ret (.cmp .eq (.call 27260 (.acons (.var 0) (.acons (.var 1) .anil))) (.call 27260 (.acons (.var 0) (.acons (.var 2) .anil)))))
  .skip)
def fs_f_are_equal_books : List (Nat × Str) := [(27260, "closed_sets")]
def cs_f_are_equal_books : List (Str × D) := []
theorem bl_f_are_equal_books {C : PC} (h_f_closed_sets : C.sp 27260 = sp_f_closed_sets) {dn : Nat} (things : Nat) (one : (List ((List Nat) × Nat))) (two : (List ((List Nat) × Nat))) (hp : pre_f_are_equal_books things one two) : Bl C ⟨dn, [], fun (_ : Unit) _ => [], fun x => .val (enc x)⟩ ir_f_are_equal_books ⟨[.val (enc things), .val (enc one), .val (enc two)], dn⟩ (.out (f_are_equal_books things one two)) :=
  (bl_ret (x := ((decide ((f_closed_sets things one) = (f_closed_sets things two))) : Bool)) (ev_cmp (ev_call h_f_closed_sets (eva_F (ev_var rfl) kp_val (eva_F (ev_var rfl) kp_val eva_nil)) (vl_f_closed_sets things one hp.1)) (ev_call h_f_closed_sets (eva_F (ev_var rfl) kp_val (eva_F (ev_var rfl) kp_val eva_nil)) (vl_f_closed_sets things two hp.2)) g_eqL) rfl)
@[irreducible] def sp_f_are_equal_books : Spec := fun ds dr Q _ => ∃ (things : Nat) (one : (List ((List Nat) × Nat))) (two : (List ((List Nat) × Nat))), ds = [enc things, enc one, enc two] ∧ pre_f_are_equal_books things one two ∧ Q (.val (enc (f_are_equal_books things one two))) dr
theorem vl_f_are_equal_books (things : Nat) (one : (List ((List Nat) × Nat))) (two : (List ((List Nat) × Nat))) (hp : pre_f_are_equal_books things one two) : VlR sp_f_are_equal_books [enc things, enc one, enc two] (.val (enc (f_are_equal_books things one two))) := fun dr Q xe q => by unfold sp_f_are_equal_books; exact ⟨things, one, two, rfl, hp, q⟩
theorem wp_f_are_equal_books (sp : Nat → Spec) (xe : Nat → Nat → Prop) (h_f_closed_sets : sp 27260 = sp_f_closed_sets) : ∀ ds dr Q, sp_f_are_equal_books ds dr Q (fun _ _ => False) → wpF ⟨sp, xe⟩ nm_f_are_equal_books.length ir_f_are_equal_books ds dr Q := by
  intro ds dr Q h
  unfold sp_f_are_equal_books at h
  obtain ⟨things, one, two, rfl, hp, hq⟩ := h
  exact wpF_bl (bl_f_are_equal_books (C := ⟨sp, xe⟩) h_f_closed_sets things one two hp) hq
end PL
namespace PL
open PySem PySem.Spec PyProof.Rows L2
open En
abbrev Rl : Type := List Nat × Nat
def RuleOf (n : Nat) (r : Rl) : Prop := SetOf n r.1 ∧ r.2 < n ∧ r.2 ∉ r.1
def Cl (rules : List Rl) (c : List Nat) : Prop := ∀ r ∈ rules, (∀ t ∈ r.1, t ∈ c) → r.2 ∈ c
theorem breaks_iff {c : List Nat} {r : Rl} : f_breaks_rule c r = true ↔ (∀ t ∈ r.1, t ∈ c) ∧ r.2 ∉ c := by
  unfold f_breaks_rule
  rw [Bool.and_eq_true, within_iff]
  simp
def clB (rules : List Rl) (c : List Nat) : Bool := !(rules.any fun r => f_breaks_rule c r)
theorem clB_iff {rules : List Rl} {c : List Nat} : clB rules c = true ↔ Cl rules c := by
  unfold clB Cl
  rw [Bool.not_eq_true', List.any_eq_false]
  constructor
  · intro h r hr hs
    have := h r hr
    rw [breaks_iff] at this
    by_cases e : r.2 ∈ c
    · exact e
    · exact absurd ⟨hs, e⟩ this
  · intro h r hr
    rw [breaks_iff]
    rintro ⟨h1, h2⟩
    exact h2 (h r hr h1)
theorem step_closed (rules : List Rl) (s : List (List Nat)) (row : List Nat) : f_law_closed_s1 rules s row = if clB rules row = true then s ++ [row] else s := by
  unfold f_law_closed_s1
  have : decide ((rules.countP fun (p : Rl) => f_law_in p.1 row && !decide (p.2 ∈ row)) = 0) = clB rules row := by
    rw [countP0]
    unfold clB
    rw [Bool.eq_iff_iff, List.all_eq_true, Bool.not_eq_true', List.any_eq_false]
    simp only [lawin_within]
    unfold f_breaks_rule
    simp
    refine forall_congr' fun a => forall_congr' fun b => forall_congr' fun _ => ?_
    cases f_is_within a row <;> simp
  rw [this]
theorem foldl_filter {α : Type} (p : α → Bool) : ∀ (xs s : List α), xs.foldl (fun s x => if p x = true then s ++ [x] else s) s = s ++ xs.filter p
  | [], s => by simp
  | x :: xs, s => by
    rw [List.foldl_cons, foldl_filter p xs]
    cases e : p x <;> simp [List.filter_cons, e]
theorem closed_eq (n : Nat) (rules : List Rl) : (f_law_closed n rules).l = (f_law_sets n).filter (clB rules) := by
  show (f_law_sets n).foldl (f_law_closed_s1 rules) [] = _
  rw [foldl_congr' (step_closed rules), foldl_filter]; rfl
theorem closed_sets_eq (n : Nat) (rules : List Rl) : f_closed_sets n rules = (f_law_closed n rules).l := by
  rw [closed_eq]
  unfold f_closed_sets
  rw [subsets_eq]; rfl
theorem closed_same {n : Nat} {a b : List Rl} (h : ∀ c, SetOf n c → (Cl a c ↔ Cl b c)) : (f_law_closed n a).l = (f_law_closed n b).l := by
  rw [closed_eq, closed_eq]
  refine List.filter_congr fun c hc => ?_
  rw [Bool.eq_iff_iff, clB_iff, clB_iff]
  exact h c (mem_sets.mp hc)
def outs (rules : List Rl) (c : List Nat) : Nat := rules.countP fun r => !decide (r.2 ∈ c)
theorem outs_mono {rules : List Rl} {c d : List Nat} (h : ∀ x ∈ c, x ∈ d) : outs rules d ≤ outs rules c := List.countP_mono_left fun r _ hr => by
  simp only [Bool.not_eq_true', decide_eq_false_iff_not] at hr ⊢
  exact fun z => hr (h _ z)
theorem outs_lt {rules : List Rl} {c d : List Nat} (h : ∀ x ∈ c, x ∈ d) {r : Rl} (hr : r ∈ rules) (h1 : r.2 ∉ c) (h2 : r.2 ∈ d) : outs rules d < outs rules c := countP_lt (fun r _ hr => by
  simp only [Bool.not_eq_true', decide_eq_false_iff_not] at hr ⊢
  exact fun z => hr (h _ z)) ⟨r, hr, by simpa using h1, by simpa using h2⟩
theorem outs_le (rules : List Rl) (c : List Nat) : outs rules c ≤ rules.length := List.countP_le_length
structure Fill (n : Nat) (rules : List Rl) (row f : List Nat) : Prop where
  set : SetOf n f
  sub : ∀ x ∈ row, x ∈ f
  cl : Cl rules f
  least : ∀ c, Cl rules c → (∀ x ∈ row, x ∈ c) → ∀ x ∈ f, x ∈ c
theorem filled_ok {n : Nat} (hn : n ≤ 20) {rules : List Rl} (hl : rules.length ≤ 1000) (hr : ∀ r ∈ rules, r.2 < n) {row : List Nat} (h : SetOf n row) : pre_f_filled rules row ∧ Fill n rules row (f_filled rules row) := by
  have sz := sizeLine_eq
  let I : List Nat × Bool → Prop := fun s => SetOf n s.1 ∧ (∀ x ∈ row, x ∈ s.1) ∧ (∀ c, Cl rules c → (∀ x ∈ row, x ∈ c) → ∀ x ∈ s.1, x ∈ c) ∧ (s.2 = true → Cl rules s.1)
  have key := whl_inv (PC := fun _ => True) (P := f_filled_p4 rules) (c := f_filled_c2) (step := f_filled_s3 rules) I (fun s => outs rules s.1 + if s.2 = true then 0 else 1) (fun _ => False) (fun s => I s ∧ s.2 = true) (fun _ _ => trivial)
    (fun s _ hc => by
      have : s.2 = false := by simpa [f_filled_c2] using hc
      rw [this]; simp)
    (fun s hI hc => by
      obtain ⟨i1, i2, i3, i4⟩ := hI
      have hq : s.2 = false := by simpa [f_filled_c2] using hc
      have hmore : ∀ x, x ∈ ((rules.filter fun (rule : Rl) => f_breaks_rule s.1 rule).map fun (rule : Rl) => rule.2) ↔ ∃ r ∈ rules, f_breaks_rule s.1 r = true ∧ r.2 = x := fun x => by
        rw [List.mem_map]
        constructor
        · rintro ⟨r, hr, rfl⟩
          obtain ⟨a, b⟩ := List.mem_filter.mp hr
          exact ⟨r, a, b, rfl⟩
        · rintro ⟨r, a, b, rfl⟩
          exact ⟨r, List.mem_filter.mpr ⟨a, b⟩, rfl⟩
      have hml : ((rules.filter fun (rule : Rl) => f_breaks_rule s.1 rule).map fun (rule : Rl) => rule.2).length ≤ rules.length := by
        rw [List.length_map]; exact List.length_filter_le _ _
      unfold f_filled_s3 f_filled_p4
      generalize em : ((rules.filter fun (rule : Rl) => f_breaks_rule s.1 rule).map fun (rule : Rl) => rule.2) = more at hmore hml ⊢
      refine ⟨by show s.1.length + more.length ≤ sizeLine; have := i1.len; omega, ?_⟩
      show I (srt ((ptAll ((s.1 ++ more).map fun (thing : Nat) => (thing, true))).map (·.1)), decide (more.length = 0)) ∧ _
      have hm : ∀ x, x ∈ srt ((ptAll ((s.1 ++ more).map fun (thing : Nat) => (thing, true))).map (·.1)) ↔ x ∈ s.1 ∨ x ∈ more := fun x => by rw [dset_mem, List.mem_append]
      have ha := dset_asc (xs := s.1 ++ more)
      generalize srt ((ptAll ((s.1 ++ more).map fun (thing : Nat) => (thing, true))).map (·.1)) = new at hm ha ⊢
      have sub : ∀ x ∈ s.1, x ∈ new := fun x hx => (hm x).mpr (.inl hx)
      refine ⟨⟨⟨ha, fun x hx => ?_⟩, fun x hx => sub x (i2 x hx), fun c hc hs x hx => ?_, fun z => ?_⟩, ?_⟩
      · rcases (hm x).mp hx with hx | hx
        · exact i1.2 x hx
        · obtain ⟨r, a, _, rfl⟩ := (hmore x).mp hx
          exact hr r a
      · rcases (hm x).mp hx with hx | hx
        · exact i3 c hc hs x hx
        · obtain ⟨r, a, b, rfl⟩ := (hmore x).mp hx
          exact hc r a fun t ht => i3 c hc hs t ((breaks_iff.mp b).1 t ht)
      · have z : more.length = 0 := by simpa using z
        have z := List.eq_nil_of_length_eq_zero z
        subst z
        intro r hr' ht
        refine (hm _).mpr (.inl ?_)
        by_cases e : r.2 ∈ s.1
        · exact e
        · have := (hmore r.2).mpr ⟨r, hr', breaks_iff.mpr ⟨fun t h => ((hm t).mp (ht t h)).resolve_right (by simp), e⟩, rfl⟩
          simp at this
      · show outs rules new + (if decide (more.length = 0) = true then 0 else 1) < outs rules s.1 + (if s.2 = true then 0 else 1)
        rw [hq]
        cases more with
        | nil => have := outs_mono (rules := rules) sub; simp; omega
        | cons y more =>
          obtain ⟨r, a, b, e⟩ := (hmore y).mp (by simp)
          have := outs_lt (rules := rules) sub a (breaks_iff.mp b).2 ((hm _).mpr (.inr (by rw [e]; simp)))
          simp; omega)
    (fun s hI hc => ⟨hI, by simpa [f_filled_c2] using hc⟩) (rules.length + 1) (row, false) ⟨h, fun x hx => hx, fun c _ hs => hs, fun z => Bool.noConfusion z⟩ (by have := outs_le rules row; simp; omega)
  refine ⟨key.1, ?_⟩
  unfold f_filled
  have k2 := key.2
  cases e : whlT f_filled_c2 (f_filled_s3 rules) (rules.length + 1) (row, false) with
  | out r => rw [e] at k2; exact k2.elim
  | go s => rw [e] at k2; obtain ⟨⟨a, b, c, d⟩, q⟩ := k2; exact ⟨a, b, d q, c⟩
  | brk s => rw [e] at k2; obtain ⟨⟨a, b, c, d⟩, q⟩ := k2; exact ⟨a, b, d q, c⟩
def Sem (n : Nat) (rules : List Rl) (rule : Rl) : Prop := ∀ c, SetOf n c → Cl rules c → (∀ t ∈ rule.1, t ∈ c) → rule.2 ∈ c
theorem comes_ok {n : Nat} (hn : n ≤ 20) {rules : List Rl} (hl : rules.length ≤ 1000) (hr : ∀ r ∈ rules, r.2 < n) {rule : Rl} (h : SetOf n rule.1) : pre_f_comes_of rules rule ∧ (f_comes_of rules rule = true ↔ Sem n rules rule) := by
  obtain ⟨p, F⟩ := filled_ok hn hl hr h
  refine ⟨p, ?_⟩
  unfold f_comes_of
  rw [decide_eq_true_eq]
  constructor
  · exact fun h1 c hc hcl hs => F.least c hcl hs _ h1
  · exact fun h1 => h1 _ F.set F.cl F.sub
theorem comes2_ok {n : Nat} (hn : n ≤ 20) {rules : List Rl} (hl : rules.length ≤ 1000) (hr : ∀ r ∈ rules, r.2 < n) {rule : Rl} (h : SetOf n rule.1) : pre_f_comes_of_2 (Ls.mk rules) rule ∧ (f_comes_of_2 (Ls.mk rules) rule = true ↔ Sem n rules rule) := comes_ok hn hl hr h
end PL
namespace PL
open PySem PySem.Spec PyProof.Rows L2
open En
structure Way (rules : List Rl) (r0 : List Nat) (places row : List Nat) : Prop where
  at_ : ∃ s, runT2 (f_law_shows_s1 rules) places r0 = .go s ∧ (∀ x, x ∈ s ↔ x ∈ row) ∧ s.length ≤ r0.length + places.length
  pre : runP (f_law_shows_p2 rules) (f_law_shows_s1 rules) places r0
  lt : ∀ p ∈ places, p < rules.length
end PL
namespace PL
open PySem PySem.Spec PyProof.Rows L2
open En
def f_law_rule (n2 : Nat) : M ((List Nat) × Nat) :=
  ((M.draw n2).bind fun (thing : Nat) => (M.req ((n2 ≤ 16777216)) (((M.comp (fun (one : Nat) => (if (!(decide (one = thing))) = true then ((M.draw 3).bind fun (v : Nat) => M.req (True) (M.pure ((decide (v = 0)) : Bool))) else M.pure false)) (fun (one : Nat) => (M.pure one)) (List.range n2)).bind fun (v2 : (List Nat)) => M.req (True) (M.pure v2)).bind fun (v3 : (List Nat)) => M.pure ((v3, thing) : ((List Nat) × Nat)))))
@[irreducible] def sp_f_law_rule : Spec := fun ds dr Q _ => ∃ (n2 : Nat), ds = [.pool, enc n2] ∧ (f_law_rule n2).run dr fun x d => Q (.val (enc x)) d
end PL
namespace PL
open PySem PySem.Spec PyProof.Rows L2
open En
def f_is_rule (things : Nat) (value : V) : Bool :=
  (if ((!(f_is_tuple value (2 : Nat))) || (!(f_are_numbers ((V.nth value 0) : V) ((0 : Int) : Int) ((((things : Nat) : Int) - (1 : Int)) : Int)))) = true then false else ((f_is_number ((V.nth value 1) : V) ((0 : Int) : Int) ((((things : Nat) : Int) - (1 : Int)) : Int)) && (!(vin (V.els (V.nth value 0)) ((V.nth value 1) : V)))))
def pre_f_is_rule (things : Nat) (value : V) : Prop :=
  (pre_f_is_tuple value (2 : Nat)) ∧ ((!(f_is_tuple value (2 : Nat))) = false → ((V.sq value = true ∧ 0 < V.len value) ∧ (pre_f_are_numbers ((V.nth value 0) : V) ((0 : Int) : Int) ((((things : Nat) : Int) - (1 : Int)) : Int)))) ∧ (((!(f_is_tuple value (2 : Nat))) || (!(f_are_numbers ((V.nth value 0) : V) ((0 : Int) : Int) ((((things : Nat) : Int) - (1 : Int)) : Int)))) = false → ((V.sq value = true ∧ 1 < V.len value) ∧ (pre_f_is_number ((V.nth value 1) : V) ((0 : Int) : Int) ((((things : Nat) : Int) - (1 : Int)) : Int)) ∧ ((f_is_number ((V.nth value 1) : V) ((0 : Int) : Int) ((((things : Nat) : Int) - (1 : Int)) : Int)) = true → ((V.sq value = true ∧ 1 < V.len value) ∧ (V.sq value = true ∧ 0 < V.len value) ∧ (V.sq (V.nth value 0) = true)))))
@[irreducible] def sp_f_is_rule : Spec := fun ds dr Q _ => ∃ (things : Nat) (value : V), ds = [enc things, enc value] ∧ pre_f_is_rule things value ∧ Q (.val (enc (f_is_rule things value))) dr
end PL
namespace PL
open PySem PySem.Spec PyProof.Rows L2
open En
def f_are_rules (things : Nat) (value : V) : Bool :=
  ((f_is_between value ((0 : Int) : Int) ((40 : Int) : Int)) && ((V.els value).all fun (row : V) => (f_is_rule things row)))
def pre_f_are_rules (things : Nat) (value : V) : Prop :=
  (pre_f_is_between value ((0 : Int) : Int) ((40 : Int) : Int)) ∧ ((f_is_between value ((0 : Int) : Int) ((40 : Int) : Int)) = true → ((V.sq value = true) ∧ (∀ row ∈ (V.els value), ((pre_f_is_rule things row)))))
@[irreducible] def sp_f_are_rules : Spec := fun ds dr Q _ => ∃ (things : Nat) (value : V), ds = [enc things, enc value] ∧ pre_f_are_rules things value ∧ Q (.val (enc (f_are_rules things value))) dr
end PL
namespace PL
open PySem PySem.Spec PyProof.Rows L2
open En
end PL
namespace PL
open PySem PySem.Spec PyProof.Rows L2
open En
theorem Sem.mono {n : Nat} {a b : List Rl} {r : Rl} (h : Sem n a r) (hs : ∀ x ∈ a, x ∈ b) : Sem n b r := fun c h1 h2 h3 => h c h1 (fun x hx => h2 x (hs x hx)) h3
def but (rs : List Rl) (r : Rl) : List Rl := rs.filter fun (other : Rl) => !decide (other = r)
theorem mem_but {rs : List Rl} {r x : Rl} : x ∈ but rs r ↔ x ∈ rs ∧ x ≠ r := by
  unfold but
  rw [List.mem_filter]
  simp
structure Idle (n : Nat) (rules left : List Rl) : Prop where
  sub : ∀ r ∈ left, r ∈ rules
  same : ∀ c, SetOf n c → (Cl left c ↔ Cl rules c)
  need : ∀ r ∈ left, ¬ Sem n (but left r) r
  len : left.length ≤ rules.length
theorem idle_ok {n : Nat} (hn : n ≤ 20) {rules : List Rl} (hl : rules.length ≤ 1000) (hr : ∀ r ∈ rules, RuleOf n r) : pre_f_without_idle rules ∧ Idle n rules (f_without_idle rules) := by
  have key := fold_inv (P := f_without_idle_p3) (step := f_without_idle_s2) (fun k s => (∀ r ∈ s, r ∈ rules) ∧ (∀ c, SetOf n c → (Cl s c ↔ Cl rules c)) ∧ (∀ (j : Nat) r, j < k → rules.reverse[j]? = some r → r ∈ s → ¬ Sem n (but s r) r) ∧ s.length ≤ rules.length) rules.reverse rules 0
    ⟨fun r h => h, fun c _ => Iff.rfl, fun j r h => by omega, Nat.le_refl _⟩ fun i x s hx hI => by
      obtain ⟨h1, h2, h3, h4⟩ := hI
      have hxr : x ∈ rules := List.mem_reverse.mp (List.mem_of_getElem? hx)
      have hb : ∀ r ∈ but s x, r ∈ s := fun r h => (mem_but.mp h).1
      have hbl : (but s x).length ≤ s.length := List.length_filter_le _ _
      obtain ⟨p, c⟩ := comes2_ok hn (rules := but s x) (by omega) (fun r h => (hr r (h1 r (hb r h))).2.1) (rule := x) (hr x hxr).1
      refine ⟨p, ?_⟩
      show (∀ r ∈ f_without_idle_s2 s x, _) ∧ _
      have e : f_without_idle_s2 s x = if f_comes_of_2 (Ls.mk (but s x)) x = true then but s x else s := rfl
      rw [e]
      split
      · rename_i hc
        have hS := c.mp hc
        clear c
        refine ⟨fun r h => h1 r (hb r h), fun d hd => ?_, fun j r hj hr' hm => ?_, by omega⟩
        · rw [← h2 d hd]
          constructor
          · intro hcl r hr' ht
            by_cases e : r = x
            · subst e; exact hS d hd hcl ht
            · exact hcl r (mem_but.mpr ⟨hr', e⟩) ht
          · exact fun hcl r hr' => hcl r (hb r hr')
        · rcases Nat.lt_or_ge j (0 + i) with hj2 | hj2
          · exact fun z => h3 j r hj2 hr' (hb r hm) (z.mono fun y hy => mem_but.mpr ⟨hb y (mem_but.mp hy).1, (mem_but.mp hy).2⟩)
          · have : j = i := by omega
            subst this
            rw [hx] at hr'
            cases hr'
            exact absurd rfl (mem_but.mp hm).2
      · rename_i hc
        refine ⟨h1, h2, fun j r hj hr' hm => ?_, h4⟩
        rcases Nat.lt_or_ge j (0 + i) with hj2 | hj2
        · exact h3 j r hj2 hr' hm
        · have : j = i := by omega
          subst this
          rw [hx] at hr'
          cases hr'
          exact fun z => hc (c.mpr z)
  refine ⟨key.1, ?_⟩
  obtain ⟨h1, h2, h3, h4⟩ := key.2
  refine ⟨h1, h2, fun r hr' => ?_, h4⟩
  obtain ⟨j, hj, e⟩ := List.getElem_of_mem (List.mem_reverse.mpr (h1 r hr'))
  exact h3 j r (by omega) (by rw [List.getElem?_eq_getElem hj, e]) hr'
end PL
namespace PL
open PySem PySem.Spec PyProof.Rows L2
open En
def f_law_tournament_s1 (line : (List Nat)) (lean : Nat) (i : Nat) (s3 : (List (Nat × Nat))) (j : Nat) : (M (List (Nat × Nat))) :=
  (((M.draw lean).bind fun (v : Nat) => M.req (True) (M.pure ((decide (0 < v)) : Bool))).bind fun (k : Bool) => if k = true then (M.req ((i < line.length) ∧ (j < line.length) ∧ (s3.length < sizeLine)) (M.pure (s3 ++ [((line.getD i default), (line.getD j default))]))) else (M.req ((j < line.length) ∧ (i < line.length) ∧ (s3.length < sizeLine)) (M.pure (s3 ++ [((line.getD j default), (line.getD i default))]))))
def f_law_tournament_s2 (n2 : Nat) (line : (List Nat)) (lean : Nat) (s2 : (List (Nat × Nat))) (i : Nat) : (M (List (Nat × Nat))) :=
  (M.req (((i + 1) ≤ 16777216 ∧ n2 ≤ 16777216)) ((M.fold (f_law_tournament_s1 line lean i) (List.range' (i + 1) (n2 - (i + 1))) s2).bind fun (s3 : (List (Nat × Nat))) => (M.pure s3)))
def f_law_tournament (n2 : Nat) : M (List (Nat × Nat)) :=
  ((f_law_line n2).bind fun (line : (List Nat)) => (((M.draw 3).bind fun (w : Nat) => M.req ((w < [2, 3, 5].length)) (M.pure (([2, 3, 5].getD w default) : Nat))).bind fun (lean : Nat) => (M.req ((n2 ≤ 16777216)) ((M.fold (f_law_tournament_s2 n2 line lean) (List.range n2) ([] : List (Nat × Nat))).bind fun (s2 : (List (Nat × Nat))) => (M.pure (srt s2))))))
@[irreducible] def sp_f_law_tournament : Spec := fun ds dr Q _ => ∃ (n2 : Nat), ds = [.pool, enc n2] ∧ (f_law_tournament n2).run dr fun x d => Q (.val (enc x)) d
end PL
namespace PL
open PySem PySem.Spec PyProof.Rows L2
open En
end PL
namespace PL
open PySem PySem.Spec PyProof.Rows L2
open En
def f_beaten (relation : (List (Nat × Nat))) (menu : (List Nat)) (thing : Nat) : Bool :=
  (menu.any fun (other : Nat) => (decide ((other, thing) ∈ relation)))
@[irreducible] def sp_f_beaten : Spec := fun ds dr Q _ => ∃ (relation : (List (Nat × Nat))) (menu : (List Nat)) (thing : Nat), ds = [enc relation, enc menu, enc thing] ∧ Q (.val (enc (f_beaten relation menu thing))) dr
end PL
namespace PL
open PySem PySem.Spec PyProof.Rows L2
open En
def f_best_of (relation : (List (Nat × Nat))) (menu : (List Nat)) : (List Nat) :=
  (menu.filter fun (thing : Nat) => (!(f_beaten relation menu thing)))
@[irreducible] def sp_f_best_of : Spec := fun ds dr Q _ => ∃ (relation : (List (Nat × Nat))) (menu : (List Nat)), ds = [enc relation, enc menu] ∧ Q (.val (enc (f_best_of relation menu))) dr
end PL
namespace PL
open PySem PySem.Spec PyProof.Rows L2
open En
def f_ring_among_2 (s2 : (List Nat)) (other : Nat) : (Tn2 (List Nat) (List Nat)) :=
  (if (decide (other ∈ s2)) = true then (.out ((s2.drop (ixo s2 other)).reverse)) else (.go (s2 ++ [other])))
def pre_f_ring_among_2 (s2 : (List Nat)) (other : Nat) : Prop :=
  ((decide (other ∈ s2)) = true → ((other ∈ s2))) ∧ ((decide (other ∈ s2)) = false → ((s2.length < sizeLine)))
def f_ring_among_c3  (s2 : (List Nat)) : Bool :=
  true
def f_ring_among_s4 (relation : (List (Nat × Nat))) (left : (Ls Nat)) (s2 : (List Nat)) : Tn2 (List Nat) (List Nat) :=
  (f_ring_among_2 s2 (minN (left.l.filter fun (one : Nat) => (decide ((one, (gz s2 (-(1 : Int)))) ∈ relation)))))
def f_ring_among_p5 (relation : (List (Nat × Nat))) (left : (Ls Nat)) (s2 : (List Nat)) : Prop :=
  (∀ one ∈ left.l, ((-((s2.length : Nat) : Int) ≤ (-(1 : Int)) ∧ (-(1 : Int)) < (s2.length : Nat)))) ∧ ((left.l.filter fun (one : Nat) => (decide ((one, (gz s2 (-(1 : Int)))) ∈ relation))) ≠ []) ∧ (pre_f_ring_among_2 s2 (minN (left.l.filter fun (one : Nat) => (decide ((one, (gz s2 (-(1 : Int)))) ∈ relation)))))
def f_ring_among_1 (relation : (List (Nat × Nat))) (left : (Ls Nat)) (path : (List Nat)) : (List Nat) :=
  ((whlT f_ring_among_c3 (f_ring_among_s4 relation left) left.l.length path).fin id (fun s2 => default))
def pre_f_ring_among_1 (relation : (List (Nat × Nat))) (left : (Ls Nat)) (path : (List Nat)) : Prop :=
  (whlP (fun _ => True) (f_ring_among_p5 relation left) f_ring_among_c3 (f_ring_among_s4 relation left) left.l.length path) ∧ (∀ s2, (whlT f_ring_among_c3 (f_ring_among_s4 relation left) left.l.length path) = .go s2 ∨ (whlT f_ring_among_c3 (f_ring_among_s4 relation left) left.l.length path) = .brk s2 → ((False)))
def f_ring_among (relation : (List (Nat × Nat))) (left : (Ls Nat)) : (List Nat) :=
  (f_ring_among_1 relation left [(left.l.getD 0 default)])
def pre_f_ring_among (relation : (List (Nat × Nat))) (left : (Ls Nat)) : Prop :=
  (0 < left.l.length) ∧ (pre_f_ring_among_1 relation left [(left.l.getD 0 default)])
@[irreducible] def sp_f_ring_among : Spec := fun ds dr Q _ => ∃ (relation : (List (Nat × Nat))) (left : (Ls Nat)), ds = [enc relation, enc left] ∧ pre_f_ring_among relation left ∧ Q (.val (enc (f_ring_among relation left))) dr
end PL
namespace PL
open PySem PySem.Spec PyProof.Rows L2
open En
def f_line_paper_1 (relation : (List (Nat × Nat))) (s2 : ((List Nat) × (List Nat))) (best : (List Nat)) : (Tn2 ((List Nat) × (List Nat)) (Tx × (List Nat))) :=
  (if (decide (best.length = 0)) = true then (.out (t_ring, (f_ring_among relation (Ls.mk s2.1)))) else (.go ((s2.1.erase (best.getD 0 default)), (s2.2 ++ (best.take 1)))))
def pre_f_line_paper_1 (relation : (List (Nat × Nat))) (s2 : ((List Nat) × (List Nat))) (best : (List Nat)) : Prop :=
  ((decide (best.length = 0)) = true → ((pre_f_ring_among relation (Ls.mk s2.1)))) ∧ ((decide (best.length = 0)) = false → ((s2.2.length + ((best.take 1) : (List Nat)).length ≤ sizeLine) ∧ (0 < best.length) ∧ ((best.getD 0 default) ∈ s2.1)))
def f_line_paper_c2  (s2 : ((List Nat) × (List Nat))) : Bool :=
  (decide (0 < s2.1.length))
def f_line_paper_s3 (relation : (List (Nat × Nat))) (s2 : ((List Nat) × (List Nat))) : Tn2 ((List Nat) × (List Nat)) (Tx × (List Nat)) :=
  (f_line_paper_1 relation s2 (f_best_of relation s2.1))
def f_line_paper_p4 (relation : (List (Nat × Nat))) (s2 : ((List Nat) × (List Nat))) : Prop :=
  (pre_f_line_paper_1 relation s2 (f_best_of relation s2.1))
def f_line_paper (things : Nat) (relation : (List (Nat × Nat))) : (Tx × (List Nat)) :=
  ((whlT f_line_paper_c2 (f_line_paper_s3 relation) things ((List.range things), [])).fin id (fun s2 => ((t_line, s2.2).1, (t_line, s2.2).2)))
def pre_f_line_paper (things : Nat) (relation : (List (Nat × Nat))) : Prop :=
  (things ≤ 16777216) ∧ (whlP (fun _ => True) (f_line_paper_p4 relation) f_line_paper_c2 (f_line_paper_s3 relation) things ((List.range things), []))
@[irreducible] def sp_f_line_paper : Spec := fun ds dr Q _ => ∃ (things : Nat) (relation : (List (Nat × Nat))), ds = [enc things, enc relation] ∧ pre_f_line_paper things relation ∧ Q (.val (enc (f_line_paper things relation))) dr
end PL
namespace PL
open PySem PySem.Spec PyProof.Rows L2
open En
def f_has_no_ring (things : Nat) (relation : (List (Nat × Nat))) : Bool :=
  (decide ((f_line_paper things relation).1 = t_line))
def pre_f_has_no_ring (things : Nat) (relation : (List (Nat × Nat))) : Prop :=
  (pre_f_line_paper things relation)
@[irreducible] def sp_f_has_no_ring : Spec := fun ds dr Q _ => ∃ (things : Nat) (relation : (List (Nat × Nat))), ds = [enc things, enc relation] ∧ pre_f_has_no_ring things relation ∧ Q (.val (enc (f_has_no_ring things relation))) dr
end PL
namespace PL
open PySem PySem.Spec PyProof.Rows L2
open En
def f_law_best (relation : (List (Nat × Nat))) (menu : (List Nat)) : (List Nat) :=
  (menu.filter fun (thing : Nat) => (decide ((menu.countP fun (other : Nat) => (decide ((other, thing) ∈ relation))) = 0)))
@[irreducible] def sp_f_law_best : Spec := fun ds dr Q _ => ∃ (relation : (List (Nat × Nat))) (menu : (List Nat)), ds = [enc relation, enc menu] ∧ Q (.val (enc (f_law_best relation menu))) dr
end PL
namespace PL
open PySem PySem.Spec PyProof.Rows L2
open En
def f_law_ringless_1 (left : (List Nat)) : (Tn2 (List Nat) Bool) :=
  (if (decide (left.length = 0)) = true then (.out true) else (.go left))
def f_law_ringless_s2 (relation : (List (Nat × Nat))) (s2 : (List Nat)) (k : Nat) : Tn2 (List Nat) Bool :=
  (if (decide ((f_law_best relation s2).length = 0)) = true then (.out false) else (f_law_ringless_1 (s2.filter fun (thing : Nat) => (!(decide (thing ∈ (f_law_best relation s2)))))))
def f_law_ringless (n2 : Nat) (relation : (List (Nat × Nat))) : Bool :=
  ((runT2 (f_law_ringless_s2 relation) (List.range n2) (List.range n2)).fin id (fun s2 => (decide (s2.length = 0))))
def pre_f_law_ringless (n2 : Nat) (relation : (List (Nat × Nat))) : Prop :=
  (n2 ≤ 16777216)
@[irreducible] def sp_f_law_ringless : Spec := fun ds dr Q _ => ∃ (n2 : Nat) (relation : (List (Nat × Nat))), ds = [enc n2, enc relation] ∧ pre_f_law_ringless n2 relation ∧ Q (.val (enc (f_law_ringless n2 relation))) dr
end PL
namespace PL
open PySem PySem.Spec PyProof.Rows L2
open En
end PL
namespace PL
open PySem PySem.Spec PyProof.Rows L2
open En
def f_menus (things : Nat) : (List (List Nat)) :=
  ((f_subsets_of (Ls.mk (List.range things))).filter fun (row : (List Nat)) => (decide (0 < row.length)))
def pre_f_menus (things : Nat) : Prop :=
  (things ≤ 16777216) ∧ (pre_f_subsets_of (Ls.mk (List.range things)))
@[irreducible] def sp_f_menus : Spec := fun ds dr Q _ => ∃ (things : Nat), ds = [enc things] ∧ pre_f_menus things ∧ Q (.own ((f_menus things).map enc)) dr
end PL
namespace PL
open PySem PySem.Spec PyProof.Rows L2
open En
def f_things_of_c1 (table : (List (List Nat))) (s2 : Nat) : Bool :=
  (decide ((f_menus s2).length < table.length))
def f_things_of_s2  (s2 : Nat) : Tn2 Nat Nat :=
  (.go (s2 + 1))
def f_things_of_q3  (s2 : Nat) : Prop :=
  (pre_f_menus s2)
def f_things_of (table : (List (List Nat))) : Nat :=
  ((whlT (f_things_of_c1 table) f_things_of_s2 table.length 1).fin id (fun s2 => s2))
def pre_f_things_of (table : (List (List Nat))) : Prop :=
  (whlP f_things_of_q3 (fun _ => True) (f_things_of_c1 table) f_things_of_s2 table.length 1)
@[irreducible] def sp_f_things_of : Spec := fun ds dr Q _ => ∃ (table : (List (List Nat))), ds = [enc table] ∧ pre_f_things_of table ∧ Q (.val (enc (f_things_of table))) dr
end PL
namespace PL
open PySem PySem.Spec PyProof.Rows L2
open En
def f_by_menus (table : (List (List Nat))) : (List ((List Nat) × (List Nat))) :=
  (ptAll (((f_menus ((f_things_of table) : Nat)).zip table).map fun (p : ((List Nat) × (List Nat))) => (p.1, p.2)))
def pre_f_by_menus (table : (List (List Nat))) : Prop :=
  (pre_f_things_of table) ∧ (pre_f_menus ((f_things_of table) : Nat))
@[irreducible] def sp_f_by_menus : Spec := fun ds dr Q _ => ∃ (table : (List (List Nat))), ds = [enc table] ∧ pre_f_by_menus table ∧ Q (.owd (encKV (f_by_menus table))) dr
end PL
namespace PL
open PySem PySem.Spec PyProof.Rows L2
open En
def f_law_random_picks (menu : (List Nat)) : M (List Nat) :=
  (((M.comp (fun (thing : Nat) => ((M.draw 2).bind fun (v : Nat) => M.req (True) (M.pure ((decide (v = 0)) : Bool)))) (fun (thing : Nat) => (M.pure thing)) menu).bind fun (v2 : (List Nat)) => M.req (True) (M.pure v2)).bind fun (found : (List Nat)) => ((M.pure ((decide (found.length = 0)) : Bool)).bind fun (k : Bool) => (if k = true then ((((M.draw menu.length).bind fun (w : Nat) => M.req ((w < menu.length)) (M.pure ((menu.getD w default) : Nat))).bind fun (v3 : Nat) => M.pure ([v3] : (List Nat))).bind fun (found2 : (List Nat)) => (M.pure found2)) else (M.pure found)).bind fun (s2 : (List Nat)) => (M.pure s2)))
@[irreducible] def sp_f_law_random_picks : Spec := fun ds dr Q _ => ∃ (menu : (List Nat)), ds = [.pool, enc menu] ∧ (f_law_random_picks menu).run dr fun x d => Q (.val (enc x)) d
end PL
namespace PL
open PySem PySem.Spec PyProof.Rows L2
open En
def f_law_tidy_s1  (s2 : (List Nat)) (number : Nat) : (List Nat) :=
  (if (!(decide (number ∈ s2))) = true then (s2 ++ [number]) else s2)
def f_law_tidy_p2  (s2 : (List Nat)) (number : Nat) : Prop :=
  ((!(decide (number ∈ s2))) = true → ((s2.length < sizeLine)))
def f_law_tidy (numbers : (Ls Nat)) : (List Nat) :=
  (numbers.l.map fun (number2 : Nat) => (ixo ((srt numbers.l).foldl f_law_tidy_s1 ([] : List Nat)) number2))
def pre_f_law_tidy (numbers : (Ls Nat)) : Prop :=
  (foldP f_law_tidy_p2 f_law_tidy_s1 (srt numbers.l) ([] : List Nat)) ∧ (∀ number2 ∈ numbers.l, ((number2 ∈ ((srt numbers.l).foldl f_law_tidy_s1 ([] : List Nat)))))
@[irreducible] def sp_f_law_tidy : Spec := fun ds dr Q _ => ∃ (numbers : (Ls Nat)), ds = [enc numbers] ∧ pre_f_law_tidy numbers ∧ Q (.val (enc (f_law_tidy numbers))) dr
end PL
namespace PL
open PySem PySem.Spec PyProof.Rows L2
open En
def f_law_ranks (n2 : Nat) : M (List Nat) :=
  (M.req ((n2 ≤ 16777216)) ((M.comp (fun (k : Nat) => (M.pure true)) (fun (k : Nat) => (M.draw n2)) (List.range n2)).bind fun (v : (List Nat)) => M.req (pre_f_law_tidy (Ls.mk v)) (M.pure (f_law_tidy (Ls.mk v)))))
@[irreducible] def sp_f_law_ranks : Spec := fun ds dr Q _ => ∃ (n2 : Nat), ds = [.pool, enc n2] ∧ (f_law_ranks n2).run dr fun x d => Q (.val (enc x)) d
end PL
namespace PL
open PySem PySem.Spec PyProof.Rows L2
open En
def f_law_least (ranks : (List Nat)) (menu : (List Nat)) : (List Nat) :=
  (menu.filter fun (thing2 : Nat) => (decide ((ranks.getD thing2 default) = (minN (menu.map fun (thing : Nat) => (ranks.getD thing default))))))
def pre_f_law_least (ranks : (List Nat)) (menu : (List Nat)) : Prop :=
  (∀ thing ∈ menu, ((thing < ranks.length))) ∧ ((menu.map fun (thing : Nat) => (ranks.getD thing default)) ≠ []) ∧ (∀ thing2 ∈ menu, ((thing2 < ranks.length)))
@[irreducible] def sp_f_law_least : Spec := fun ds dr Q _ => ∃ (ranks : (List Nat)) (menu : (List Nat)), ds = [enc ranks, enc menu] ∧ pre_f_law_least ranks menu ∧ Q (.val (enc (f_law_least ranks menu))) dr
end PL
namespace PL
open PySem PySem.Spec PyProof.Rows L2
open En
def f_law_steps_s2 (p : (Nat × Nat)) (s4 : (List (Nat × Nat))) (p2 : (Nat × Nat)) : (List (Nat × Nat)) :=
  (if ((decide (p.2 = p2.1)) && ((!(decide (p.1 = p2.2))) && (!(decide ((p.1, p2.2) ∈ s4))))) = true then (s4 ++ [(p.1, p2.2)]) else s4)
def f_law_steps_p3 (p : (Nat × Nat)) (s4 : (List (Nat × Nat))) (p2 : (Nat × Nat)) : Prop :=
  (((decide (p.2 = p2.1)) && ((!(decide (p.1 = p2.2))) && (!(decide ((p.1, p2.2) ∈ s4))))) = true → ((s4.length < sizeLine)))
def f_law_steps_s4  (s3 : (List (Nat × Nat))) (p : (Nat × Nat)) : (List (Nat × Nat)) :=
  ((s3 ++ ([] : List (Nat × Nat))).foldl (f_law_steps_s2 p) s3)
def f_law_steps_p5  (s3 : (List (Nat × Nat))) (p : (Nat × Nat)) : Prop :=
  (s3.length + (([] : List (Nat × Nat)) : (List (Nat × Nat))).length ≤ sizeLine) ∧ (foldP (f_law_steps_p3 p) (f_law_steps_s2 p) (s3 ++ ([] : List (Nat × Nat))) s3)
def f_law_steps_s6  (s2 : (List (Nat × Nat))) (k : Nat) : (List (Nat × Nat)) :=
  ((s2 ++ ([] : List (Nat × Nat))).foldl f_law_steps_s4 s2)
def f_law_steps_p7  (s2 : (List (Nat × Nat))) (k : Nat) : Prop :=
  (s2.length + (([] : List (Nat × Nat)) : (List (Nat × Nat))).length ≤ sizeLine) ∧ (foldP f_law_steps_p5 f_law_steps_s4 (s2 ++ ([] : List (Nat × Nat))) s2)
def f_law_steps_1 (found : (List (Nat × Nat))) : (List (Nat × Nat)) :=
  (srt ((List.range 6).foldl f_law_steps_s6 found))
def pre_f_law_steps_1 (found : (List (Nat × Nat))) : Prop :=
  (foldP f_law_steps_p7 f_law_steps_s6 (List.range 6) found)
def f_law_steps (relation : (List (Nat × Nat))) : (List (Nat × Nat)) :=
  (f_law_steps_1 (relation.map fun (pair : (Nat × Nat)) => pair))
def pre_f_law_steps (relation : (List (Nat × Nat))) : Prop :=
  (pre_f_law_steps_1 (relation.map fun (pair : (Nat × Nat)) => pair))
@[irreducible] def sp_f_law_steps : Spec := fun ds dr Q _ => ∃ (relation : (List (Nat × Nat))), ds = [enc relation] ∧ pre_f_law_steps relation ∧ Q (.val (enc (f_law_steps relation))) dr
end PL
namespace PL
open PySem PySem.Spec PyProof.Rows L2
open En
def f_law_first (line : (List Nat)) (menu : (List Nat)) : Nat :=
  ((line.filter fun (thing : Nat) => (decide (thing ∈ menu))).getD 0 default)
def pre_f_law_first (line : (List Nat)) (menu : (List Nat)) : Prop :=
  (0 < (line.filter fun (thing : Nat) => (decide (thing ∈ menu))).length)
@[irreducible] def sp_f_law_first : Spec := fun ds dr Q _ => ∃ (line : (List Nat)) (menu : (List Nat)), ds = [enc line, enc menu] ∧ pre_f_law_first line menu ∧ Q (.val (enc (f_law_first line menu))) dr
end PL
namespace PL
open PySem PySem.Spec PyProof.Rows L2
open En
def f_law_picks_of_lines_s1 (menu : (List Nat)) (s2 : (List Nat)) (line : (List Nat)) : (List Nat) :=
  (if (!(decide ((f_law_first line menu) ∈ s2))) = true then (s2 ++ [(f_law_first line menu)]) else s2)
def f_law_picks_of_lines_p2 (menu : (List Nat)) (s2 : (List Nat)) (line : (List Nat)) : Prop :=
  (pre_f_law_first line menu) ∧ ((!(decide ((f_law_first line menu) ∈ s2))) = true → ((pre_f_law_first line menu) ∧ (s2.length < sizeLine)))
def f_law_picks_of_lines (lines : (Ls (List Nat))) (menu : (List Nat)) : (List Nat) :=
  (srt (lines.l.foldl (f_law_picks_of_lines_s1 menu) ([] : List Nat)))
def pre_f_law_picks_of_lines (lines : (Ls (List Nat))) (menu : (List Nat)) : Prop :=
  (foldP (f_law_picks_of_lines_p2 menu) (f_law_picks_of_lines_s1 menu) lines.l ([] : List Nat))
@[irreducible] def sp_f_law_picks_of_lines : Spec := fun ds dr Q _ => ∃ (lines : (Ls (List Nat))) (menu : (List Nat)), ds = [enc lines, enc menu] ∧ pre_f_law_picks_of_lines lines menu ∧ Q (.val (enc (f_law_picks_of_lines lines menu))) dr
end PL
namespace PL
open PySem PySem.Spec PyProof.Rows L2
open En
def f_law_table (n2 : Nat) : M (List (List Nat)) :=
  (M.req ((pre_f_law_menus n2)) ((M.draw 7).bind fun (way : Nat) => (if (decide (way = 0)) = true then ((M.comp (fun (menu : (List Nat)) => (M.pure true)) (fun (menu : (List Nat)) => (f_law_random_picks menu)) (f_law_menus n2)).bind fun (v : (List (List Nat))) => M.req (True) (M.pure v)) else ((M.pure ((decide (way < 3)) : Bool)).bind fun (k4 : Bool) => (if k4 = true then ((f_law_ranks n2).bind fun (ranks : (List Nat)) => (M.req ((∀ menu2 ∈ (f_law_menus n2), ((pre_f_law_least ranks menu2)))) (M.pure ((f_law_menus n2).map fun (menu2 : (List Nat)) => (f_law_least ranks menu2))))) else (if (decide (way < 5)) = true then ((((M.draw 2).bind fun (w : Nat) => M.req (True) (M.pure ((2 + w) : Nat))).bind fun (v2 : Nat) => f_law_beats n2 v2).bind fun (relation : (List (Nat × Nat))) => (((M.draw 2).bind fun (v3 : Nat) => M.req (True) (M.pure ((decide (v3 = 0)) : Bool))).bind fun (k : Bool) => (if k = true then (M.req ((pre_f_law_steps relation)) (M.pure (f_law_steps relation))) else (M.pure relation)).bind fun (s3 : (List (Nat × Nat))) => (M.pure ((f_law_menus n2).map fun (menu3 : (List Nat)) => (f_law_best s3 menu3))))) else (((((M.draw 3).bind fun (w2 : Nat) => M.req (True) (M.pure ((1 + w2) : Nat))).bind fun (v4 : Nat) => M.req (v4 ≤ 16777216) (M.pure (List.range v4))).bind fun (xs : (List Nat)) => (M.comp (fun (k2 : Nat) => (M.pure true)) (fun (k2 : Nat) => (f_law_line n2)) xs)).bind fun (lines : (List (List Nat))) => (M.req ((∀ menu4 ∈ (f_law_menus n2), ((pre_f_law_picks_of_lines (Ls.mk lines) menu4)))) (M.pure ((f_law_menus n2).map fun (menu4 : (List Nat)) => (f_law_picks_of_lines (Ls.mk lines) menu4))))))).bind fun (s2 : (List (List Nat))) => (((M.draw 3).bind fun (v5 : Nat) => M.req (True) (M.pure ((decide (v5 = 0)) : Bool))).bind fun (k3 : Bool) => (if k3 = true then ((M.draw ((f_law_menus n2).length)).bind fun (at2 : Nat) => (M.req ((at2 < (f_law_menus n2).length)) (((((f_law_random_picks (((f_law_menus n2).getD at2 default) : (List Nat))).bind fun (v6 : (List Nat)) => M.pure ([v6] : (List (List Nat)))).bind fun (w4 : (List (List Nat))) => M.req ((((s2.take at2) : (List (List Nat))).length + w4.length ≤ sizeLine)) (M.pure (((s2.take at2) ++ w4) : (List (List Nat))))).bind fun (v7 : (List (List Nat))) => M.req ((v7.length + ((s2.drop (at2 + 1)) : (List (List Nat))).length ≤ sizeLine)) (M.pure ((v7 ++ (s2.drop (at2 + 1))) : (List (List Nat))))).bind fun (table : (List (List Nat))) => (M.pure table)))) else (M.pure s2)).bind fun (s4 : (List (List Nat))) => (M.pure s4))))))
@[irreducible] def sp_f_law_table : Spec := fun ds dr Q _ => ∃ (n2 : Nat), ds = [.pool, enc n2] ∧ (f_law_table n2).run dr fun x d => Q (.val (enc x)) d
end PL
namespace PL
open PySem PySem.Spec PyProof.Rows L2
open En
theorem nodup_inj {α : Type} {l : List α} (nd : l.Nodup) {i j : Nat} (hi : i < l.length) (hj : j < l.length) (e : l[i] = l[j]) : i = j := by
  rcases Nat.lt_trichotomy i j with h | h | h
  · exact absurd e (List.pairwise_iff_getElem.mp nd i j hi hj h)
  · exact h
  · exact absurd e.symm (List.pairwise_iff_getElem.mp nd j i hj hi h)
theorem nodup_lenA {α : Type} [DecidableEq α] : ∀ {s l : List α}, s.Nodup → (∀ x ∈ s, x ∈ l) → s.length ≤ l.length
  | [], _, _, _ => Nat.zero_le _
  | a :: s, l, h, hs => by
    obtain ⟨h1, h2⟩ := List.nodup_cons.mp h
    have ha := hs a List.mem_cons_self
    have := nodup_lenA (s := s) (l := l.erase a) h2 fun x hx => (List.mem_erase_of_ne (fun e => by subst e; exact h1 hx)).mpr (hs x (List.mem_cons_of_mem _ hx))
    rw [List.length_erase_of_mem ha] at this
    have := List.length_pos_of_mem ha
    rw [List.length_cons]; omega
def pk (n : Nat) (t : List (List Nat)) (m : List Nat) : List Nat := t.getD (ixo (f_law_menus n) m) default
def RA (n : Nat) (l : List Nat) (s : List (Nat × Nat)) : Prop := ∀ p ∈ s, (p.1 < n ∧ p.2 < n ∧ p.1 ≠ p.2) ∧ ixo l p.1 < ixo l p.2
theorem RA.nodup_len {n : Nat} {l : List Nat} {s : List (Nat × Nat)} (h : RA n l s) (nd : s.Nodup) : s.length ≤ n * n := by
  have hp : ((List.range n).flatMap fun a => (List.range n).map fun b => (a, b)).length ≤ n * n := by
    have := flatMap_len (xs := List.range n) (f := fun a => (List.range n).map fun b => (a, b)) (N := n) fun x _ => by rw [List.length_map, List.length_range]; omega
    rw [List.length_range] at this; exact this
  refine Nat.le_trans ?_ hp
  exact nodup_lenA nd fun q hq => List.mem_flatMap.mpr ⟨q.1, List.mem_range.mpr (h q hq).1.1, List.mem_map.mpr ⟨q.2, List.mem_range.mpr (h q hq).1.2.1, rfl⟩⟩
theorem RA.snoc {n : Nat} {l : List Nat} {s : List (Nat × Nat)} (h : RA n l s) {p : Nat × Nat} (hp : (p.1 < n ∧ p.2 < n ∧ p.1 ≠ p.2) ∧ ixo l p.1 < ixo l p.2) : RA n l (s ++ [p]) := fun q hq => by
  rcases List.mem_append.mp hq with hq | hq
  · exact h q hq
  · rw [List.mem_singleton.mp hq]; exact hp
end PL
namespace PL
open PySem PySem.Spec PyProof.Rows L2
open En
def f_law_geometry_s1 (lines : (List (List Nat))) (row : (List Nat)) (s3 : Bool) (thing : Nat) : Bool :=
  (if (!(decide (thing ∈ row))) = true then (if (decide ((lines.filter fun (line : (List Nat)) => (decide ((row.countP fun (one : Nat) => (decide ((ixo line one) < (ixo line thing)))) = 0))).length = 0)) = true then true else s3) else s3)
def f_law_geometry_p2 (lines : (List (List Nat))) (row : (List Nat)) (s3 : Bool) (thing : Nat) : Prop :=
  ((!(decide (thing ∈ row))) = true → ((∀ line ∈ lines, ((∀ one ∈ row, ((one ∈ line) ∧ (thing ∈ line)))))))
def f_law_geometry_3 (row : (List Nat)) (s2 : (List (List Nat))) (bad : Bool) : (List (List Nat)) :=
  (if (!bad) = true then (s2 ++ [row]) else s2)
def pre_f_law_geometry_3 (row : (List Nat)) (s2 : (List (List Nat))) (bad : Bool) : Prop :=
  ((!bad) = true → ((s2.length < sizeLine)))
def ir_f_law_geometry_3 : IS :=
(.seq (.ifs (.not (.tst (.bor 6)))
 (.seq (.app 4 (.var 5))
  .skip)
 .skip)
  .skip)
theorem bl_f_law_geometry_3 {C : PC} {dn : Nat} (z3 : Nat → SV) (n2 : Nat) (lines : (List (List Nat))) (row : (List Nat)) (s2 : (List (List Nat))) (z3 : (Nat → SV)) (bad : Bool) (hp : pre_f_law_geometry_3 row s2 bad) : Bl C (⟨dn, [], fun s2 z2 => [.val .pool, .val (enc n2), .own (lines.map enc), .no, .own (s2.map enc), z2 5, z2 6, z2 7, z2 8, .no, .no], fun _ => .val .non⟩ : Bk (List (List Nat)) Unit) ir_f_law_geometry_3 ⟨[.val .pool, .val (enc n2), .own (lines.map enc), .no, .own (s2.map enc), .val (enc row), .val (enc bad), z3 7, z3 8, .no, .no], dn⟩ (.go (f_law_geometry_3 row s2 bad)) :=
  (bl_if Tn2.go (ev_not (ev_tst (ev_bor rfl) g_trB)) (fun h18 => (bl_as (bl_app (evk (ev_var rfl) kp_val) rfl rfl (hp h18) (bl_sk (bl_go (s := (s2 ++ [row])) (zl [.no, .no, .no, .no, .no, .val (enc row), .val (enc bad), z3 7, z3 8]) rfl (by exact trivial)))))) (fun h18 => (bl_sk (bl_go (s := s2) (zl [.no, .no, .no, .no, .no, .val (enc row), .val (enc bad), z3 7, z3 8]) rfl (by exact trivial)))))
def f_law_geometry_s4 (n2 : Nat) (lines : (List (List Nat))) (s2 : (List (List Nat))) (row : (List Nat)) : (List (List Nat)) :=
  (f_law_geometry_3 row s2 ((List.range n2).foldl (f_law_geometry_s1 lines row) false))
def f_law_geometry_p5 (n2 : Nat) (lines : (List (List Nat))) (s2 : (List (List Nat))) (row : (List Nat)) : Prop :=
  (n2 ≤ 16777216) ∧ (foldP (f_law_geometry_p2 lines row) (f_law_geometry_s1 lines row) (List.range n2) false) ∧ (pre_f_law_geometry_3 row s2 ((List.range n2).foldl (f_law_geometry_s1 lines row) false))
def f_law_geometry (n2 : Nat) : M (List (List Nat)) :=
  (((((M.draw 4).bind fun (w : Nat) => M.req (True) (M.pure ((1 + w) : Nat))).bind fun (v : Nat) => M.req (v ≤ 16777216) (M.pure (List.range v))).bind fun (xs : (List Nat)) => (M.comp (fun (k : Nat) => (M.pure true)) (fun (k : Nat) => (f_law_line n2)) xs)).bind fun (lines : (List (List Nat))) => (M.req ((pre_f_law_sets n2) ∧ (foldP (f_law_geometry_p5 n2 lines) (f_law_geometry_s4 n2 lines) (f_law_sets n2) ([] : List (List Nat)))) (M.pure ((f_law_sets n2).foldl (f_law_geometry_s4 n2 lines) ([] : List (List Nat))))))
def nm_f_law_geometry : List Str := ["pool", "n", "lines", "k", "found", "row", "bad", "thing", "better", "line", "one"]
def ir_f_law_geometry : IS :=
(.seq (.asg (.nm 2) (.comp [3] (.nm 3) (.itR1 (.bin .add (.cst (.int 1)) (.call 50 (.acons (.var 0) (.acons (.cst (.int 4)) .anil))))) (.cst (.bl true)) (.call 22020 (.acons (.var 0) (.acons (.var 1) .anil)))))
  (.seq (.asg (.nm 4) (.lst .anil))
  (.seq (.fr (.nm 5) (.itSeq (.call 23620 (.acons (.var 1) .anil)))
 (.seq (.asg (.nm 6) (.cst (.bl false)))
  (.seq (.fr (.nm 7) (.itR1 (.bor 1))
 (.seq (.ifs (.cmp .notin (.bor 7) (.bor 5))
 (.seq (.asg (.nm 8) (.comp [9] (.nm 9) (.itSeq (.bor 2)) (.cmp .eq (.blt .len (.acons (.comp [10] (.nm 10) (.itSeq (.bor 5)) (.cmp .lt (.mth .index (.bor 9) (.acons (.bor 10) .anil)) (.mth .index (.bor 9) (.acons (.bor 7) .anil))) (.var 10)) .anil)) (.cst (.int 0))) (.var 9)))
  (.seq (.ifs (.cmp .eq (.blt .len (.acons (.bor 8) .anil)) (.cst (.int 0)))
 (.seq (.asg (.nm 6) (.cst (.bl true)))
  .skip)
 .skip)
  .skip))
 .skip)
  .skip))
  (.seq (.ifs (.not (.tst (.bor 6)))
 (.seq (.app 4 (.var 5))
  .skip)
 .skip)
  .skip))))
  (.seq (.ret (.blt .tuple (.acons (.bor 4) .anil)))
  .skip))))
def fs_f_law_geometry : List (Nat × Str) := [(50, "_law_draw"), (22020, "_law_line"), (23620, "_law_sets")]
def cs_f_law_geometry : List (Str × D) := []
theorem bm_f_law_geometry {C : PC} (h_draw : C.sp 50 = sp_draw) (h_f_law_line : C.sp 22020 = sp_f_law_line) (h_f_law_sets : C.sp 23620 = sp_f_law_sets) (n2 : Nat) : BlM C (⟨[], fun _ _ => [], fun x => .val (enc x)⟩ : Bm Unit (List (List Nat))) ir_f_law_geometry [.val .pool, .val (enc n2), .no, .no, .no, .no, .no, .no, .no, .no, .no] Tn2.out (f_law_geometry n2) :=
  (bm_asgM (w := (fun (x : (List (List Nat))) => .own (x.map enc))) (em_comp (f := fun (xs : (List Nat)) => xs) (fun (k : Nat) => (M.pure true)) (fun (k : Nat) => (f_law_line n2)) (wg := (fun (x : (List Nat)) => .val (enc x))) (fun (k : Nat) => [.val .pool, .val (enc n2), .no, .val (enc k), .no, .no, .no, .no, .no, .no, .no]) (fun dn => rfl) (im_R1 (k := fun (v : Nat) => v) (em_bin2 (w := (fun (x : Nat) => .val (enc x))) (g := (fun (w : Nat) => (1 + w))) (fun (w : Nat) => True) (fun dn => (ev_cN 1 rfl)) (em_draw h_draw (fun dn => (ev_var rfl)) (fun dn => (ev_cN 4 rfl))) (fun (w : Nat) h1 => g_addN))) (fun _ k h2 _ => tg_nm) (fun _ _ => rfl) (fun _ _ => rfl) (fun _ k h2 => (em_val (w := (fun (x : Bool) => .val (enc x))) (a := true) (fun dn => (ev_cB true)))) (fun _ => kp_val) (fun _ k h2 => (em_callP (w := (fun (x : (List Nat)) => .val (enc x))) h_f_law_line (fun dn => (eva_F (ev_var rfl) kp_val (eva_F (ev_var rfl) kp_val eva_nil))) (vm_f_law_line n2)))) (fun _ => sl_own) (fun (lines : (List (List Nat))) => (bm_req fun h19 => (bm_pure (fun dn => (bl_asg (ev_lstL ([] : List (List Nat)) eva_nil rfl rfl) sl_own (bl_for (⟨dn, [], fun s2 z2 => [.val .pool, .val (enc n2), .own (lines.map enc), .no, .own (s2.map enc), z2 5, z2 6, z2 7, z2 8, .no, .no], fun _ => .val .non⟩ : Bk (List (List Nat)) Unit) (step := (f_law_geometry_s4 n2 lines)) (f_law_geometry_p5 n2 lines) (s0 := ([] : List (List Nat))) rfl (i_Lo (ev_call h_f_law_sets (eva_F (ev_var rfl) kp_val eva_nil) (vl_f_law_sets n2 h19.1))) (zl [.no, .no, .no, .no, .no, .no, .no, .no, .no]) rfl (by exact trivial) h19.2 (fun row h5 s2 z2 h6 h7 => ⟨_, tg_nm, (bl_asg (ev_cB false) sl_val (bl_for (⟨dn, [], fun s3 z3 => [.val .pool, .val (enc n2), .own (lines.map enc), .no, .own (s2.map enc), .val (enc row), .val (enc s3), z3 7, z3 8, .no, .no], fun _ => .val .non⟩ : Bk Bool Unit) (step := (f_law_geometry_s1 lines row)) (f_law_geometry_p2 lines row) (s0 := false) rfl (i_R1 (ev_bor rfl) h6.1) (zl [.no, .no, .no, .no, .no, .no, .no, z2 7, z2 8]) rfl (by exact trivial) h6.2.1 (fun thing h8 s3 z3 h9 h10 => ⟨_, tg_nm, (bl_if Tn2.go (ev_cmp (ev_bor rfl) (ev_bor rfl) g_ninT) (fun h11 => (bl_as (bl_asg (g_compF (fun (line : (List Nat)) => (decide ((row.countP fun (one : Nat) => (decide ((ixo line one) < (ixo line thing)))) = 0))) (fun (line : (List Nat)) => ⟨[.val .pool, .val (enc n2), .own (lines.map enc), .no, .own (s2.map enc), .val (enc row), .val (enc s3), .val (enc thing), z3 8, .val (enc line), .no], dn⟩) rfl (i_Lb (ev_borO rfl)) (fun line h12 => tg_nm) (fun _ => rfl) rfl (fun line h12 => (ev_cmp (ev_blt (eva_T (g_compF (fun (one : Nat) => (decide ((ixo line one) < (ixo line thing)))) (fun (one : Nat) => ⟨[.val .pool, .val (enc n2), .own (lines.map enc), .no, .own (s2.map enc), .val (enc row), .val (enc s3), .val (enc thing), z3 8, .val (enc line), .val (enc one)], dn⟩) rfl (i_T (ev_bor rfl)) (fun one h13 => tg_nm) (fun _ => rfl) rfl (fun one h13 => (ev_cmp (ev_mth (ev_bor rfl) (eva_T (ev_bor rfl) rfl eva_nil) (g_ixoT (((h9 h11) line h12) one h13).1)) (ev_mth (ev_bor rfl) (eva_T (ev_bor rfl) rfl eva_nil) (g_ixoT (((h9 h11) line h12) one h13).2)) g_ltN)) (fun one h13 h14 => evk (ev_var rfl) kp_val)) rfl eva_nil) g_lenF0) (ev_cN 0 rfl) g_eq)) (fun line h12 h15 => evk (ev_var rfl) kp_val)) sl_own (bl_as (bl_join (τ := Bool) (⟨dn, [], fun s4 z4 => [.val .pool, .val (enc n2), .own (lines.map enc), .no, .own (s2.map enc), .val (enc row), .val (enc s4), .val (enc thing), .own (((lines.filter fun (line : (List Nat)) => (decide ((row.countP fun (one : Nat) => (decide ((ixo line one) < (ixo line thing)))) = 0))) : (List (List Nat))).map enc), .no, .no], fun _ => .val .non⟩ : Bk Bool Unit) rfl rfl rfl (ev_cmp (ev_blt (eva_T (ev_borO rfl) rfl eva_nil) g_lenL) (ev_cN 0 rfl) g_eq) (fun h16 => (bl_asg (ev_cB true) sl_val (bl_go (s := true) (fun _ => .no) rfl (by exact trivial)))) (fun h16 => (bl_go (s := s3) (fun _ => .no) rfl (by exact trivial))) (fun z4 h17 => (bl_sk (bl_go (s := (if (decide ((lines.filter fun (line : (List Nat)) => (decide ((row.countP fun (one : Nat) => (decide ((ixo line one) < (ixo line thing)))) = 0))).length = 0)) = true then true else s3)) (zl [.no, .no, .no, .no, .no, .no, .no, .val (enc thing), .own (((lines.filter fun (line : (List Nat)) => (decide ((row.countP fun (one : Nat) => (decide ((ixo line one) < (ixo line thing)))) = 0))) : (List (List Nat))).map enc)]) rfl (by exact trivial))))))))) (fun h11 => (bl_sk (bl_go (s := s3) (zl [.no, .no, .no, .no, .no, .no, .no, .val (enc thing), z3 8]) rfl (by exact trivial)))))⟩) (fun z3 h10 => (by exact bl_f_law_geometry_3 z3 n2 lines row s2 z3 ((List.range n2).foldl (f_law_geometry_s1 lines row) false) h6.2.2))))⟩) (fun z2 h7 => (bl_ret (x := (((f_law_sets n2).foldl (f_law_geometry_s4 n2 lines) ([] : List (List Nat))) : (List (List Nat)))) (ev_blt (eva_T (ev_borO rfl) rfl eva_nil) g_tupL) rfl)))))))))
@[irreducible] def sp_f_law_geometry : Spec := fun ds dr Q _ => ∃ (n2 : Nat), ds = [.pool, enc n2] ∧ (f_law_geometry n2).run dr fun x d => Q (.val (enc x)) d
theorem vm_f_law_geometry (n2 : Nat) : ∀ dr (Q : RV → Nat → Prop) xe, (f_law_geometry n2).run dr (fun x d => Q (.val (enc x)) d) → sp_f_law_geometry [.pool, enc n2] dr Q xe := fun dr Q xe q => by unfold sp_f_law_geometry; exact ⟨n2, rfl, q⟩
theorem wp_f_law_geometry (sp : Nat → Spec) (xe : Nat → Nat → Prop) (h_draw : sp 50 = sp_draw) (h_f_law_line : sp 22020 = sp_f_law_line) (h_f_law_sets : sp 23620 = sp_f_law_sets) : ∀ ds dr Q, sp_f_law_geometry ds dr Q (fun _ _ => False) → wpF ⟨sp, xe⟩ nm_f_law_geometry.length ir_f_law_geometry ds dr Q := by
  intro ds dr Q h
  unfold sp_f_law_geometry at h
  obtain ⟨n2, rfl, hq⟩ := h
  exact wpF_bm (bm_f_law_geometry (C := ⟨sp, xe⟩) h_draw h_f_law_line h_f_law_sets n2) hq
end PL
namespace PL
open PySem PySem.Spec PyProof.Rows L2
open En
def f_is_family (things : Nat) (value : V) : Bool :=
  (if ((!(V.is .tuple value)) || (!((V.els value).all fun (row : V) => (f_are_numbers row ((0 : Int) : Int) ((((things : Nat) : Int) - (1 : Int)) : Int))))) = true then false else (f_is_ascending value))
def pre_f_is_family (things : Nat) (value : V) : Prop :=
  ((!(V.is .tuple value)) = false → ((V.sq value = true) ∧ (∀ row ∈ (V.els value), ((pre_f_are_numbers row ((0 : Int) : Int) ((((things : Nat) : Int) - (1 : Int)) : Int)))))) ∧ (((!(V.is .tuple value)) || (!((V.els value).all fun (row : V) => (f_are_numbers row ((0 : Int) : Int) ((((things : Nat) : Int) - (1 : Int)) : Int))))) = false → ((pre_f_is_ascending value)))
@[irreducible] def sp_f_is_family : Spec := fun ds dr Q _ => ∃ (things : Nat) (value : V), ds = [enc things, enc value] ∧ pre_f_is_family things value ∧ Q (.val (enc (f_is_family things value))) dr
end PL
namespace PL
open PySem PySem.Spec PyProof.Rows L2
open En
def f_law_is_family (n2 : Nat) (x : V) : Bool :=
  (if (!(V.is .tuple x)) = true then false else (if ((V.els x).any fun row => (!(f_law_set row ((0 : Int) : Int) ((((n2 : Nat) : Int) - (1 : Int)) : Int)))) = true then false else (f_law_up x)))
def pre_f_law_is_family (n2 : Nat) (x : V) : Prop :=
  ((!(V.is .tuple x)) = false → ((V.sq x = true) ∧ (∀ row ∈ (V.els x), ((pre_f_law_set row ((0 : Int) : Int) ((((n2 : Nat) : Int) - (1 : Int)) : Int)))) ∧ (((V.els x).any fun row => (!(f_law_set row ((0 : Int) : Int) ((((n2 : Nat) : Int) - (1 : Int)) : Int)))) = false → ((pre_f_law_up x)))))
@[irreducible] def sp_f_law_is_family : Spec := fun ds dr Q _ => ∃ (n2 : Nat) (x : V), ds = [enc n2, enc x] ∧ pre_f_law_is_family n2 x ∧ Q (.val (enc (f_law_is_family n2 x))) dr
end PL
namespace PL
open PySem PySem.Spec PyProof.Rows L2
open En
def f_whole (things : Nat) : (List Nat) :=
  (List.range things)
def pre_f_whole (things : Nat) : Prop :=
  (things ≤ 16777216)
@[irreducible] def sp_f_whole : Spec := fun ds dr Q _ => ∃ (things : Nat), ds = [enc things] ∧ pre_f_whole things ∧ Q (.val (enc (f_whole things))) dr
end PL
namespace PL
open PySem PySem.Spec PyProof.Rows L2
open En
def f_shared (one : (List Nat)) (two : (List Nat)) : (List Nat) :=
  (one.filter fun (thing : Nat) => (decide (thing ∈ two)))
@[irreducible] def sp_f_shared : Spec := fun ds dr Q _ => ∃ (one : (List Nat)) (two : (List Nat)), ds = [enc one, enc two] ∧ Q (.val (enc (f_shared one two))) dr
end PL
namespace PL
open PySem PySem.Spec PyProof.Rows L2
open En
def f_next_closed (family : (List (List Nat))) (row : (List Nat)) : (List (List Nat)) :=
  (family.filter fun (other : (List Nat)) => ((decide (other.length = (row.length + 1))) && (f_is_within row other)))
@[irreducible] def sp_f_next_closed : Spec := fun ds dr Q _ => ∃ (family : (List (List Nat))) (row : (List Nat)), ds = [enc family, enc row] ∧ Q (.own ((f_next_closed family row).map enc)) dr
end PL
namespace PL
open PySem PySem.Spec PyProof.Rows L2
open En
def f_geometry_paper_o1 (family : (List (List Nat))) (row : (List Nat)) : (Option V) :=
  (if (!(decide (row ∈ family))) = true then (some (toV ((t_misses, row) : (Tx × (List Nat))) (kle rfl))) else none)
def f_geometry_paper_o2 (family : (List (List Nat))) (one : (List Nat)) (two : (List Nat)) : (Option V) :=
  (if (!(decide ((f_shared one two) ∈ family))) = true then (some (toV ((P3.mk t_parts one two) : (P3 Tx (List Nat) (List Nat))) (kle rfl))) else none)
def f_geometry_paper_o3 (family : (List (List Nat))) (one : (List Nat)) : (Option V) :=
  (fsE some none (family.findSome? (f_geometry_paper_o2 family one)))
def f_geometry_paper_o4 (things : Nat) (family : (List (List Nat))) (row2 : (List Nat)) : (Option V) :=
  (if ((decide (row2.length < things)) && (decide ((f_next_closed family row2).length = 0))) = true then (some (toV ((t_stuck, row2) : (Tx × (List Nat))) (kle rfl))) else none)
def f_geometry_paper (things : Nat) (family : (List (List Nat))) : V :=
  (([[], (f_whole things)].findSome? (f_geometry_paper_o1 family)).getD ((family.findSome? (f_geometry_paper_o3 family)).getD ((family.findSome? (f_geometry_paper_o4 things family)).getD (toV ([t_geometry] : (List Tx)) (kle rfl)))))
def pre_f_geometry_paper (things : Nat) (family : (List (List Nat))) : Prop :=
  (pre_f_whole things)
@[irreducible] def sp_f_geometry_paper : Spec := fun ds dr Q _ => ∃ (things : Nat) (family : (List (List Nat))), ds = [enc things, enc family] ∧ pre_f_geometry_paper things family ∧ Q (.val (enc (f_geometry_paper things family))) dr
end PL
namespace PL
open PySem PySem.Spec PyProof.Rows L2
open En
def f_law_both (one : (List Nat)) (two : (List Nat)) : (List Nat) :=
  (one.filter fun (thing : Nat) => (decide (thing ∈ two)))
@[irreducible] def sp_f_law_both : Spec := fun ds dr Q _ => ∃ (one : (List Nat)) (two : (List Nat)), ds = [enc one, enc two] ∧ Q (.val (enc (f_law_both one two))) dr
end PL
namespace PL
open PySem PySem.Spec PyProof.Rows L2
open En
def f_law_next (family : (List (List Nat))) (row : (List Nat)) : (List (List Nat)) :=
  (family.filter fun (other : (List Nat)) => ((decide (other.length = (row.length + 1))) && (f_law_in row other)))
@[irreducible] def sp_f_law_next : Spec := fun ds dr Q _ => ∃ (family : (List (List Nat))) (row : (List Nat)), ds = [enc family, enc row] ∧ Q (.own ((f_law_next family row).map enc)) dr
end PL
namespace PL
open PySem PySem.Spec PyProof.Rows L2
open En
def f_law_is_geometry_o1 (n2 : Nat) (family : (List (List Nat))) (one : (List Nat)) : (Option Bool) :=
  (if (family.any fun two => (!(decide ((f_law_both one two) ∈ family)))) = true then (some false) else (if ((decide (one.length < n2)) && (decide ((f_law_next family one).length = 0))) = true then (some false) else none))
def f_law_is_geometry (n2 : Nat) (family : (List (List Nat))) : Bool :=
  (if ((!(decide ([] ∈ family))) || (!(decide ((List.range n2) ∈ family)))) = true then false else ((family.findSome? (f_law_is_geometry_o1 n2 family)).getD true))
def pre_f_law_is_geometry (n2 : Nat) (family : (List (List Nat))) : Prop :=
  ((!(decide ([] ∈ family))) = false → ((n2 ≤ 16777216)))
@[irreducible] def sp_f_law_is_geometry : Spec := fun ds dr Q _ => ∃ (n2 : Nat) (family : (List (List Nat))), ds = [enc n2, enc family] ∧ pre_f_law_is_geometry n2 family ∧ Q (.val (enc (f_law_is_geometry n2 family))) dr
end PL
namespace PL
open PySem PySem.Spec PyProof.Rows L2
open En
def f_law_next_2 (family : (List (List Nat))) (row : V) : (List (List Nat)) :=
  (family.filter fun (other : (List Nat)) => ((decide (other.length = ((V.len row) + 1))) && (f_law_in ((V.as (List Nat) row) : (List Nat)) other)))
def pre_f_law_next_2 (family : (List (List Nat))) (row : V) : Prop :=
  (∀ other ∈ family, ((V.sq row = true) ∧ ((decide (other.length = ((V.len row) + 1))) = true → ((V.isA (List Nat) row)))))
@[irreducible] def sp_f_law_next_2 : Spec := fun ds dr Q _ => ∃ (family : (List (List Nat))) (row : V), ds = [enc family, enc row] ∧ pre_f_law_next_2 family row ∧ Q (.own ((f_law_next_2 family row).map enc)) dr
end PL
namespace PL
open PySem PySem.Spec PyProof.Rows L2
open En
def f_law_geo_right (n2 : Nat) (family : (List (List Nat))) (x : V) : Bool :=
  (if (f_law_tag x t_geometry (1 : Nat)) = true then (f_law_is_geometry n2 family) else (if (f_law_tag x t_misses (2 : Nat)) = true then ((f_law_set ((V.nth x 1) : V) ((0 : Int) : Int) ((((n2 : Nat) : Int) - (1 : Int)) : Int)) && ((decide ((V.len (V.nth x 1)) ∈ [0, n2])) && (!(vin family ((V.nth x 1) : V))))) else (if (f_law_tag x t_parts (3 : Nat)) = true then (if ((!(f_law_set ((V.nth x 1) : V) ((0 : Int) : Int) ((((n2 : Nat) : Int) - (1 : Int)) : Int))) || ((!(f_law_set ((V.nth x 2) : V) ((0 : Int) : Int) ((((n2 : Nat) : Int) - (1 : Int)) : Int))) || ((!(vin family ((V.nth x 1) : V))) || (!(vin family ((V.nth x 2) : V)))))) = true then false else (!(decide ((f_law_both ((V.as (List Nat) (V.nth x 1)) : (List Nat)) ((V.as (List Nat) (V.nth x 2)) : (List Nat))) ∈ family)))) else (if ((!(f_law_tag x t_stuck (2 : Nat))) || ((!(f_law_set ((V.nth x 1) : V) ((0 : Int) : Int) ((((n2 : Nat) : Int) - (1 : Int)) : Int))) || (!(vin family ((V.nth x 1) : V))))) = true then false else ((decide ((V.len (V.nth x 1)) < n2)) && (decide ((f_law_next_2 family ((V.nth x 1) : V)).length = 0)))))))
def pre_f_law_geo_right (n2 : Nat) (family : (List (List Nat))) (x : V) : Prop :=
  (pre_f_law_tag x t_geometry (1 : Nat)) ∧ ((f_law_tag x t_geometry (1 : Nat)) = true → ((pre_f_law_is_geometry n2 family))) ∧ ((f_law_tag x t_geometry (1 : Nat)) = false → ((pre_f_law_tag x t_misses (2 : Nat)) ∧ ((f_law_tag x t_misses (2 : Nat)) = true → ((V.sq x = true ∧ 1 < V.len x) ∧ (pre_f_law_set ((V.nth x 1) : V) ((0 : Int) : Int) ((((n2 : Nat) : Int) - (1 : Int)) : Int)) ∧ ((f_law_set ((V.nth x 1) : V) ((0 : Int) : Int) ((((n2 : Nat) : Int) - (1 : Int)) : Int)) = true → ((V.sq x = true ∧ 1 < V.len x) ∧ (V.sq (V.nth x 1) = true) ∧ ((decide ((V.len (V.nth x 1)) ∈ [0, n2])) = true → ((V.sq x = true ∧ 1 < V.len x))))))) ∧ ((f_law_tag x t_misses (2 : Nat)) = false → ((pre_f_law_tag x t_parts (3 : Nat)) ∧ ((f_law_tag x t_parts (3 : Nat)) = true → ((V.sq x = true ∧ 1 < V.len x) ∧ (pre_f_law_set ((V.nth x 1) : V) ((0 : Int) : Int) ((((n2 : Nat) : Int) - (1 : Int)) : Int)) ∧ ((!(f_law_set ((V.nth x 1) : V) ((0 : Int) : Int) ((((n2 : Nat) : Int) - (1 : Int)) : Int))) = false → ((V.sq x = true ∧ 2 < V.len x) ∧ (pre_f_law_set ((V.nth x 2) : V) ((0 : Int) : Int) ((((n2 : Nat) : Int) - (1 : Int)) : Int)) ∧ ((!(f_law_set ((V.nth x 2) : V) ((0 : Int) : Int) ((((n2 : Nat) : Int) - (1 : Int)) : Int))) = false → ((V.sq x = true ∧ 1 < V.len x) ∧ ((!(vin family ((V.nth x 1) : V))) = false → ((V.sq x = true ∧ 2 < V.len x))))))) ∧ (((!(f_law_set ((V.nth x 1) : V) ((0 : Int) : Int) ((((n2 : Nat) : Int) - (1 : Int)) : Int))) || ((!(f_law_set ((V.nth x 2) : V) ((0 : Int) : Int) ((((n2 : Nat) : Int) - (1 : Int)) : Int))) || ((!(vin family ((V.nth x 1) : V))) || (!(vin family ((V.nth x 2) : V)))))) = false → ((V.sq x = true ∧ 1 < V.len x) ∧ (V.sq x = true ∧ 2 < V.len x) ∧ (V.isA (List Nat) (V.nth x 1)) ∧ (V.isA (List Nat) (V.nth x 2)))))) ∧ ((f_law_tag x t_parts (3 : Nat)) = false → ((pre_f_law_tag x t_stuck (2 : Nat)) ∧ ((!(f_law_tag x t_stuck (2 : Nat))) = false → ((V.sq x = true ∧ 1 < V.len x) ∧ (pre_f_law_set ((V.nth x 1) : V) ((0 : Int) : Int) ((((n2 : Nat) : Int) - (1 : Int)) : Int)) ∧ ((!(f_law_set ((V.nth x 1) : V) ((0 : Int) : Int) ((((n2 : Nat) : Int) - (1 : Int)) : Int))) = false → ((V.sq x = true ∧ 1 < V.len x))))) ∧ (((!(f_law_tag x t_stuck (2 : Nat))) || ((!(f_law_set ((V.nth x 1) : V) ((0 : Int) : Int) ((((n2 : Nat) : Int) - (1 : Int)) : Int))) || (!(vin family ((V.nth x 1) : V))))) = false → ((V.sq x = true ∧ 1 < V.len x) ∧ (V.sq (V.nth x 1) = true) ∧ ((decide ((V.len (V.nth x 1)) < n2)) = true → ((V.sq x = true ∧ 1 < V.len x) ∧ (pre_f_law_next_2 family ((V.nth x 1) : V))))))))))))
@[irreducible] def sp_f_law_geo_right : Spec := fun ds dr Q _ => ∃ (n2 : Nat) (family : (List (List Nat))) (x : V), ds = [enc n2, enc family, enc x] ∧ pre_f_law_geo_right n2 family x ∧ Q (.val (enc (f_law_geo_right n2 family x))) dr
end PL
namespace PL
open PySem PySem.Spec PyProof.Rows L2
open En
def f_is_geometry (things : Nat) (family : (List (List Nat))) : Bool :=
  (veq ((f_geometry_paper things family) : V) ([t_geometry] : (List Tx)))
def pre_f_is_geometry (things : Nat) (family : (List (List Nat))) : Prop :=
  (pre_f_geometry_paper things family)
@[irreducible] def sp_f_is_geometry : Spec := fun ds dr Q _ => ∃ (things : Nat) (family : (List (List Nat))), ds = [enc things, enc family] ∧ pre_f_is_geometry things family ∧ Q (.val (enc (f_is_geometry things family))) dr
end PL
namespace PL
open PySem PySem.Spec PyProof.Rows L2
open En
def f_next_closed_2 (family : (List (List Nat))) (row : V) : (List (List Nat)) :=
  (family.filter fun (other : (List Nat)) => ((decide (other.length = ((V.len row) + 1))) && (f_is_within ((V.as (List Nat) row) : (List Nat)) other)))
def pre_f_next_closed_2 (family : (List (List Nat))) (row : V) : Prop :=
  (∀ other ∈ family, ((V.sq row = true) ∧ ((decide (other.length = ((V.len row) + 1))) = true → ((V.isA (List Nat) row)))))
@[irreducible] def sp_f_next_closed_2 : Spec := fun ds dr Q _ => ∃ (family : (List (List Nat))) (row : V), ds = [enc family, enc row] ∧ pre_f_next_closed_2 family row ∧ Q (.own ((f_next_closed_2 family row).map enc)) dr
end PL
namespace PL
open PySem PySem.Spec PyProof.Rows L2
open En
def f_check_geometry (things : Nat) (family : (List (List Nat))) (value : V) : Bool :=
  (if (f_is_tagged value t_geometry (1 : Nat)) = true then (veq ((f_geometry_paper things family) : V) ([t_geometry] : (List Tx))) else (if (f_is_tagged value t_misses (2 : Nat)) = true then ((f_are_numbers ((V.nth value 1) : V) ((0 : Int) : Int) ((((things : Nat) : Int) - (1 : Int)) : Int)) && ((decide ((V.len (V.nth value 1)) ∈ [0, things])) && (!(vin family ((V.nth value 1) : V))))) else (if (f_is_tagged value t_parts (3 : Nat)) = true then (if (!((V.els (V.cut value (some (1 : Int)) none)).all fun (row : V) => ((f_are_numbers row ((0 : Int) : Int) ((((things : Nat) : Int) - (1 : Int)) : Int)) && (vin family row)))) = true then false else (!(decide ((f_shared ((V.as (List Nat) (V.nth value 1)) : (List Nat)) ((V.as (List Nat) (V.nth value 2)) : (List Nat))) ∈ family)))) else (if ((!(f_is_tagged value t_stuck (2 : Nat))) || ((!(f_are_numbers ((V.nth value 1) : V) ((0 : Int) : Int) ((((things : Nat) : Int) - (1 : Int)) : Int))) || (!(vin family ((V.nth value 1) : V))))) = true then false else ((decide ((V.len (V.nth value 1)) < things)) && (decide ((f_next_closed_2 family ((V.nth value 1) : V)).length = 0)))))))
def pre_f_check_geometry (things : Nat) (family : (List (List Nat))) (value : V) : Prop :=
  (pre_f_is_tagged value t_geometry (1 : Nat)) ∧ ((f_is_tagged value t_geometry (1 : Nat)) = true → ((pre_f_geometry_paper things family))) ∧ ((f_is_tagged value t_geometry (1 : Nat)) = false → ((pre_f_is_tagged value t_misses (2 : Nat)) ∧ ((f_is_tagged value t_misses (2 : Nat)) = true → ((V.sq value = true ∧ 1 < V.len value) ∧ (pre_f_are_numbers ((V.nth value 1) : V) ((0 : Int) : Int) ((((things : Nat) : Int) - (1 : Int)) : Int)) ∧ ((f_are_numbers ((V.nth value 1) : V) ((0 : Int) : Int) ((((things : Nat) : Int) - (1 : Int)) : Int)) = true → ((V.sq value = true ∧ 1 < V.len value) ∧ (V.sq (V.nth value 1) = true) ∧ ((decide ((V.len (V.nth value 1)) ∈ [0, things])) = true → ((V.sq value = true ∧ 1 < V.len value))))))) ∧ ((f_is_tagged value t_misses (2 : Nat)) = false → ((pre_f_is_tagged value t_parts (3 : Nat)) ∧ ((f_is_tagged value t_parts (3 : Nat)) = true → ((V.is .tuple value = true) ∧ (V.sq (V.cut value (some (1 : Int)) none) = true) ∧ (∀ row ∈ (V.els (V.cut value (some (1 : Int)) none)), ((pre_f_are_numbers row ((0 : Int) : Int) ((((things : Nat) : Int) - (1 : Int)) : Int)))) ∧ ((!((V.els (V.cut value (some (1 : Int)) none)).all fun (row : V) => ((f_are_numbers row ((0 : Int) : Int) ((((things : Nat) : Int) - (1 : Int)) : Int)) && (vin family row)))) = false → ((V.sq value = true ∧ 1 < V.len value) ∧ (V.sq value = true ∧ 2 < V.len value) ∧ (V.isA (List Nat) (V.nth value 1)) ∧ (V.isA (List Nat) (V.nth value 2)))))) ∧ ((f_is_tagged value t_parts (3 : Nat)) = false → ((pre_f_is_tagged value t_stuck (2 : Nat)) ∧ ((!(f_is_tagged value t_stuck (2 : Nat))) = false → ((V.sq value = true ∧ 1 < V.len value) ∧ (pre_f_are_numbers ((V.nth value 1) : V) ((0 : Int) : Int) ((((things : Nat) : Int) - (1 : Int)) : Int)) ∧ ((!(f_are_numbers ((V.nth value 1) : V) ((0 : Int) : Int) ((((things : Nat) : Int) - (1 : Int)) : Int))) = false → ((V.sq value = true ∧ 1 < V.len value))))) ∧ (((!(f_is_tagged value t_stuck (2 : Nat))) || ((!(f_are_numbers ((V.nth value 1) : V) ((0 : Int) : Int) ((((things : Nat) : Int) - (1 : Int)) : Int))) || (!(vin family ((V.nth value 1) : V))))) = false → ((V.sq value = true ∧ 1 < V.len value) ∧ (V.sq (V.nth value 1) = true) ∧ ((decide ((V.len (V.nth value 1)) < things)) = true → ((V.sq value = true ∧ 1 < V.len value) ∧ (pre_f_next_closed_2 family ((V.nth value 1) : V))))))))))))
@[irreducible] def sp_f_check_geometry : Spec := fun ds dr Q _ => ∃ (things : Nat) (family : (List (List Nat))) (value : V), ds = [enc things, enc family, enc value] ∧ pre_f_check_geometry things family value ∧ Q (.val (enc (f_check_geometry things family value))) dr
end PL
namespace PL
open PySem PySem.Spec PyProof.Rows L2
open En
end PL
namespace PL
open PySem PySem.Spec PyProof.Rows L2
open En
inductive GeoP (n : Nat) (fam : List (List Nat)) : V → Prop where
  | miss {r : List Nat} : r = [] ∨ r = List.range n → r ∉ fam → GeoP n fam (toV ((t_misses, r) : Tx × List Nat))
  | parts {a b : List Nat} : a ∈ fam → b ∈ fam → f_law_both a b ∉ fam → GeoP n fam (toV ((P3.mk t_parts a b) : P3 Tx (List Nat) (List Nat)))
  | stuck {r : List Nat} : r ∈ fam → r.length < n → (f_law_next fam r).length = 0 → GeoP n fam (toV ((t_stuck, r) : Tx × List Nat))
  | geo : f_law_is_geometry n fam = true → GeoP n fam (toV ([t_geometry] : List Tx))
end PL
set_option maxHeartbeats 400000
namespace PL
open PySem PySem.Spec PyProof.Rows L2
open En
theorem sets_le {n : Nat} (hn : n ≤ 4) : (f_law_sets n).length ≤ 17 := by
  have := sets_len (n := n) (by omega)
  have h2 : 2 ^ n ≤ 2 ^ 4 := Nat.pow_le_pow_right (by decide) hn
  omega
end PL
namespace PL
open PySem PySem.Spec PyProof.Rows L2
open En
def f_by_size (rows : (Ls (List Nat))) : (List (List Nat)) :=
  ((srt (rows.l.map fun (row : (List Nat)) => (row.length, row))).map fun (p : (Nat × (List Nat))) => p.2)
def nm_f_by_size : List Str := ["rows", "_", "row"]
def ir_f_by_size : IS :=
(.seq (.ret (.comp [1, 2] (.tp [1, 2]) (.itSeq (.blt .sorted (.acons (.comp [2] (.nm 2) (.itSeq (.bor 0)) (.cst (.bl true)) (.tup (.acons (.blt .len (.acons (.bor 2) .anil)) (.acons (.var 2) .anil)))) .anil))) (.cst (.bl true)) (.var 2)))
  .skip)
def fs_f_by_size : List (Nat × Str) := []
def cs_f_by_size : List (Str × D) := []
theorem bl_f_by_size {C : PC} {dn : Nat} (rows : (Ls (List Nat))) : Bl C ⟨dn, [], fun (_ : Unit) _ => [], fun x => .own (x.map enc)⟩ ir_f_by_size ⟨[.val (.lst (rows.l.map enc)), .no, .no], dn⟩ (.out (f_by_size rows)) :=
  (bl_ret (x := ((srt (rows.l.map fun (row : (List Nat)) => (row.length, row))).map fun (p : (Nat × (List Nat))) => p.2)) (g_compM (fun (p : (Nat × (List Nat))) => p.2) (fun (p : (Nat × (List Nat))) => ⟨[.val (.lst (rows.l.map enc)), .val (enc p.1), .val (enc p.2)], dn⟩) rfl (i_Lo (ev_blt (eva_T (g_compM (fun (row : (List Nat)) => (row.length, row)) (fun (row : (List Nat)) => ⟨[.val (.lst (rows.l.map enc)), .no, .val (enc row)], dn⟩) rfl (i_Lv (ev_bor rfl)) (fun row h1 => tg_nm) (fun _ => rfl) rfl (fun row h1 => evk (ev_tupP (x := row.length) (y := row) (eva_F (ev_blt (eva_T (ev_bor rfl) rfl eva_nil) g_lenT) kp_val (eva_F (ev_var rfl) kp_val eva_nil))) kp_val)) rfl eva_nil) g_srtL)) (fun p h3 => tg_P) (fun _ => rfl) rfl (fun p h3 => evk (ev_var rfl) kp_val)) rfl)
@[irreducible] def sp_f_by_size : Spec := fun ds dr Q _ => ∃ (rows : (Ls (List Nat))), ds = [enc rows] ∧ Q (.own ((f_by_size rows).map enc)) dr
theorem vl_f_by_size (rows : (Ls (List Nat))) : VlR sp_f_by_size [enc rows] (.own ((f_by_size rows).map enc)) := fun dr Q xe q => by unfold sp_f_by_size; exact ⟨rows, rfl, q⟩
theorem wp_f_by_size (sp : Nat → Spec) (xe : Nat → Nat → Prop) : ∀ ds dr Q, sp_f_by_size ds dr Q (fun _ _ => False) → wpF ⟨sp, xe⟩ nm_f_by_size.length ir_f_by_size ds dr Q := by
  intro ds dr Q h
  unfold sp_f_by_size at h
  obtain ⟨rows, rfl, hq⟩ := h
  exact wpF_bl (bl_f_by_size (C := ⟨sp, xe⟩) rows) hq
end PL
namespace PL
open PySem PySem.Spec PyProof.Rows L2
open En
def f_hull (family : (List (List Nat))) (row : (List Nat)) : (List Nat) :=
  (minO ((family.filter fun (other : (List Nat)) => (f_is_within row other)).map fun (other : (List Nat)) => (other.length, other))).2
def pre_f_hull (family : (List (List Nat))) (row : (List Nat)) : Prop :=
  (((family.filter fun (other : (List Nat)) => (f_is_within row other)).map fun (other : (List Nat)) => (other.length, other)) ≠ [])
def nm_f_hull : List Str := ["family", "row", "other"]
def ir_f_hull : IS :=
(.seq (.ret (.idx (.blt .min (.acons (.comp [2] (.nm 2) (.itSeq (.bor 0)) (.tst (.call 30920 (.acons (.var 1) (.acons (.var 2) .anil)))) (.tup (.acons (.blt .len (.acons (.bor 2) .anil)) (.acons (.var 2) .anil)))) .anil)) (.cst (.int 1))))
  .skip)
def fs_f_hull : List (Nat × Str) := [(30920, "is_within")]
def cs_f_hull : List (Str × D) := []
theorem bl_f_hull {C : PC} (h_f_is_within : C.sp 30920 = sp_f_is_within) {dn : Nat} (family : (List (List Nat))) (row : (List Nat)) (hp : pre_f_hull family row) : Bl C ⟨dn, [], fun (_ : Unit) _ => [], fun x => .val (enc x)⟩ ir_f_hull ⟨[.val (enc family), .val (enc row), .no], dn⟩ (.out (f_hull family row)) :=
  (bl_ret (x := ((minO ((family.filter fun (other : (List Nat)) => (f_is_within row other)).map fun (other : (List Nat)) => (other.length, other))).2 : (List Nat))) (ev_idx (ev_blt (eva_T (g_comp (fun (other : (List Nat)) => (f_is_within row other)) (fun (other : (List Nat)) => (other.length, other)) (fun (other : (List Nat)) => ⟨[.val (enc family), .val (enc row), .val (enc other)], dn⟩) rfl (i_T (ev_bor rfl)) (fun other h1 => tg_nm) (fun _ => rfl) rfl (fun other h1 => (ev_tst (ev_call h_f_is_within (eva_F (ev_var rfl) kp_val (eva_F (ev_var rfl) kp_val eva_nil)) (vl_f_is_within row other)) g_trB)) (fun other h1 h2 => evk (ev_tupP (x := other.length) (y := other) (eva_F (ev_blt (eva_T (ev_bor rfl) rfl eva_nil) g_lenT) kp_val (eva_F (ev_var rfl) kp_val eva_nil))) kp_val)) rfl eva_nil) (g_minLO hp)) (ev_cN 1 rfl) g_ixP1) rfl)
@[irreducible] def sp_f_hull : Spec := fun ds dr Q _ => ∃ (family : (List (List Nat))) (row : (List Nat)), ds = [enc family, enc row] ∧ pre_f_hull family row ∧ Q (.val (enc (f_hull family row))) dr
theorem vl_f_hull (family : (List (List Nat))) (row : (List Nat)) (hp : pre_f_hull family row) : VlR sp_f_hull [enc family, enc row] (.val (enc (f_hull family row))) := fun dr Q xe q => by unfold sp_f_hull; exact ⟨family, row, rfl, hp, q⟩
theorem wp_f_hull (sp : Nat → Spec) (xe : Nat → Nat → Prop) (h_f_is_within : sp 30920 = sp_f_is_within) : ∀ ds dr Q, sp_f_hull ds dr Q (fun _ _ => False) → wpF ⟨sp, xe⟩ nm_f_hull.length ir_f_hull ds dr Q := by
  intro ds dr Q h
  unfold sp_f_hull at h
  obtain ⟨family, row, rfl, hp, hq⟩ := h
  exact wpF_bl (bl_f_hull (C := ⟨sp, xe⟩) h_f_is_within family row hp) hq
end PL
namespace PL
open PySem PySem.Spec PyProof.Rows L2
open En
def f_least_rules_s2 (row : (List Nat)) (s3 : (List ((List Nat) × Nat))) (thing : Nat) : (List ((List Nat) × Nat)) :=
  (if ((!(decide (thing ∈ row))) && (!(s3.any fun (other : ((List Nat) × Nat)) => ((decide (other.2 = thing)) && (f_is_within other.1 row))))) = true then (s3 ++ [(row, thing)]) else s3)
def f_least_rules_p3 (row : (List Nat)) (s3 : (List ((List Nat) × Nat))) (thing : Nat) : Prop :=
  (((!(decide (thing ∈ row))) && (!(s3.any fun (other : ((List Nat) × Nat)) => ((decide (other.2 = thing)) && (f_is_within other.1 row))))) = true → ((s3.length < sizeLine)))
def f_least_rules_s4 (family : (List (List Nat))) (s2 : (List ((List Nat) × Nat))) (row : (List Nat)) : (List ((List Nat) × Nat)) :=
  ((f_hull family row).foldl (f_least_rules_s2 row) s2)
def f_least_rules_p5 (family : (List (List Nat))) (s2 : (List ((List Nat) × Nat))) (row : (List Nat)) : Prop :=
  (pre_f_hull family row) ∧ (foldP (f_least_rules_p3 row) (f_least_rules_s2 row) (f_hull family row) s2)
def f_least_rules_1 (things : Nat) (family : (List (List Nat))) (found : (List ((List Nat) × Nat))) : (List ((List Nat) × Nat)) :=
  (srt ((f_by_size (Ls.mk (f_subsets_of (Ls.mk (List.range things))))).foldl (f_least_rules_s4 family) found))
def pre_f_least_rules_1 (things : Nat) (family : (List (List Nat))) (found : (List ((List Nat) × Nat))) : Prop :=
  (things ≤ 16777216) ∧ (pre_f_subsets_of (Ls.mk (List.range things))) ∧ (foldP (f_least_rules_p5 family) (f_least_rules_s4 family) (f_by_size (Ls.mk (f_subsets_of (Ls.mk (List.range things))))) found)
def ir_f_least_rules_1 : IS :=
(.seq (.fr (.nm 3) (.itSeq (.call 26100 (.acons (.call 34100 (.acons (.blt .list (.acons (.blt .range (.acons (.bor 0) .anil)) .anil)) .anil)) .anil)))
 (.seq (.fr (.nm 4) (.itSeq (.call 28720 (.acons (.var 1) (.acons (.var 3) .anil))))
 (.seq (.ifs (.and (.cmp .notin (.bor 4) (.bor 3)) (.not (.tst (.blt .any (.acons (.comp [5] (.nm 5) (.itSeq (.bor 2)) (.cst (.bl true)) (.and (.cmp .eq (.idx (.bor 5) (.cst (.int 1))) (.bor 4)) (.call 30920 (.acons (.idx (.bor 5) (.cst (.int 0))) (.acons (.var 3) .anil))))) .anil)))))
 (.seq (.app 2 (.tup (.acons (.var 3) (.acons (.var 4) .anil))))
  .skip)
 .skip)
  .skip))
  .skip))
  (.seq (.ret (.blt .sorted (.acons (.bor 2) .anil)))
  .skip))
theorem bl_f_least_rules_1 {C : PC} (h_f_subsets_of : C.sp 34100 = sp_f_subsets_of) (h_f_by_size : C.sp 26100 = sp_f_by_size) (h_f_hull : C.sp 28720 = sp_f_hull) (h_f_is_within : C.sp 30920 = sp_f_is_within) {dn : Nat} (things : Nat) (family : (List (List Nat))) (found : (List ((List Nat) × Nat))) (hp : pre_f_least_rules_1 things family found) : Bl C (⟨dn, [], fun (_ : Unit) _ => [], fun x => .own (x.map enc)⟩ : Bk Unit (List ((List Nat) × Nat))) ir_f_least_rules_1 ⟨[.val (enc things), .val (enc family), .own (found.map enc), .no, .no, .no], dn⟩ (.out (f_least_rules_1 things family found)) :=
  (bl_for (⟨dn, [], fun s2 z2 => [.val (enc things), .val (enc family), .own (s2.map enc), z2 3, z2 4, .no], fun _ => .val .non⟩ : Bk (List ((List Nat) × Nat)) Unit) (step := (f_least_rules_s4 family)) (f_least_rules_p5 family) (s0 := found) rfl (i_Lo (ev_call h_f_by_size (eva_F (ev_call h_f_subsets_of (eva_F (ev_blt (eva_T (ev_rng (ev_bor rfl) hp.1) rfl eva_nil) (g_lstR hp.1)) kp_ls eva_nil) (vl_f_subsets_of (Ls.mk (List.range things)) hp.2.1)) kp_ls eva_nil) (vl_f_by_size (Ls.mk (f_subsets_of (Ls.mk (List.range things))))))) (zl [.no, .no, .no, .no, .no]) rfl (by exact trivial) hp.2.2 (fun row h1 s2 z2 h2 h3 => ⟨_, tg_nm, (bl_for (⟨dn, [], fun s3 z3 => [.val (enc things), .val (enc family), .own (s3.map enc), .val (enc row), z3 4, .no], fun _ => .val .non⟩ : Bk (List ((List Nat) × Nat)) Unit) (step := (f_least_rules_s2 row)) (f_least_rules_p3 row) (s0 := s2) rfl (i_T (ev_call h_f_hull (eva_F (ev_var rfl) kp_val (eva_F (ev_var rfl) kp_val eva_nil)) (vl_f_hull family row h2.1))) (zl [.no, .no, .no, .no, z2 4]) rfl (by exact trivial) h2.2 (fun thing h4 s3 z3 h5 h6 => ⟨_, tg_nm, (bl_if Tn2.go (ev_and (ev_cmp (ev_bor rfl) (ev_bor rfl) g_ninT) (fun h7 => (ev_not (ev_tst (ev_blt (eva_T (g_compM (fun (other : ((List Nat) × Nat)) => ((decide (other.2 = thing)) && (f_is_within other.1 row))) (fun (other : ((List Nat) × Nat)) => ⟨[.val (enc things), .val (enc family), .own (s3.map enc), .val (enc row), .val (enc thing), .val (enc other)], dn⟩) rfl (i_Lb (ev_borO rfl)) (fun other h8 => tg_nm) (fun _ => rfl) rfl (fun other h8 => evk (ev_and (ev_cmp (ev_idx (ev_bor rfl) (ev_cN 1 rfl) g_ixP1) (ev_bor rfl) g_eq) (fun h9 => (ev_call h_f_is_within (eva_F (ev_idx (ev_bor rfl) (ev_cN 0 rfl) g_ixP0) kp_val (eva_F (ev_var rfl) kp_val eva_nil)) (vl_f_is_within other.1 row)))) kp_val)) rfl eva_nil) g_anyM) g_trB)))) (fun h11 => (bl_as (bl_app (evk (ev_tupP (x := row) (y := thing) (eva_F (ev_var rfl) kp_val (eva_F (ev_var rfl) kp_val eva_nil))) kp_val) rfl rfl (h5 h11) (bl_sk (bl_go (s := (s3 ++ [(row, thing)])) (zl [.no, .no, .no, .no, .val (enc thing)]) rfl (by exact trivial)))))) (fun h11 => (bl_sk (bl_go (s := s3) (zl [.no, .no, .no, .no, .val (enc thing)]) rfl (by exact trivial)))))⟩) (fun z3 h6 => (bl_go (s := ((f_hull family row).foldl (f_least_rules_s2 row) s2)) (zl [.no, .no, .no, .val (enc row), z3 4]) rfl (by exact trivial))))⟩) (fun z2 h3 => (bl_ret (x := (srt ((f_by_size (Ls.mk (f_subsets_of (Ls.mk (List.range things))))).foldl (f_least_rules_s4 family) found))) (ev_blt (eva_T (ev_borO rfl) rfl eva_nil) g_srtL) rfl)))
def f_least_rules (things : Nat) (family : (List (List Nat))) : (List ((List Nat) × Nat)) :=
  (f_least_rules_1 things family ([] : List ((List Nat) × Nat)))
def pre_f_least_rules (things : Nat) (family : (List (List Nat))) : Prop :=
  (pre_f_least_rules_1 things family ([] : List ((List Nat) × Nat)))
def nm_f_least_rules : List Str := ["things", "family", "found", "row", "thing", "other"]
def ir_f_least_rules : IS :=
(.seq (.asg (.nm 2) (.lst .anil))
  (.seq (.fr (.nm 3) (.itSeq (.call 26100 (.acons (.call 34100 (.acons (.blt .list (.acons (.blt .range (.acons (.bor 0) .anil)) .anil)) .anil)) .anil)))
 (.seq (.fr (.nm 4) (.itSeq (.call 28720 (.acons (.var 1) (.acons (.var 3) .anil))))
 (.seq (.ifs (.and (.cmp .notin (.bor 4) (.bor 3)) (.not (.tst (.blt .any (.acons (.comp [5] (.nm 5) (.itSeq (.bor 2)) (.cst (.bl true)) (.and (.cmp .eq (.idx (.bor 5) (.cst (.int 1))) (.bor 4)) (.call 30920 (.acons (.idx (.bor 5) (.cst (.int 0))) (.acons (.var 3) .anil))))) .anil)))))
 (.seq (.app 2 (.tup (.acons (.var 3) (.acons (.var 4) .anil))))
  .skip)
 .skip)
  .skip))
  .skip))
  (.seq (.ret (.blt .sorted (.acons (.bor 2) .anil)))
  .skip)))
def fs_f_least_rules : List (Nat × Str) := [(34100, "subsets_of"), (26100, "by_size"), (28720, "hull"), (30920, "is_within")]
def cs_f_least_rules : List (Str × D) := []
theorem bl_f_least_rules {C : PC} (h_f_subsets_of : C.sp 34100 = sp_f_subsets_of) (h_f_by_size : C.sp 26100 = sp_f_by_size) (h_f_hull : C.sp 28720 = sp_f_hull) (h_f_is_within : C.sp 30920 = sp_f_is_within) {dn : Nat} (things : Nat) (family : (List (List Nat))) (hp : pre_f_least_rules things family) : Bl C ⟨dn, [], fun (_ : Unit) _ => [], fun x => .own (x.map enc)⟩ ir_f_least_rules ⟨[.val (enc things), .val (enc family), .no, .no, .no, .no], dn⟩ (.out (f_least_rules things family)) :=
  (bl_asg (ev_lstL ([] : List ((List Nat) × Nat)) eva_nil rfl rfl) sl_own (by exact bl_f_least_rules_1 h_f_subsets_of h_f_by_size h_f_hull h_f_is_within things family ([] : List ((List Nat) × Nat)) hp))
@[irreducible] def sp_f_least_rules : Spec := fun ds dr Q _ => ∃ (things : Nat) (family : (List (List Nat))), ds = [enc things, enc family] ∧ pre_f_least_rules things family ∧ Q (.own ((f_least_rules things family).map enc)) dr
theorem vl_f_least_rules (things : Nat) (family : (List (List Nat))) (hp : pre_f_least_rules things family) : VlR sp_f_least_rules [enc things, enc family] (.own ((f_least_rules things family).map enc)) := fun dr Q xe q => by unfold sp_f_least_rules; exact ⟨things, family, rfl, hp, q⟩
theorem wp_f_least_rules (sp : Nat → Spec) (xe : Nat → Nat → Prop) (h_f_subsets_of : sp 34100 = sp_f_subsets_of) (h_f_by_size : sp 26100 = sp_f_by_size) (h_f_hull : sp 28720 = sp_f_hull) (h_f_is_within : sp 30920 = sp_f_is_within) : ∀ ds dr Q, sp_f_least_rules ds dr Q (fun _ _ => False) → wpF ⟨sp, xe⟩ nm_f_least_rules.length ir_f_least_rules ds dr Q := by
  intro ds dr Q h
  unfold sp_f_least_rules at h
  obtain ⟨things, family, rfl, hp, hq⟩ := h
  exact wpF_bl (bl_f_least_rules (C := ⟨sp, xe⟩) h_f_subsets_of h_f_by_size h_f_hull h_f_is_within things family hp) hq
end PL
namespace PL
open PySem PySem.Spec PyProof.Rows L2
open En
def f_law_hull_s1 (row : (List Nat)) (s2 : (Option (List Nat))) (other : (List Nat)) : (Option (List Nat)) :=
  (if ((f_law_in row other) && ((Option.isNone s2) || (decide (other.length < ((s2).getD default).length)))) = true then (some other) else s2)
def f_law_hull_p2 (row : (List Nat)) (s2 : (Option (List Nat))) (other : (List Nat)) : Prop :=
  ((f_law_in row other) = true → (((Option.isNone s2) = false → (((s2).isSome = true)))))
def f_law_hull (family : (List (List Nat))) (row : (List Nat)) : (Option (List Nat)) :=
  (family.foldl (f_law_hull_s1 row) none)
def pre_f_law_hull (family : (List (List Nat))) (row : (List Nat)) : Prop :=
  (foldP (f_law_hull_p2 row) (f_law_hull_s1 row) family none)
def nm_f_law_hull : List Str := ["family", "row", "found", "other"]
def ir_f_law_hull : IS :=
(.seq (.asg (.nm 2) (.cst .non))
  (.seq (.fr (.nm 3) (.itSeq (.var 0))
 (.seq (.ifs (.and (.tst (.call 21420 (.acons (.var 1) (.acons (.var 3) .anil)))) (.or (.cmp .is (.bor 2) (.cst .non)) (.cmp .lt (.blt .len (.acons (.bor 3) .anil)) (.blt .len (.acons (.bor 2) .anil)))))
 (.seq (.asg (.nm 2) (.var 3))
  .skip)
 .skip)
  .skip))
  (.seq (.ret (.var 2))
  .skip)))
def fs_f_law_hull : List (Nat × Str) := [(21420, "_law_in")]
def cs_f_law_hull : List (Str × D) := []
theorem bl_f_law_hull {C : PC} (h_f_law_in : C.sp 21420 = sp_f_law_in) {dn : Nat} (family : (List (List Nat))) (row : (List Nat)) (hp : pre_f_law_hull family row) : Bl C ⟨dn, [], fun (_ : Unit) _ => [], fun x => .val (enc x)⟩ ir_f_law_hull ⟨[.val (enc family), .val (enc row), .no, .no], dn⟩ (.out (f_law_hull family row)) :=
  (bl_asg ev_cO sl_val (bl_for (⟨dn, [], fun s2 z2 => [.val (enc family), .val (enc row), .val (enc s2), z2 3], fun _ => .val .non⟩ : Bk (Option (List Nat)) Unit) (step := (f_law_hull_s1 row)) (f_law_hull_p2 row) (s0 := none) rfl (i_T (ev_var rfl)) (zl [.no, .no, .no, .no]) rfl (by exact trivial) hp (fun other h1 s2 z2 h2 h3 => ⟨_, tg_nm, (bl_if Tn2.go (ev_and (ev_tst (ev_call h_f_law_in (eva_F (ev_var rfl) kp_val (eva_F (ev_var rfl) kp_val eva_nil)) (vl_f_law_in row other)) g_trB) (fun h4 => (ev_or (ev_cmp (ev_bor rfl) ev_cU g_isO) (fun h5 => (ev_cmp (ev_blt (eva_T (ev_bor rfl) rfl eva_nil) g_lenT) (ev_blt (eva_T (ev_unO (ev_bor rfl) ((h2 h4) h5)) rfl eva_nil) g_lenT) g_ltN))))) (fun h6 => (bl_as (bl_asg (ev_some (ev_var rfl)) sl_val (bl_sk (bl_go (s := (some other)) (zl [.no, .no, .no, .val (enc other)]) rfl (by exact trivial)))))) (fun h6 => (bl_sk (bl_go (s := s2) (zl [.no, .no, .no, .val (enc other)]) rfl (by exact trivial)))))⟩) (fun z2 h3 => (bl_ret (x := ((family.foldl (f_law_hull_s1 row) none) : (Option (List Nat)))) (ev_var rfl) rfl))))
@[irreducible] def sp_f_law_hull : Spec := fun ds dr Q _ => ∃ (family : (List (List Nat))) (row : (List Nat)), ds = [enc family, enc row] ∧ pre_f_law_hull family row ∧ Q (.val (enc (f_law_hull family row))) dr
theorem vl_f_law_hull (family : (List (List Nat))) (row : (List Nat)) (hp : pre_f_law_hull family row) : VlR sp_f_law_hull [enc family, enc row] (.val (enc (f_law_hull family row))) := fun dr Q xe q => by unfold sp_f_law_hull; exact ⟨family, row, rfl, hp, q⟩
theorem wp_f_law_hull (sp : Nat → Spec) (xe : Nat → Nat → Prop) (h_f_law_in : sp 21420 = sp_f_law_in) : ∀ ds dr Q, sp_f_law_hull ds dr Q (fun _ _ => False) → wpF ⟨sp, xe⟩ nm_f_law_hull.length ir_f_law_hull ds dr Q := by
  intro ds dr Q h
  unfold sp_f_law_hull at h
  obtain ⟨family, row, rfl, hp, hq⟩ := h
  exact wpF_bl (bl_f_law_hull (C := ⟨sp, xe⟩) h_f_law_in family row hp) hq
end PL
namespace PL
open PySem PySem.Spec PyProof.Rows L2
open En
def f_law_k17_s1 (n2 : Nat) (family : (List (List Nat))) (row : (List Nat)) (s3 : (List ((List Nat) × Nat))) (thing : Nat) : (List ((List Nat) × Nat)) :=
  (if (!(decide (thing ∈ row))) = true then (if (decide (((f_law_sets n2).filter fun (other : (List Nat)) => ((!(decide (other = row))) && ((f_law_in other row) && (decide (thing ∈ (((f_law_hull family other)).getD default)))))).length = 0)) = true then (s3 ++ [(row, thing)]) else s3) else s3)
def f_law_k17_p2 (n2 : Nat) (family : (List (List Nat))) (row : (List Nat)) (s3 : (List ((List Nat) × Nat))) (thing : Nat) : Prop :=
  ((!(decide (thing ∈ row))) = true → ((pre_f_law_sets n2) ∧ (∀ other ∈ (f_law_sets n2), (((!(decide (other = row))) = true → (((f_law_in other row) = true → ((pre_f_law_hull family other) ∧ (((f_law_hull family other)).isSome = true))))))) ∧ ((decide (((f_law_sets n2).filter fun (other : (List Nat)) => ((!(decide (other = row))) && ((f_law_in other row) && (decide (thing ∈ (((f_law_hull family other)).getD default)))))).length = 0)) = true → ((s3.length < sizeLine)))))
def f_law_k17_s3 (n2 : Nat) (family : (List (List Nat))) (s2 : (List ((List Nat) × Nat))) (row : (List Nat)) : (List ((List Nat) × Nat)) :=
  ((((f_law_hull family row)).getD default).foldl (f_law_k17_s1 n2 family row) s2)
def f_law_k17_p4 (n2 : Nat) (family : (List (List Nat))) (s2 : (List ((List Nat) × Nat))) (row : (List Nat)) : Prop :=
  (pre_f_law_hull family row) ∧ (((f_law_hull family row)).isSome = true) ∧ (foldP (f_law_k17_p2 n2 family row) (f_law_k17_s1 n2 family row) (((f_law_hull family row)).getD default) s2)
def f_law_k17_o7 (n2 : Nat) (family : (List (List Nat))) (rules : (List ((List Nat) × Nat))) (turn : Nat) : (M (Option Bool)) :=
  ((f_law_some n2 (2 : Nat)).bind fun (row2 : (List Nat)) => ((M.draw n2).bind fun (thing2 : Nat) => (M.req (((!(decide (thing2 ∈ row2))) = true → ((pre_f_comes_of ((f_without_idle rules) : (List ((List Nat) × Nat))) ((row2, thing2) : ((List Nat) × Nat))) ∧ (pre_f_hull family row2)))) (M.pure (if ((!(decide (thing2 ∈ row2))) && (!(f_law_is ((f_comes_of ((f_without_idle rules) : (List ((List Nat) × Nat))) ((row2, thing2) : ((List Nat) × Nat))) : Bool) ((decide (thing2 ∈ (f_hull family row2))) : Bool)))) = true then (some false) else none)))))
def f_law_k17_6 (n2 : Nat) (family : (List (List Nat))) (due : (List ((List Nat) × Nat))) (rules : (List ((List Nat) × Nat))) : M Bool :=
  (M.req (((Ls.mk rules) = (Ls.mk (srt due))) ∧ (okQ 6 (enc (Ls.mk (srt due)))) ∧ ((!true) = false → ((pre_f_closed_sets n2 rules) ∧ ((Ls.mk (f_closed_sets n2 rules)) = (Ls.mk family)) ∧ (okQ 6 (enc (Ls.mk family)))))) (if ((!true) || (!true)) = true then (M.pure false) else (M.req ((pre_f_without_idle rules)) (M.req ((pre_f_are_equal_books n2 rules ((f_without_idle rules) : (List ((List Nat) × Nat))))) (if (!(decide ((f_are_equal_books n2 rules ((f_without_idle rules) : (List ((List Nat) × Nat)))) = true))) = true then (M.pure false) else ((M.search (f_law_k17_o7 n2 family rules) (List.range 4)).bind fun t => M.opt id (M.pure true) t))))))
def ir_f_law_k17_6 : IS :=
(.seq (.ifs (.or (.not (.tst (.call 52 (.acons (.var 9) (.acons (.blt .sorted (.acons (.bor 4) .anil)) .anil))))) (.not (.tst (.call 52 (.acons (.call 27260 (.acons (.var 2) (.acons (.blt .tuple (.acons (.bor 9) .anil)) .anil))) (.acons (.blt .list (.acons (.bor 3) .anil)) .anil))))))
 (.seq (.ret (.cst (.bl false)))
  .skip)
 .skip)
  (.seq (.asg (.nm 10) (.call 35320 (.acons (.blt .tuple (.acons (.bor 9) .anil)) .anil)))
  (.seq (.ifs (.cmp .isnot (.call 25100 (.acons (.var 2) (.acons (.blt .tuple (.acons (.bor 9) .anil)) (.acons (.var 10) .anil)))) (.cst (.bl true)))
 (.seq (.ret (.cst (.bl false)))
  .skip)
 .skip)
  (.seq (.fr (.nm 11) (.itR1 (.cst (.int 4)))
 (.seq (.asg (.nm 5) (.call 23860 (.acons (.var 1) (.acons (.var 2) (.acons (.cst (.int 2)) .anil)))))
  (.seq (.asg (.nm 6) (.call 50 (.acons (.var 1) (.acons (.var 2) .anil))))
  (.seq (.ifs (.and (.cmp .notin (.bor 6) (.bor 5)) (.not (.tst (.call 21480 (.acons (.call 27320 (.acons (.var 10) (.acons (.tup (.acons (.var 5) (.acons (.var 6) .anil))) .anil))) (.acons (.cmp .isin (.bor 6) (.call 28720 (.acons (.var 3) (.acons (.var 5) .anil)))) .anil))))))
 (.seq (.ret (.cst (.bl false)))
  .skip)
 .skip)
  .skip))))
  (.seq (.ret (.cst (.bl true)))
  .skip)))))
theorem bm_f_law_k17_6 {C : PC} (h_equal : C.sp 52 = sp__law_equal 6) (h_f_closed_sets : C.sp 27260 = sp_f_closed_sets) (h_f_without_idle : C.sp 35320 = sp_f_without_idle) (h_f_are_equal_books : C.sp 25100 = sp_f_are_equal_books) (h_f_law_some : C.sp 23860 = sp_f_law_some) (h_draw : C.sp 50 = sp_draw) (h_f_comes_of : C.sp 27320 = sp_f_comes_of) (h_f_hull : C.sp 28720 = sp_f_hull) (h_f_law_is : C.sp 21480 = sp_f_law_is) (z2 : Nat → SV) (n2 : Nat) (family : (List (List Nat))) (z2 : (Nat → SV)) (due : (List ((List Nat) × Nat))) (rules : (List ((List Nat) × Nat))) : BlM C (⟨[], fun _ _ => [], fun x => .val (enc x)⟩ : Bm Unit Bool) ir_f_law_k17_6 [.no, .val .pool, .val (enc n2), .val (enc family), .own (due.map enc), z2 5, z2 6, z2 7, .no, .own (rules.map enc), .no, .no] Tn2.out (f_law_k17_6 n2 family due rules) :=
  (bm_req fun h39 => (bm_if (fun dn => (ev_or (ev_not (ev_tst (ev_call h_equal (eva_F (ev_varO rfl) kp_lsv (eva_F (ev_blt (eva_T (ev_borO rfl) rfl eva_nil) g_srtL) kp_ls eva_nil)) (vl_equal (congrArg enc h39.1) h39.2.1)) g_trB)) (fun h14 => (ev_not (ev_tst (ev_call h_equal (eva_F (ev_call h_f_closed_sets (eva_F (ev_var rfl) kp_val (eva_F (ev_blt (eva_T (ev_bor rfl) rfl eva_nil) g_tupL) kp_val eva_nil)) (vl_f_closed_sets n2 rules (h39.2.2 h14).1)) kp_ls (eva_F (ev_blt (eva_T (ev_bor rfl) rfl eva_nil) g_lstT) kp_ls eva_nil)) (vl_equal (congrArg enc (h39.2.2 h14).2.1) (h39.2.2 h14).2.2)) g_trB))))) (fun h15 => (bm_as (bm_pure (fun dn => (bl_ret (x := false) (ev_cB false) rfl))))) (fun h15 => (bm_sk (bm_req fun h37 => (bm_asg (fun dn => (ev_call h_f_without_idle (eva_F (ev_blt (eva_T (ev_bor rfl) rfl eva_nil) g_tupL) kp_val eva_nil) (vl_f_without_idle rules h37))) sl_val (bm_req fun h36 => (bm_if (fun dn => (ev_cmp (ev_call h_f_are_equal_books (eva_F (ev_var rfl) kp_val (eva_F (ev_blt (eva_T (ev_bor rfl) rfl eva_nil) g_tupL) kp_val (eva_F (ev_var rfl) kp_val eva_nil))) (vl_f_are_equal_books n2 rules ((f_without_idle rules) : (List ((List Nat) × Nat))) h36)) (ev_cB true) g_isnB)) (fun h18 => (bm_as (bm_pure (fun dn => (bl_ret (x := false) (ev_cB false) rfl))))) (fun h18 => (bm_sk (bm_searchN id (⟨[], fun _ z5 => [.no, .val .pool, .val (enc n2), .val (enc family), .own (due.map enc), z5 5, z5 6, z2 7, .no, .val (.lst (rules.map enc)), .val (enc ((f_without_idle rules) : (List ((List Nat) × Nat)))), z5 11], fun x => .val (enc x)⟩ : Bm Unit Bool)  (f_law_k17_o7 n2 family rules) (fun _ => rfl) rfl (fun dn => (i_R1 (ev_cN 4 rfl) (by decide))) (zl [.no, .no, .no, .no, .no, z2 5, z2 6, .no, .no, .no, .no, .no]) rfl (by exact trivial) (fun turn h21 z5 h23 => ⟨_, fun _ => tg_nm, (bm_asgM (w := (fun (x : (List Nat)) => .val (enc x))) (em_callP (w := (fun (x : (List Nat)) => .val (enc x))) h_f_law_some (fun dn => (eva_F (ev_var rfl) kp_val (eva_F (ev_var rfl) kp_val (eva_F (ev_cN 2 rfl) kp_val eva_nil)))) (vm_f_law_some n2 (2 : Nat))) (fun _ => sl_val) (fun (row2 : (List Nat)) => (bm_asgM (w := (fun (x : Nat) => .val (enc x))) (em_draw h_draw (fun dn => (ev_var rfl)) (fun dn => (ev_var rfl))) (fun _ => sl_val) (fun (thing2 : Nat) => (bm_req fun h26 => (bm_pure (fun dn => (bl_if optT (ev_and (ev_cmp (ev_bor rfl) (ev_bor rfl) g_ninT) (fun h24 => (ev_not (ev_tst (ev_call h_f_law_is (eva_F (ev_call h_f_comes_of (eva_F (ev_var rfl) kp_val (eva_F (ev_tupP (x := row2) (y := thing2) (eva_F (ev_var rfl) kp_val (eva_F (ev_var rfl) kp_val eva_nil))) kp_val eva_nil)) (vl_f_comes_of ((f_without_idle rules) : (List ((List Nat) × Nat))) ((row2, thing2) : ((List Nat) × Nat)) (h26 h24).1)) kp_val (eva_F (ev_cmp (ev_bor rfl) (ev_call h_f_hull (eva_F (ev_var rfl) kp_val (eva_F (ev_var rfl) kp_val eva_nil)) (vl_f_hull family row2 (h26 h24).2)) g_inT) kp_val eva_nil)) (vl_f_law_is ((f_comes_of ((f_without_idle rules) : (List ((List Nat) × Nat))) ((row2, thing2) : ((List Nat) × Nat))) : Bool) ((decide (thing2 ∈ (f_hull family row2))) : Bool))) g_trB)))) (fun h25 => (bl_as (bl_ret (x := false) (ev_cB false) rfl))) (fun h25 => (bl_sk (bl_go (s := ()) (zl [.no, .no, .no, .no, .no, .val (enc row2), .val (enc thing2), .no, .no, .no, .no, .val (enc turn)]) rfl (by exact trivial))))))))))))⟩) (fun z5 h23 => (bm_pure (fun dn => (bl_ret (x := true) (ev_cB true) rfl)))))))))))))))
def f_law_k17_5 (n2 : Nat) (family : (List (List Nat))) (due : (List ((List Nat) × Nat))) : M Bool :=
  (M.req ((pre_f_least_rules n2 family)) (f_law_k17_6 n2 family due (f_least_rules n2 family)))
def ir_f_law_k17_5 : IS :=
(.seq (.asg (.nm 9) (.call 31140 (.acons (.var 2) (.acons (.var 3) .anil))))
  (.seq (.ifs (.or (.not (.tst (.call 52 (.acons (.var 9) (.acons (.blt .sorted (.acons (.bor 4) .anil)) .anil))))) (.not (.tst (.call 52 (.acons (.call 27260 (.acons (.var 2) (.acons (.blt .tuple (.acons (.bor 9) .anil)) .anil))) (.acons (.blt .list (.acons (.bor 3) .anil)) .anil))))))
 (.seq (.ret (.cst (.bl false)))
  .skip)
 .skip)
  (.seq (.asg (.nm 10) (.call 35320 (.acons (.blt .tuple (.acons (.bor 9) .anil)) .anil)))
  (.seq (.ifs (.cmp .isnot (.call 25100 (.acons (.var 2) (.acons (.blt .tuple (.acons (.bor 9) .anil)) (.acons (.var 10) .anil)))) (.cst (.bl true)))
 (.seq (.ret (.cst (.bl false)))
  .skip)
 .skip)
  (.seq (.fr (.nm 11) (.itR1 (.cst (.int 4)))
 (.seq (.asg (.nm 5) (.call 23860 (.acons (.var 1) (.acons (.var 2) (.acons (.cst (.int 2)) .anil)))))
  (.seq (.asg (.nm 6) (.call 50 (.acons (.var 1) (.acons (.var 2) .anil))))
  (.seq (.ifs (.and (.cmp .notin (.bor 6) (.bor 5)) (.not (.tst (.call 21480 (.acons (.call 27320 (.acons (.var 10) (.acons (.tup (.acons (.var 5) (.acons (.var 6) .anil))) .anil))) (.acons (.cmp .isin (.bor 6) (.call 28720 (.acons (.var 3) (.acons (.var 5) .anil)))) .anil))))))
 (.seq (.ret (.cst (.bl false)))
  .skip)
 .skip)
  .skip))))
  (.seq (.ret (.cst (.bl true)))
  .skip))))))
theorem bm_f_law_k17_5 {C : PC} (h_f_least_rules : C.sp 31140 = sp_f_least_rules) (h_equal : C.sp 52 = sp__law_equal 6) (h_f_closed_sets : C.sp 27260 = sp_f_closed_sets) (h_f_without_idle : C.sp 35320 = sp_f_without_idle) (h_f_are_equal_books : C.sp 25100 = sp_f_are_equal_books) (h_f_law_some : C.sp 23860 = sp_f_law_some) (h_draw : C.sp 50 = sp_draw) (h_f_comes_of : C.sp 27320 = sp_f_comes_of) (h_f_hull : C.sp 28720 = sp_f_hull) (h_f_law_is : C.sp 21480 = sp_f_law_is) (z2 : Nat → SV) (n2 : Nat) (family : (List (List Nat))) (z2 : (Nat → SV)) (due : (List ((List Nat) × Nat))) : BlM C (⟨[], fun _ _ => [], fun x => .val (enc x)⟩ : Bm Unit Bool) ir_f_law_k17_5 [.no, .val .pool, .val (enc n2), .val (enc family), .own (due.map enc), z2 5, z2 6, z2 7, .no, .no, .no, .no] Tn2.out (f_law_k17_5 n2 family due) :=
  (bm_req fun h41 => (bm_asg (fun dn => (ev_call h_f_least_rules (eva_F (ev_var rfl) kp_val (eva_F (ev_var rfl) kp_val eva_nil)) (vl_f_least_rules n2 family h41))) sl_own (by exact bm_f_law_k17_6 h_equal h_f_closed_sets h_f_without_idle h_f_are_equal_books h_f_law_some h_draw h_f_comes_of h_f_hull h_f_law_is z2 n2 family z2 due (f_least_rules n2 family))))
def f_law_k17  : M Bool :=
  (f_law_things.bind fun (n2 : Nat) => ((f_law_geometry n2).bind fun (family : (List (List Nat))) => (M.req ((pre_f_law_sets n2) ∧ (foldP (f_law_k17_p4 n2 family) (f_law_k17_s3 n2 family) (f_law_sets n2) ([] : List ((List Nat) × Nat)))) (f_law_k17_5 n2 family ((f_law_sets n2).foldl (f_law_k17_s3 n2 family) ([] : List ((List Nat) × Nat)))))))
def nm_f_law_k17 : List Str := ["script", "pool", "n", "family", "due", "row", "thing", "lesser", "other", "rules", "left", "turn"]
def ir_f_law_k17 : IS :=
(.seq (.asg (.nm 2) (.call 24120 (.acons (.var 1) .anil)))
  (.seq (.asg (.nm 3) (.call 21320 (.acons (.var 1) (.acons (.var 2) .anil))))
  (.seq (.asg (.nm 4) (.lst .anil))
  (.seq (.fr (.nm 5) (.itSeq (.call 23620 (.acons (.var 2) .anil)))
 (.seq (.fr (.nm 6) (.itSeq (.call 21400 (.acons (.var 3) (.acons (.var 5) .anil))))
 (.seq (.ifs (.cmp .notin (.bor 6) (.bor 5))
 (.seq (.asg (.nm 7) (.comp [8] (.nm 8) (.itSeq (.call 23620 (.acons (.var 2) .anil))) (.and (.cmp .ne (.bor 8) (.bor 5)) (.and (.tst (.call 21420 (.acons (.var 8) (.acons (.var 5) .anil)))) (.cmp .isin (.bor 6) (.call 21400 (.acons (.var 3) (.acons (.var 8) .anil)))))) (.var 8)))
  (.seq (.ifs (.cmp .eq (.blt .len (.acons (.bor 7) .anil)) (.cst (.int 0)))
 (.seq (.app 4 (.tup (.acons (.var 5) (.acons (.var 6) .anil))))
  .skip)
 .skip)
  .skip))
 .skip)
  .skip))
  .skip))
  (.seq (.asg (.nm 9) (.call 31140 (.acons (.var 2) (.acons (.var 3) .anil))))
  (.seq (.ifs (.or (.not (.tst (.call 52 (.acons (.var 9) (.acons (.blt .sorted (.acons (.bor 4) .anil)) .anil))))) (.not (.tst (.call 52 (.acons (.call 27260 (.acons (.var 2) (.acons (.blt .tuple (.acons (.bor 9) .anil)) .anil))) (.acons (.blt .list (.acons (.bor 3) .anil)) .anil))))))
 (.seq (.ret (.cst (.bl false)))
  .skip)
 .skip)
  (.seq (.asg (.nm 10) (.call 35320 (.acons (.blt .tuple (.acons (.bor 9) .anil)) .anil)))
  (.seq (.ifs (.cmp .isnot (.call 25100 (.acons (.var 2) (.acons (.blt .tuple (.acons (.bor 9) .anil)) (.acons (.var 10) .anil)))) (.cst (.bl true)))
 (.seq (.ret (.cst (.bl false)))
  .skip)
 .skip)
  (.seq (.fr (.nm 11) (.itR1 (.cst (.int 4)))
 (.seq (.asg (.nm 5) (.call 23860 (.acons (.var 1) (.acons (.var 2) (.acons (.cst (.int 2)) .anil)))))
  (.seq (.asg (.nm 6) (.call 50 (.acons (.var 1) (.acons (.var 2) .anil))))
  (.seq (.ifs (.and (.cmp .notin (.bor 6) (.bor 5)) (.not (.tst (.call 21480 (.acons (.call 27320 (.acons (.var 10) (.acons (.tup (.acons (.var 5) (.acons (.var 6) .anil))) .anil))) (.acons (.cmp .isin (.bor 6) (.call 28720 (.acons (.var 3) (.acons (.var 5) .anil)))) .anil))))))
 (.seq (.ret (.cst (.bl false)))
  .skip)
 .skip)
  .skip))))
  (.seq (.ret (.cst (.bl true)))
  .skip))))))))))
def fs_f_law_k17 : List (Nat × Str) := [(24120, "_law_things"), (21320, "_law_geometry"), (23620, "_law_sets"), (21400, "_law_hull"), (21420, "_law_in"), (31140, "least_rules"), (52, "_law_equal"), (27260, "closed_sets"), (35320, "without_idle"), (25100, "are_equal_books"), (23860, "_law_some"), (50, "_law_draw"), (27320, "comes_of"), (28720, "hull"), (21480, "_law_is")]
def cs_f_law_k17 : List (Str × D) := []
theorem bm_f_law_k17 {C : PC} (h_f_law_things : C.sp 24120 = sp_f_law_things) (h_f_law_geometry : C.sp 21320 = sp_f_law_geometry) (h_f_law_sets : C.sp 23620 = sp_f_law_sets) (h_f_law_hull : C.sp 21400 = sp_f_law_hull) (h_f_law_in : C.sp 21420 = sp_f_law_in) (h_f_least_rules : C.sp 31140 = sp_f_least_rules) (h_equal : C.sp 52 = sp__law_equal 6) (h_f_closed_sets : C.sp 27260 = sp_f_closed_sets) (h_f_without_idle : C.sp 35320 = sp_f_without_idle) (h_f_are_equal_books : C.sp 25100 = sp_f_are_equal_books) (h_f_law_some : C.sp 23860 = sp_f_law_some) (h_draw : C.sp 50 = sp_draw) (h_f_comes_of : C.sp 27320 = sp_f_comes_of) (h_f_hull : C.sp 28720 = sp_f_hull) (h_f_law_is : C.sp 21480 = sp_f_law_is)  : BlM C (⟨[], fun _ _ => [], fun x => .val (enc x)⟩ : Bm Unit Bool) ir_f_law_k17 [.no, .val .pool, .no, .no, .no, .no, .no, .no, .no, .no, .no, .no] Tn2.out f_law_k17 :=
  (bm_asgM (w := (fun (x : Nat) => .val (enc x))) (em_callP (w := (fun (x : Nat) => .val (enc x))) h_f_law_things (fun dn => (eva_F (ev_var rfl) kp_val eva_nil)) (vm_f_law_things )) (fun _ => sl_val) (fun (n2 : Nat) => (bm_asgM (w := (fun (x : (List (List Nat))) => .val (enc x))) (em_callP (w := (fun (x : (List (List Nat))) => .val (enc x))) h_f_law_geometry (fun dn => (eva_F (ev_var rfl) kp_val (eva_F (ev_var rfl) kp_val eva_nil))) (vm_f_law_geometry n2)) (fun _ => sl_val) (fun (family : (List (List Nat))) => (bm_asg (fun dn => (ev_lstL ([] : List ((List Nat) × Nat)) eva_nil rfl rfl)) sl_own (bm_req fun h43 => (bm_forP (⟨[], fun s2 z2 => [.no, .val .pool, .val (enc n2), .val (enc family), .own (s2.map enc), z2 5, z2 6, z2 7, .no, .no, .no, .no], fun _ => .val .non⟩ : Bm (List ((List Nat) × Nat)) Unit) (step := (f_law_k17_s3 n2 family)) (f_law_k17_p4 n2 family) (s0 := ([] : List ((List Nat) × Nat))) (fun dn => (i_Lo (ev_call h_f_law_sets (eva_F (ev_var rfl) kp_val eva_nil) (vl_f_law_sets n2 h43.1)))) (zl [.no, .no, .no, .no, .no, .no, .no, .no]) rfl (by exact trivial) h43.2 (fun dn row h1 s2 z2 h2 h3 => ⟨_, tg_nm, (bl_for (⟨dn, [], fun s3 z3 => [.no, .val .pool, .val (enc n2), .val (enc family), .own (s3.map enc), .val (enc row), z3 6, z3 7, .no, .no, .no, .no], fun _ => .val .non⟩ : Bk (List ((List Nat) × Nat)) Unit) (step := (f_law_k17_s1 n2 family row)) (f_law_k17_p2 n2 family row) (s0 := s2) rfl (i_T (ev_unO (ev_call h_f_law_hull (eva_F (ev_var rfl) kp_val (eva_F (ev_var rfl) kp_val eva_nil)) (vl_f_law_hull family row h2.1)) h2.2.1)) (zl [.no, .no, .no, .no, .no, .no, z2 6, z2 7]) rfl (by exact trivial) h2.2.2 (fun thing h4 s3 z3 h5 h6 => ⟨_, tg_nm, (bl_if Tn2.go (ev_cmp (ev_bor rfl) (ev_bor rfl) g_ninT) (fun h7 => (bl_as (bl_asg (g_compF (fun (other : (List Nat)) => ((!(decide (other = row))) && ((f_law_in other row) && (decide (thing ∈ (((f_law_hull family other)).getD default)))))) (fun (other : (List Nat)) => ⟨[.no, .val .pool, .val (enc n2), .val (enc family), .own (s3.map enc), .val (enc row), .val (enc thing), z3 7, .val (enc other), .no, .no, .no], dn⟩) rfl (i_Lo (ev_call h_f_law_sets (eva_F (ev_var rfl) kp_val eva_nil) (vl_f_law_sets n2 (h5 h7).1))) (fun other h8 => tg_nm) (fun _ => rfl) rfl (fun other h8 => (ev_and (ev_cmp (ev_bor rfl) (ev_bor rfl) g_ne) (fun h9 => (ev_and (ev_tst (ev_call h_f_law_in (eva_F (ev_var rfl) kp_val (eva_F (ev_var rfl) kp_val eva_nil)) (vl_f_law_in other row)) g_trB) (fun h10 => (ev_cmp (ev_bor rfl) (ev_unO (ev_call h_f_law_hull (eva_F (ev_var rfl) kp_val (eva_F (ev_var rfl) kp_val eva_nil)) (vl_f_law_hull family other ((((h5 h7).2.1 other h8) h9) h10).1)) ((((h5 h7).2.1 other h8) h9) h10).2) g_inT)))))) (fun other h8 h11 => evk (ev_var rfl) kp_val)) sl_own (bl_as (bl_join (τ := (List ((List Nat) × Nat))) (⟨dn, [], fun s4 z4 => [.no, .val .pool, .val (enc n2), .val (enc family), .own (s4.map enc), .val (enc row), .val (enc thing), .own ((((f_law_sets n2).filter fun (other : (List Nat)) => ((!(decide (other = row))) && ((f_law_in other row) && (decide (thing ∈ (((f_law_hull family other)).getD default)))))) : (List (List Nat))).map enc), .no, .no, .no, .no], fun _ => .val .non⟩ : Bk (List ((List Nat) × Nat)) Unit) rfl rfl rfl (ev_cmp (ev_blt (eva_T (ev_borO rfl) rfl eva_nil) g_lenL) (ev_cN 0 rfl) g_eq) (fun h12 => (bl_app (evk (ev_tupP (x := row) (y := thing) (eva_F (ev_var rfl) kp_val (eva_F (ev_var rfl) kp_val eva_nil))) kp_val) rfl rfl ((h5 h7).2.2 h12) (bl_go (s := (s3 ++ [(row, thing)])) (fun _ => .no) rfl (by exact trivial)))) (fun h12 => (bl_go (s := s3) (fun _ => .no) rfl (by exact trivial))) (fun z4 h13 => (bl_sk (bl_go (s := (if (decide (((f_law_sets n2).filter fun (other : (List Nat)) => ((!(decide (other = row))) && ((f_law_in other row) && (decide (thing ∈ (((f_law_hull family other)).getD default)))))).length = 0)) = true then (s3 ++ [(row, thing)]) else s3)) (zl [.no, .no, .no, .no, .no, .no, .val (enc thing), .own ((((f_law_sets n2).filter fun (other : (List Nat)) => ((!(decide (other = row))) && ((f_law_in other row) && (decide (thing ∈ (((f_law_hull family other)).getD default)))))) : (List (List Nat))).map enc)]) rfl (by exact trivial))))))))) (fun h7 => (bl_sk (bl_go (s := s3) (zl [.no, .no, .no, .no, .no, .no, .val (enc thing), z3 7]) rfl (by exact trivial)))))⟩) (fun z3 h6 => (bl_go (s := ((((f_law_hull family row)).getD default).foldl (f_law_k17_s1 n2 family row) s2)) (zl [.no, .no, .no, .no, .no, .val (enc row), z3 6, z3 7]) rfl (by exact trivial))))⟩) (fun z2 h3 => (by exact bm_f_law_k17_5 h_f_least_rules h_equal h_f_closed_sets h_f_without_idle h_f_are_equal_books h_f_law_some h_draw h_f_comes_of h_f_hull h_f_law_is z2 n2 family z2 ((f_law_sets n2).foldl (f_law_k17_s3 n2 family) ([] : List ((List Nat) × Nat))))))))))))
end PL
namespace PL
open PySem PySem.Spec PyProof.Rows L2
open En
structure Geo (n : Nat) (fam : List (List Nat)) : Prop where
  filt : ∃ p : List Nat → Bool, fam = (f_law_sets n).filter p
  whole : List.range n ∈ fam
  both : ∀ a ∈ fam, ∀ b ∈ fam, (a.filter fun x => decide (x ∈ b)) ∈ fam
theorem Geo.set {n : Nat} {fam : List (List Nat)} (h : Geo n fam) {r : List Nat} (hr : r ∈ fam) : SetOf n r := by
  obtain ⟨p, e⟩ := h.filt
  rw [e] at hr
  exact mem_sets.mp (List.mem_filter.mp hr).1
def badB (lines : List (List Nat)) (n : Nat) (row : List Nat) : Bool := (List.range n).any fun t => !(decide (t ∈ row)) && decide ((lines.filter fun (line : List Nat) => decide ((row.countP fun (one : Nat) => decide (ixo line one < ixo line t)) = 0)).length = 0)
theorem bad_fold (lines : List (List Nat)) (row : List Nat) : ∀ (xs : List Nat) (s : Bool), xs.foldl (f_law_geometry_s1 lines row) s = (s || xs.any fun t => !(decide (t ∈ row)) && decide ((lines.filter fun (line : List Nat) => decide ((row.countP fun (one : Nat) => decide (ixo line one < ixo line t)) = 0)).length = 0))
  | [], s => by simp
  | x :: xs, s => by
    rw [List.foldl_cons, bad_fold lines row xs, List.any_cons]
    unfold f_law_geometry_s1
    cases decide (x ∈ row) <;> cases decide ((lines.filter fun (line : List Nat) => decide ((row.countP fun (one : Nat) => decide (ixo line one < ixo line x)) = 0)).length = 0) <;> cases s <;> simp
theorem geo_fold (lines : List (List Nat)) (n : Nat) : (f_law_sets n).foldl (f_law_geometry_s4 n lines) [] = (f_law_sets n).filter fun row => !(badB lines n row) := by
  have e : f_law_geometry_s4 n lines = fun (s : List (List Nat)) row => if (!(badB lines n row)) = true then s ++ [row] else s := by
    funext s row
    unfold f_law_geometry_s4 f_law_geometry_3
    rw [bad_fold, Bool.false_or]; rfl
  rw [e, foldl_filter]; rfl
theorem badB_iff {lines : List (List Nat)} {n : Nat} {row : List Nat} : (!(badB lines n row)) = true ↔ ∀ t, t < n → t ∉ row → ∃ line ∈ lines, ∀ x ∈ row, ¬ ixo line x < ixo line t := by
  unfold badB
  rw [Bool.not_eq_true', List.any_eq_false]
  constructor
  · intro h t ht hn
    have := h t (List.mem_range.mpr ht)
    rw [decide_eq_false hn] at this
    have h2 : ¬ ((lines.filter fun (line : List Nat) => decide ((row.countP fun (one : Nat) => decide (ixo line one < ixo line t)) = 0)).length = 0) := by simpa using this
    have hne : (lines.filter fun (line : List Nat) => decide ((row.countP fun (one : Nat) => decide (ixo line one < ixo line t)) = 0)) ≠ [] := fun e => h2 (by rw [e]; rfl)
    obtain ⟨l, hl⟩ := List.exists_mem_of_ne_nil _ hne
    obtain ⟨h3, h4⟩ := List.mem_filter.mp hl
    refine ⟨l, h3, fun x hx hlt => ?_⟩
    exact List.countP_eq_zero.mp (of_decide_eq_true h4) x hx (decide_eq_true hlt)
  · intro h t ht hb
    obtain ⟨h1, h2⟩ := Bool.and_eq_true_iff.mp hb
    have hn : t ∉ row := by simpa using h1
    obtain ⟨l, hl, hx⟩ := h t (List.mem_range.mp ht) hn
    have : l ∈ (lines.filter fun (line : List Nat) => decide ((row.countP fun (one : Nat) => decide (ixo line one < ixo line t)) = 0)) := List.mem_filter.mpr ⟨hl, decide_eq_true (List.countP_eq_zero.mpr fun x hxr hd => hx x hxr (of_decide_eq_true hd))⟩
    have := List.length_pos_of_mem this
    have := of_decide_eq_true h2
    omega
theorem geo_of (lines : List (List Nat)) (n : Nat) : Geo n ((f_law_sets n).filter fun row => !(badB lines n row)) where
  filt := ⟨_, rfl⟩
  whole := List.mem_filter.mpr ⟨mem_sets.mpr (.range n), badB_iff.mpr fun t ht hn => absurd (List.mem_range.mpr ht) hn⟩
  both := fun a ha b hb => by
    obtain ⟨a1, a2⟩ := List.mem_filter.mp ha
    obtain ⟨b1, b2⟩ := List.mem_filter.mp hb
    refine List.mem_filter.mpr ⟨mem_sets.mpr ((mem_sets.mp a1).sub List.filter_sublist), badB_iff.mpr fun t ht hn => ?_⟩
    by_cases hta : t ∈ a
    · have htb : t ∉ b := fun h => hn (List.mem_filter.mpr ⟨hta, decide_eq_true h⟩)
      obtain ⟨l, hl, hx⟩ := badB_iff.mp b2 t ht htb
      exact ⟨l, hl, fun x hx2 => hx x (of_decide_eq_true (List.mem_filter.mp hx2).2)⟩
    · obtain ⟨l, hl, hx⟩ := badB_iff.mp a2 t ht hta
      exact ⟨l, hl, fun x hx2 => hx x (List.mem_filter.mp hx2).1⟩
theorem ok_geo17 {n : Nat} (hn : n ≤ 4) : (f_law_geometry n).ok 1000 (Geo n) := by
  have sz := sizeLine_eq
  unfold f_law_geometry
  refine ok_le (ok_bind (c1 := 900) (c2 := 0) (P := fun lines => ∀ l ∈ lines, LineOf n l) (ok_le (ok_bind (c1 := 1) (c2 := 800) (P := fun xs => xs.length ≤ 4) (ok_le (ok_bind (c1 := 1) (c2 := 0) (P := fun v => v ≤ 4) (ok_le (ok_bind (c1 := 1) (c2 := 0) (ok_draw (by decide)) fun v hv => ok_req trivial (ok_pure (by omega))) (by decide)) fun v hv => ok_req (by omega) (ok_pure (by simpa using hv))) (by decide)) fun xs hxs => ok_le (ok_mono (ok_comp (c1 := 0) (c2 := 100) (Y := fun _ => True) (N := fun _ => True) (Φ := fun _ l => LineOf n l) (fun x _ => ok_pure ⟨fun _ => trivial, fun _ => trivial⟩) fun x _ _ => ok_line (by omega)) fun ys hys l hl => by
    obtain ⟨_, _, h⟩ := hys.mem l hl
    exact h) (by omega)) (by decide)) fun lines hl => ?_) (by decide)
  have := fold_inv (P := f_law_geometry_p5 n lines) (step := f_law_geometry_s4 n lines) (fun i s => s.length ≤ i) (f_law_sets n) [] 0 (Nat.le_refl _) fun i x s hx hI => by
    rw [Nat.zero_add] at hI ⊢
    obtain ⟨hi, hx2⟩ := List.getElem?_eq_some_iff.mp hx
    have hm : x ∈ f_law_sets n := hx2 ▸ List.getElem_mem hi
    have hs := sets_mem (by omega : n ≤ 20) hm
    have l17 := sets_le hn
    refine ⟨⟨by omega, ?_, fun _ => by omega⟩, ?_⟩
    · refine (fold_inv (P := f_law_geometry_p2 lines x) (step := f_law_geometry_s1 lines x) (fun _ _ => True) (List.range n) false 0 trivial fun j y b hy _ => ⟨fun _ l hll a ha => ⟨?_, ?_⟩, trivial⟩).1
      · exact (hl l hll).mem.mpr (hs.2 a ha)
      · obtain ⟨rfl, hj⟩ := rg_get hy
        exact (hl l hll).mem.mpr hj
    · unfold f_law_geometry_s4 f_law_geometry_3
      split
      · rw [List.length_append]; show _ + 1 ≤ _; omega
      · omega
  refine ok_req ⟨pre_sets (by omega), this.1⟩ (ok_pure ?_)
  rw [geo_fold]
  exact geo_of lines n
section
variable {n : Nat} {fam : List (List Nat)}
def SubL (a b : List Nat) : Prop := ∀ x ∈ a, x ∈ b
structure Hul (fam : List (List Nat)) (row h : List Nat) : Prop where
  mem : h ∈ fam
  sub : SubL row h
  least : ∀ c ∈ fam, SubL row c → SubL h c
theorem hul_ex (g : Geo n fam) {row : List Nat} (hr : SetOf n row) : ∃ h, Hul fam row h := by
  have key : ∀ L : List (List Nat), (∀ c ∈ L, c ∈ fam ∧ SubL row c) → ∃ h ∈ fam, SubL row h ∧ ∀ c ∈ L, SubL h c := fun L => by
    induction L with
    | nil => intro _; exact ⟨_, g.whole, fun x hx => List.mem_range.mpr (hr.2 x hx), fun c hc => nomatch hc⟩
    | cons c L ih =>
      intro hL
      obtain ⟨h, h1, h2, h3⟩ := ih fun d hd => hL d (List.mem_cons_of_mem _ hd)
      obtain ⟨c1, c2⟩ := hL c List.mem_cons_self
      refine ⟨_, g.both h h1 c c1, fun x hx => List.mem_filter.mpr ⟨h2 x hx, decide_eq_true (c2 x hx)⟩, fun d hd x hx => ?_⟩
      obtain ⟨hx1, hx2⟩ := List.mem_filter.mp hx
      rcases List.mem_cons.mp hd with rfl | hd
      · exact of_decide_eq_true hx2
      · exact h3 d hd x hx1
  obtain ⟨h, h1, h2, h3⟩ := key (fam.filter fun c => f_is_within row c) fun c hc => ⟨(List.mem_filter.mp hc).1, within_iff.mp (List.mem_filter.mp hc).2⟩
  exact ⟨h, h1, h2, fun c hc hs => h3 c (List.mem_filter.mpr ⟨hc, within_iff.mpr hs⟩)⟩
theorem same_len {a b : List Nat} (ha : SetOf n a) (hb : SetOf n b) (h : SubL a b) (hl : b.length ≤ a.length) : b = a := asc_eq hb.1 ha.1 fun x => by
  refine ⟨fun hx => ?_, h x⟩
  apply Classical.byContradiction
  intro hn
  have := nodup_lenA (s := x :: a) (l := b) (List.nodup_cons.mpr ⟨hn, ha.nodup⟩) fun y hy => by
    rcases List.mem_cons.mp hy with rfl | hy
    · exact hx
    · exact h y hy
  rw [List.length_cons] at this
  omega
theorem hull_ok (g : Geo n fam) {row : List Nat} (hr : SetOf n row) : pre_f_hull fam row ∧ Hul fam row (f_hull fam row) := by
  obtain ⟨h, hh⟩ := hul_ex g hr
  have hm : (h.length, h) ∈ (fam.filter fun (other : List Nat) => f_is_within row other).map fun (other : List Nat) => (other.length, other) := List.mem_map.mpr ⟨h, List.mem_filter.mpr ⟨hh.mem, within_iff.mpr hh.sub⟩, rfl⟩
  have hne : (fam.filter fun (other : List Nat) => f_is_within row other).map (fun (other : List Nat) => (other.length, other)) ≠ [] := fun e => by rw [e] at hm; cases hm
  refine ⟨hne, ?_⟩
  have e : f_hull fam row = h := by
    unfold f_hull
    obtain ⟨m, hm1, hm2⟩ := List.mem_map.mp (minO_mem hne)
    obtain ⟨hm3, hm4⟩ := List.mem_filter.mp hm1
    have lt := minO_le hm
    rw [← hm2] at lt ⊢
    show m = h
    have sub := hh.least m hm3 (within_iff.mp hm4)
    refine same_len (g.set hh.mem) (g.set hm3) sub ?_
    have lt : ltPr (h.length, h) (m.length, m) = false := lt
    unfold ltPr at lt
    by_cases e : h.length = m.length
    · omega
    · rw [if_neg e] at lt
      have : ¬ (h.length < m.length) := by simpa [Od.lt] using lt
      omega
  rw [e]; exact hh
theorem law_hull_fold (row : List Nat) : ∀ (xs : List (List Nat)) (s : Option (List Nat)), (xs.foldl (f_law_hull_s1 row) s = none → s = none ∧ ∀ x ∈ xs, ¬ SubL row x) ∧ ∀ o, xs.foldl (f_law_hull_s1 row) s = some o → ((o ∈ xs ∧ SubL row o) ∨ s = some o) ∧ (∀ x ∈ xs, SubL row x → o.length ≤ x.length) ∧ ∀ o', s = some o' → o.length ≤ o'.length
  | [], s => ⟨fun h => ⟨h, fun x hx => nomatch hx⟩, fun o h => ⟨.inr h, (fun x hx => nomatch hx), fun o' h' => by
    have h : s = some o := h
    rw [h] at h'; cases h'; omega⟩⟩
  | x :: xs, s => by
    rw [List.foldl_cons]
    obtain ⟨i1, i2⟩ := law_hull_fold row xs (f_law_hull_s1 row s x)
    have st : f_law_hull_s1 row s x = if (f_law_in row x && (Option.isNone s || decide (x.length < (s.getD default).length))) = true then some x else s := rfl
    have li : f_law_in row x = true ↔ SubL row x := lawin_iff
    constructor
    · intro h
      obtain ⟨a, b⟩ := i1 h
      rw [st] at a
      split at a
      · cases a
      · rename_i hc
        refine ⟨a, fun y hy => ?_⟩
        rcases List.mem_cons.mp hy with rfl | hy
        · intro hs
          refine hc ?_
          rw [li.mpr hs, a]; rfl
        · exact b y hy
    · intro o h
      obtain ⟨a, b, c⟩ := i2 o h
      rw [st] at a c
      split at a
      · rename_i hc
        rw [if_pos hc] at c
        obtain ⟨hc1, hc2⟩ := Bool.and_eq_true_iff.mp hc
        have hx := li.mp hc1
        have ox := c x rfl
        refine ⟨.inl ?_, fun y hy hs => ?_, fun o' ho' => ?_⟩
        · rcases a with a | a
          · exact ⟨List.mem_cons_of_mem _ a.1, a.2⟩
          · cases a; exact ⟨List.mem_cons_self, hx⟩
        · rcases List.mem_cons.mp hy with rfl | hy
          · exact ox
          · exact b y hy hs
        · rw [ho'] at hc2
          have : x.length < o'.length := by simpa using hc2
          omega
      · rename_i hc
        rw [if_neg hc] at c
        refine ⟨?_, fun y hy hs => ?_, c⟩
        · rcases a with a | a
          · exact .inl ⟨List.mem_cons_of_mem _ a.1, a.2⟩
          · exact .inr a
        · rcases List.mem_cons.mp hy with rfl | hy
          · cases s with
            | none => exact absurd (by rw [li.mpr hs]; rfl) hc
            | some o' =>
              have := c o' rfl
              rw [li.mpr hs] at hc
              have : ¬ (y.length < o'.length) := by simpa using hc
              omega
          · exact b y hy hs
theorem law_hull_ok (g : Geo n fam) {row : List Nat} (hr : SetOf n row) : pre_f_law_hull fam row ∧ f_law_hull fam row = some (f_hull fam row) := by
  have hh := (hull_ok g hr).2
  refine ⟨?_, ?_⟩
  · exact (fold_inv (P := f_law_hull_p2 row) (step := f_law_hull_s1 row) (fun _ _ => True) fam none 0 trivial fun i x s _ _ => ⟨fun _ h => by cases s with | none => cases h | some _ => rfl, trivial⟩).1
  · unfold f_law_hull
    obtain ⟨i1, i2⟩ := law_hull_fold row fam none
    cases e : fam.foldl (f_law_hull_s1 row) none with
    | none => exact absurd hh.sub ((i1 e).2 _ hh.mem)
    | some o =>
      obtain ⟨a, b, _⟩ := i2 o e
      rcases a with ⟨a1, a2⟩ | a
      · rw [same_len (g.set hh.mem) (g.set a1) (hh.least o a1 a2) (b _ hh.mem hh.sub)]
      · cases a
def Mn (n : Nat) (fam : List (List Nat)) (row : List Nat) (t : Nat) : Prop := ∀ other, SetOf n other → SubL other row → other ≠ row → t ∉ f_hull fam other
def cB (n : Nat) (fam : List (List Nat)) (row : List Nat) (t : Nat) : Bool := !(decide (t ∈ row)) && decide (((f_law_sets n).filter fun (other : List Nat) => ((!(decide (other = row))) && ((f_law_in other row) && (decide (t ∈ (((f_law_hull fam other)).getD default)))))).length = 0)
theorem cB_iff (g : Geo n fam) {row : List Nat} {t : Nat} : cB n fam row t = true ↔ t ∉ row ∧ Mn n fam row t := by
  unfold cB Mn
  rw [Bool.and_eq_true]
  constructor
  · rintro ⟨h1, h2⟩
    refine ⟨by simpa using h1, fun other ho hs hne hm => ?_⟩
    have h2 := List.length_eq_zero_iff.mp (of_decide_eq_true h2)
    have : other ∈ ((f_law_sets n).filter fun (other : List Nat) => ((!(decide (other = row))) && ((f_law_in other row) && (decide (t ∈ (((f_law_hull fam other)).getD default)))))) := List.mem_filter.mpr ⟨mem_sets.mpr ho, by
      rw [(law_hull_ok g ho).2, lawin_iff.mpr hs]
      have : decide (t ∈ (some (f_hull fam other)).getD default) = true := decide_eq_true hm
      rw [this]
      simpa using hne⟩
    rw [h2] at this; cases this
  · rintro ⟨h1, h2⟩
    refine ⟨by simpa using h1, decide_eq_true (List.length_eq_zero_iff.mpr (List.filter_eq_nil_iff.mpr fun other ho hb => ?_))⟩
    have ho := mem_sets.mp ho
    obtain ⟨b1, b23⟩ := Bool.and_eq_true_iff.mp hb
    obtain ⟨b2, b3⟩ := Bool.and_eq_true_iff.mp b23
    rw [(law_hull_ok g ho).2] at b3
    exact h2 other ho (lawin_iff.mp b2) (by simpa using b1) (of_decide_eq_true b3)
def Gr (n : Nat) (fam : List (List Nat)) (row : List Nat) : List (List Nat × Nat) := ((f_hull fam row).filter (cB n fam row)).map fun t => (row, t)
theorem due_eq (g : Geo n fam) : (f_law_sets n).foldl (f_law_k17_s3 n fam) [] = (f_law_sets n).flatMap (Gr n fam) := by
  have e : ∀ (xs : List (List Nat)) (s : List (List Nat × Nat)), (∀ r ∈ xs, SetOf n r) → xs.foldl (f_law_k17_s3 n fam) s = s ++ xs.flatMap (Gr n fam) := fun xs => by
    induction xs with
    | nil => intro s _; simp
    | cons r xs ih =>
      intro s h
      rw [List.foldl_cons, ih _ fun q hq => h q (List.mem_cons_of_mem _ hq), List.flatMap_cons, ← List.append_assoc]
      congr 1
      unfold f_law_k17_s3 Gr
      rw [(law_hull_ok g (h r List.mem_cons_self)).2]
      show (f_hull fam r).foldl (f_law_k17_s1 n fam r) s = _
      have e1 : f_law_k17_s1 n fam r = fun (s : List (List Nat × Nat)) t => if cB n fam r t = true then s ++ [(r, t)] else s := by
        funext s t
        unfold f_law_k17_s1 cB
        cases decide (t ∈ r) with
        | true => rfl
        | false =>
          show (if _ = true then (s ++ [(r, t)]) else s) = (if (true && _) = true then (s ++ [(r, t)]) else s)
          rw [Bool.true_and]
      rw [e1]
      have e2 : ∀ (ys : List Nat) (s : List (List Nat × Nat)), ys.foldl (fun (s : List (List Nat × Nat)) t => if cB n fam r t = true then s ++ [(r, t)] else s) s = s ++ (ys.filter (cB n fam r)).map fun t => (r, t) := fun ys => by
        induction ys with
        | nil => intro s; simp
        | cons y ys ih2 =>
          intro s
          rw [List.foldl_cons, ih2, List.filter_cons]
          split
          · rw [List.map_cons, List.append_assoc]; rfl
          · rfl
      exact e2 _ _
  have := e (f_law_sets n) [] fun r hr => mem_sets.mp hr
  rwa [List.nil_append] at this
theorem gr_mem (g : Geo n fam) {row : List Nat} {p : List Nat × Nat} : p ∈ Gr n fam row ↔ p.1 = row ∧ p.2 ∈ f_hull fam row ∧ p.2 ∉ row ∧ Mn n fam row p.2 := by
  unfold Gr
  rw [List.mem_map]
  constructor
  · rintro ⟨t, ht, rfl⟩
    obtain ⟨a, b⟩ := List.mem_filter.mp ht
    exact ⟨rfl, a, (cB_iff g).mp b⟩
  · rintro ⟨rfl, a, b⟩
    exact ⟨p.2, List.mem_filter.mpr ⟨a, (cB_iff g).mpr b⟩, rfl⟩
theorem least_below (g : Geo n fam) {t : Nat} : ∀ (k : Nat) (row : List Nat), row.length ≤ k → SetOf n row → t ∈ f_hull fam row → ∃ o, SetOf n o ∧ SubL o row ∧ t ∈ f_hull fam o ∧ Mn n fam o t
  | k, row, hk, hr, ht => by
    by_cases h : Mn n fam row t
    · exact ⟨row, hr, fun x hx => hx, ht, h⟩
    · have : ∃ o, SetOf n o ∧ SubL o row ∧ o ≠ row ∧ t ∈ f_hull fam o := by
        apply Classical.byContradiction
        intro hn
        exact h fun o ho hs hne hm => hn ⟨o, ho, hs, hne, hm⟩
      obtain ⟨o, ho, hs, hne, hm⟩ := this
      have hl : o.length < row.length := by
        apply Classical.byContradiction
        intro hc
        exact hne (same_len ho hr hs (by omega)).symm
      match k, hk with
      | 0, hk => omega
      | k + 1, hk =>
        obtain ⟨q, q1, q2, q3, q4⟩ := least_below g k o (by omega) ho hm
        exact ⟨q, q1, fun x hx => hs x (q2 x hx), q3, q4⟩
theorem by_size_ok (rows : List (List Nat)) : (f_by_size (Ls.mk rows)).Perm rows ∧ (f_by_size (Ls.mk rows)).Pairwise fun a b => a.length ≤ b.length := by
  unfold f_by_size
  constructor
  · refine ((srt_perm _).map _).trans ?_
    rw [List.map_map]
    have : ((fun (p : Nat × List Nat) => p.2) ∘ fun (row : List Nat) => (row.length, row)) = id := rfl
    rw [this, List.map_id]
  · rw [List.pairwise_map]
    refine (srt_le (rows.map fun row => (row.length, row))).imp_of_mem fun {a b} ha hb h => ?_
    obtain ⟨x, _, rfl⟩ := List.mem_map.mp (mem_srt.mp ha)
    obtain ⟨y, _, rfl⟩ := List.mem_map.mp (mem_srt.mp hb)
    have h : ltPr (y.length, y) (x.length, x) = false := h
    unfold ltPr at h
    show x.length ≤ y.length
    by_cases e : y.length = x.length
    · omega
    · rw [if_neg e] at h
      have : ¬ (y.length < x.length) := by simpa [Od.lt] using h
      omega
theorem gr_len (hn : n ≤ 4) (g : Geo n fam) {row : List Nat} (hr : SetOf n row) : (Gr n fam row).length ≤ 4 := by
  unfold Gr
  rw [List.length_map]
  have := List.length_filter_le (cB n fam row) (f_hull fam row)
  have := (g.set (hull_ok g hr).2.mem).len
  omega
theorem flat_len (hn : n ≤ 4) (g : Geo n fam) : ∀ (xs : List (List Nat)), (∀ r ∈ xs, SetOf n r) → (xs.flatMap (Gr n fam)).length ≤ 4 * xs.length
  | [], _ => Nat.le_refl _
  | x :: xs, h => by
    rw [List.flatMap_cons, List.length_append, List.length_cons]
    have := gr_len hn g (h x List.mem_cons_self)
    have := flat_len hn g xs fun r hr => h r (List.mem_cons_of_mem _ hr)
    omega
theorem least_ok17 (hn : n ≤ 4) (g : Geo n fam) : pre_f_least_rules n fam ∧ f_least_rules n fam = srt ((f_law_sets n).flatMap (Gr n fam)) := by
  have sz := sizeLine_eq
  obtain ⟨bp, bs⟩ := by_size_ok (f_law_sets n)
  have B0 : f_subsets_of (Ls.mk (List.range n)) = f_law_sets n := subsets_eq n
  have bset : ∀ r ∈ f_by_size (Ls.mk (f_law_sets n)), SetOf n r := fun r hr => mem_sets.mp (bp.mem_iff.mp hr)
  have bnd : (f_by_size (Ls.mk (f_law_sets n))).Nodup := bp.nodup_iff.mpr (nodup_sets n)
  have bl : (f_by_size (Ls.mk (f_law_sets n))).length ≤ 17 := by rw [bp.length_eq]; exact sets_le hn
  -- a row's turn
  have turn : ∀ (i : Nat) (hi : i < (f_by_size (Ls.mk (f_law_sets n))).length), foldP (f_least_rules_p3 (f_by_size (Ls.mk (f_law_sets n)))[i]) (f_least_rules_s2 (f_by_size (Ls.mk (f_law_sets n)))[i]) (f_hull fam (f_by_size (Ls.mk (f_law_sets n)))[i]) (((f_by_size (Ls.mk (f_law_sets n))).take i).flatMap (Gr n fam)) ∧ (f_hull fam (f_by_size (Ls.mk (f_law_sets n)))[i]).foldl (f_least_rules_s2 (f_by_size (Ls.mk (f_law_sets n)))[i]) (((f_by_size (Ls.mk (f_law_sets n))).take i).flatMap (Gr n fam)) = ((f_by_size (Ls.mk (f_law_sets n))).take i).flatMap (Gr n fam) ++ Gr n fam (f_by_size (Ls.mk (f_law_sets n)))[i] := fun i hi => by
    have hrow := bset _ (List.getElem_mem hi)
    have hh := (hull_ok g hrow).2
    have hset := g.set hh.mem
    have fl := flat_len hn g ((f_by_size (Ls.mk (f_law_sets n))).take i) fun r hr => bset r (List.mem_of_mem_take hr)
    have tl := List.length_take_le i (f_by_size (Ls.mk (f_law_sets n)))
    have main := fold_inv (P := f_least_rules_p3 (f_by_size (Ls.mk (f_law_sets n)))[i]) (step := f_least_rules_s2 (f_by_size (Ls.mk (f_law_sets n)))[i]) (fun j s => s = ((f_by_size (Ls.mk (f_law_sets n))).take i).flatMap (Gr n fam) ++ (((f_hull fam (f_by_size (Ls.mk (f_law_sets n)))[i]).take j).filter (cB n fam (f_by_size (Ls.mk (f_law_sets n)))[i])).map fun t => ((f_by_size (Ls.mk (f_law_sets n)))[i], t)) (f_hull fam (f_by_size (Ls.mk (f_law_sets n)))[i]) (((f_by_size (Ls.mk (f_law_sets n))).take i).flatMap (Gr n fam)) 0 (by simp) fun j t s ht hI => by
      rw [Nat.zero_add] at hI ⊢
      obtain ⟨hj, e⟩ := List.getElem?_eq_some_iff.mp ht
      have htm : t ∈ f_hull fam (f_by_size (Ls.mk (f_law_sets n)))[i] := e ▸ List.getElem_mem hj
      have cond : ((!(decide (t ∈ (f_by_size (Ls.mk (f_law_sets n)))[i]))) && (!(s.any fun (other : ((List Nat) × Nat)) => ((decide (other.2 = t)) && (f_is_within other.1 (f_by_size (Ls.mk (f_law_sets n)))[i]))))) = cB n fam (f_by_size (Ls.mk (f_law_sets n)))[i] t := by
        rw [Bool.eq_iff_iff, cB_iff g, Bool.and_eq_true]
        constructor
        · rintro ⟨h1, h2⟩
          have h1 : t ∉ (f_by_size (Ls.mk (f_law_sets n)))[i] := by simpa using h1
          refine ⟨h1, fun other ho hs hne hm => ?_⟩
          obtain ⟨q, q1, q2, q3, q4⟩ := least_below g other.length other (Nat.le_refl _) ho hm
          have qs : SubL q (f_by_size (Ls.mk (f_law_sets n)))[i] := fun x hx => hs x (q2 x hx)
          have ql : q.length < ((f_by_size (Ls.mk (f_law_sets n)))[i]).length := by
            apply Classical.byContradiction
            intro hc
            have e := same_len q1 hrow qs (by omega)
            refine hne (same_len ho hrow hs ?_).symm
            have := nodup_lenA q1.nodup q2
            rw [e]; exact this
          have qb : q ∈ f_by_size (Ls.mk (f_law_sets n)) := bp.mem_iff.mpr (mem_sets.mpr q1)
          obtain ⟨k, hk, ek⟩ := List.getElem_of_mem qb
          have hki : k < i := by
            apply Classical.byContradiction
            intro hc
            rcases Nat.lt_or_eq_of_le (Nat.le_of_not_lt hc) with h3 | h3
            · have := List.pairwise_iff_getElem.mp bs i k hi hk h3
              rw [ek] at this; omega
            · subst h3; rw [ek] at ql; omega
          have qt : q ∈ (f_by_size (Ls.mk (f_law_sets n))).take i := by
            rw [List.mem_take_iff_getElem]
            exact ⟨k, by omega, ek⟩
          have inS : (q, t) ∈ s := by
            rw [hI]
            exact List.mem_append_left _ (List.mem_flatMap.mpr ⟨q, qt, (gr_mem g).mpr ⟨rfl, q3, fun hx => h1 (qs t hx), q4⟩⟩)
          have : (s.any fun (other : ((List Nat) × Nat)) => ((decide (other.2 = t)) && (f_is_within other.1 (f_by_size (Ls.mk (f_law_sets n)))[i]))) = true := List.any_eq_true.mpr ⟨_, inS, by
            rw [Bool.and_eq_true]
            exact ⟨decide_eq_true rfl, within_iff.mpr qs⟩⟩
          rw [this] at h2; cases h2
        · rintro ⟨h1, h2⟩
          refine ⟨by simpa using h1, ?_⟩
          rw [Bool.not_eq_true', List.any_eq_false]
          intro p hp hb
          obtain ⟨b1, b2⟩ := Bool.and_eq_true_iff.mp hb
          have b1 := of_decide_eq_true b1
          have b2 := within_iff.mp b2
          rw [hI] at hp
          rcases List.mem_append.mp hp with hp | hp
          · obtain ⟨q, hq, hpq⟩ := List.mem_flatMap.mp hp
            obtain ⟨e1, e2, _, _⟩ := (gr_mem g).mp hpq
            rw [e1] at b2
            rw [b1] at e2
            refine h2 q (bset q (List.mem_of_mem_take hq)) b2 (fun e3 => ?_) e2
            obtain ⟨k, hk, ek⟩ := List.mem_take_iff_getElem.mp hq
            have hk2 : k < (f_by_size (Ls.mk (f_law_sets n))).length := by omega
            have := nodup_inj bnd hk2 hi (ek.trans e3)
            omega
          · obtain ⟨t', ht', ep⟩ := List.mem_map.mp hp
            have : t' = t := by rw [← ep] at b1; exact b1
            subst this
            obtain ⟨k, hk, ek⟩ := List.mem_take_iff_getElem.mp (List.mem_filter.mp ht').1
            have hk2 : k < (f_hull fam (f_by_size (Ls.mk (f_law_sets n)))[i]).length := by omega
            have := nodup_inj hset.nodup hk2 hj (ek.trans e.symm)
            omega
      refine ⟨fun _ => ?_, ?_⟩
      · have l2 := List.length_filter_le (cB n fam (f_by_size (Ls.mk (f_law_sets n)))[i]) ((f_hull fam (f_by_size (Ls.mk (f_law_sets n)))[i]).take j)
        have l3 := List.length_take_le j (f_hull fam (f_by_size (Ls.mk (f_law_sets n)))[i])
        have l4 := hset.len
        rw [hI, List.length_append, List.length_map]
        have : ((f_by_size (Ls.mk (f_law_sets n))).take i).length ≤ 17 := by rw [List.length_take]; omega
        omega
      · unfold f_least_rules_s2
        rw [cond, List.take_succ, ht, hI, List.filter_append, List.map_append]
        show (if cB n fam _ t = true then _ else _) = _ ++ (_ ++ ([t].filter _).map _)
        rw [List.filter_cons]
        split
        · rw [List.append_assoc]; rfl
        · simp
    refine ⟨main.1, ?_⟩
    have h2 := main.2
    rw [Nat.zero_add, List.take_length] at h2
    exact h2
  have outer := fold_inv (P := f_least_rules_p5 fam) (step := f_least_rules_s4 fam) (fun i s => s = ((f_by_size (Ls.mk (f_law_sets n))).take i).flatMap (Gr n fam)) (f_by_size (Ls.mk (f_law_sets n))) [] 0 (by simp) fun i row s hrow hI => by
    rw [Nat.zero_add] at hI ⊢
    obtain ⟨hi, e⟩ := List.getElem?_eq_some_iff.mp hrow
    subst e
    obtain ⟨t1, t2⟩ := turn i hi
    subst hI
    refine ⟨⟨(hull_ok g (bset _ (List.getElem_mem hi))).1, t1⟩, ?_⟩
    unfold f_least_rules_s4
    rw [t2, List.take_succ, hrow, List.flatMap_append]
    show _ = _ ++ ([_].flatMap _)
    rw [List.flatMap_cons, List.flatMap_nil, List.append_nil]
  rw [Nat.zero_add, List.take_length] at outer
  unfold pre_f_least_rules f_least_rules pre_f_least_rules_1 f_least_rules_1
  rw [B0]
  refine ⟨⟨by omega, pre_subsets (by omega), outer.1⟩, ?_⟩
  rw [outer.2]
  exact srt_uniq ((srt_perm _).trans ((bp.flatMap_right _).trans (srt_perm _).symm)) (srt_le _) (srt_le _)
theorem rules17 (hn : n ≤ 4) (g : Geo n fam) {p : List Nat × Nat} : p ∈ f_least_rules n fam ↔ SetOf n p.1 ∧ p.2 ∈ f_hull fam p.1 ∧ p.2 ∉ p.1 ∧ Mn n fam p.1 p.2 := by
  rw [(least_ok17 hn g).2, mem_srt, List.mem_flatMap]
  constructor
  · rintro ⟨row, hr, hp⟩
    obtain ⟨rfl, h⟩ := (gr_mem g).mp hp
    exact ⟨mem_sets.mp hr, h⟩
  · rintro ⟨h1, h2⟩
    exact ⟨p.1, mem_sets.mpr h1, (gr_mem g).mpr ⟨rfl, h2⟩⟩
theorem rules17_ok (hn : n ≤ 4) (g : Geo n fam) : (f_least_rules n fam).length ≤ 68 ∧ ∀ r ∈ f_least_rules n fam, RuleOf n r := by
  constructor
  · rw [(least_ok17 hn g).2, (srt_perm _).length_eq]
    have := flat_len hn g (f_law_sets n) fun r hr => mem_sets.mp hr
    have := sets_le hn
    omega
  · intro r hr
    obtain ⟨h1, h2, h3, _⟩ := (rules17 hn g).mp hr
    exact ⟨h1, (g.set (hull_ok g h1).2.mem).2 _ h2, h3⟩
theorem cl_iff (hn : n ≤ 4) (g : Geo n fam) {c : List Nat} (hc : SetOf n c) : Cl (f_least_rules n fam) c ↔ c ∈ fam := by
  constructor
  · intro h
    have hh := (hull_ok g hc).2
    have hs := g.set hh.mem
    have : f_hull fam c = c := same_len hc hs hh.sub (nodup_lenA hs.nodup fun t ht => by
      apply Classical.byContradiction
      intro hn2
      obtain ⟨q, q1, q2, q3, q4⟩ := least_below g c.length c (Nat.le_refl _) hc ht
      exact hn2 (h (q, t) ((rules17 hn g).mpr ⟨q1, q3, fun hx => hn2 (q2 t hx), q4⟩) q2))
    rw [← this]; exact hh.mem
  · intro h r hr hs
    obtain ⟨h1, h2, _, _⟩ := (rules17 hn g).mp hr
    exact (hull_ok g h1).2.least c h hs _ h2
theorem sem_iff (hn : n ≤ 4) (g : Geo n fam) {left : List Rl} (hI : Idle n (f_least_rules n fam) left) {row : List Nat} (hr : SetOf n row) {t : Nat} : Sem n left (row, t) ↔ t ∈ f_hull fam row := by
  have hh := (hull_ok g hr).2
  constructor
  · intro h
    have hs := g.set hh.mem
    exact h _ hs ((hI.same _ hs).mpr ((cl_iff hn g hs).mpr hh.mem)) hh.sub
  · intro h c hc hcl hsub
    exact hh.least c ((cl_iff hn g hc).mp ((hI.same c hc).mp hcl)) hsub _ h
end
theorem ok_k17 : f_law_k17.ok 1000000 (fun b => b = true) := by
  have sz := sizeLine_eq
  unfold f_law_k17
  refine ok_le (ok_bind (c1 := 1) (c2 := 900000) ok_things fun n hn => ?_) (by decide)
  obtain ⟨h1, h4⟩ := hn
  refine ok_le (ok_bind (c1 := 1000) (c2 := 800000) (ok_geo17 h4) fun fam g => ?_) (by decide)
  have sl := sets_le h4
  -- what the law's own loop needs
  have need : foldP (f_law_k17_p4 n fam) (f_law_k17_s3 n fam) (f_law_sets n) ([] : List (List Nat × Nat)) := by
    refine (fold_inv (P := f_law_k17_p4 n fam) (step := f_law_k17_s3 n fam) (fun i s => s.length ≤ 4 * i ∧ i ≤ 17) (f_law_sets n) [] 0 ⟨by simp, by omega⟩ fun i row s hrow hI => ?_).1
    rw [Nat.zero_add] at hI ⊢
    have hi := (List.getElem?_eq_some_iff.mp hrow).1
    have hr := mem_sets.mp (List.mem_of_getElem? hrow)
    obtain ⟨lp, le⟩ := law_hull_ok g hr
    have hset := g.set (hull_ok g hr).2.mem
    have hl := hset.len
    have inner := fold_inv (P := f_law_k17_p2 n fam row) (step := f_law_k17_s1 n fam row) (fun j q => q.length ≤ s.length + j) (f_hull fam row) s 0 (Nat.le_refl _) fun j t q ht hq => by
      have hj := (List.getElem?_eq_some_iff.mp ht).1
      rw [Nat.zero_add] at hq ⊢
      refine ⟨fun _ => ⟨pre_sets (by omega), fun other ho _ _ => ⟨(law_hull_ok g (mem_sets.mp ho)).1, by rw [(law_hull_ok g (mem_sets.mp ho)).2]; rfl⟩, fun _ => by omega⟩, ?_⟩
      unfold f_law_k17_s1
      split
      · split
        · rw [List.length_append]; show q.length + 1 ≤ _; omega
        · omega
      · omega
    refine ⟨⟨lp, by rw [le]; rfl, by rw [le]; exact inner.1⟩, ?_, by omega⟩
    unfold f_law_k17_s3
    rw [le]
    have h2 := inner.2
    rw [Nat.zero_add] at h2
    show ((f_hull fam row).foldl (f_law_k17_s1 n fam row) s).length ≤ _
    omega
  refine ok_req ⟨pre_sets (by omega), need⟩ ?_
  rw [due_eq g]
  obtain ⟨p17, e17⟩ := least_ok17 h4 g
  obtain ⟨rl, rr⟩ := rules17_ok h4 g
  unfold f_law_k17_5
  refine ok_req p17 ?_
  obtain ⟨ip, iI⟩ := idle_ok (n := n) (by omega) (rules := f_least_rules n fam) (by omega) rr
  have lr : ∀ r ∈ f_without_idle (f_least_rules n fam), RuleOf n r := fun r hr => rr r (iI.sub r hr)
  have ll := iI.len
  have pcs : ∀ rules : List Rl, pre_f_closed_sets n rules := fun rules => ⟨by omega, pre_subsets (by omega)⟩
  have ecs : f_closed_sets n (f_least_rules n fam) = fam := by
    rw [closed_sets_eq, closed_eq]
    obtain ⟨p, e⟩ := g.filt
    have : ∀ c ∈ f_law_sets n, clB (f_least_rules n fam) c = p c := fun c hc => by
      rw [Bool.eq_iff_iff, clB_iff, cl_iff h4 g (mem_sets.mp hc), e, List.mem_filter]
      exact ⟨fun h => h.2, fun h => ⟨hc, h⟩⟩
    rw [List.filter_congr this, ← e]
  have ebk : f_are_equal_books n (f_least_rules n fam) (f_without_idle (f_least_rules n fam)) = true := by
    unfold f_are_equal_books
    refine decide_eq_true ?_
    rw [closed_sets_eq, closed_sets_eq]
    exact closed_same fun c hc => (iI.same c hc).symm
  unfold f_law_k17_6
  refine ok_req ⟨by rw [e17], ?_, fun _ => ⟨pcs _, by rw [ecs], ?_⟩⟩ (ok_no (by decide) (ok_req ip (ok_req ⟨pcs _, pcs _⟩ (ok_no (by rw [ebk]; rfl) ?_))))
  · rw [← e17]
    refine okQ_L (L := 5) (by show (f_least_rules n fam).length ≤ 1000000; omega) fun r hr => okQ_P (okQ_Ns ?_) (okQ_N _ _)
    have := (rr r hr).1.len
    omega
  · obtain ⟨p, e⟩ := g.filt
    refine okQ_L (L := 5) (by have := List.length_filter_le p (f_law_sets n); rw [← e] at this; show fam.length ≤ 1000000; omega) fun r hr => okQ_Ns ?_
    have := (g.set hr).len
    omega
  · refine ok_le (ok_bind (c1 := 1001 * (List.range 4).length) (c2 := 0) (ok_search fun turn _ => ?_) fun r hr => ok_opt hr (ok_pure rfl)) (by decide)
    unfold f_law_k17_o7
    refine ok_le (ok_bind (c1 := 1000) (c2 := 1) (ok_some (by omega) (by decide)) fun row hrow => ok_le (ok_bind (c1 := 1) (c2 := 0) (ok_draw h1) fun t ht => ?_) (by decide)) (by decide)
    have hr : SetOf n row := (SetOf.range n).sub hrow
    obtain ⟨cp, ci⟩ := comes_ok (n := n) (by omega) (rules := f_without_idle (f_least_rules n fam)) (by omega) (fun r hr => (lr r hr).2.1) (rule := (row, t)) hr
    refine ok_req (fun _ => ⟨cp, (hull_ok g hr).1⟩) (ok_pure ?_)
    have : f_comes_of (f_without_idle (f_least_rules n fam)) (row, t) = decide (t ∈ f_hull fam row) := by
      rw [Bool.eq_iff_iff, ci, sem_iff h4 g iI hr, decide_eq_true_iff]
    rw [this, law_is_self]
    simp
end PL
namespace PL
open PySem PySem.Spec PyProof.Rows L2
section
variable {P : Program} {w : World} {K : PySem.W.Frag} {mg : Str → Option Value} {base h : Heap}
def DF (K : PySem.W.Frag) (x : Str) (st : Stmt) : Prop := ∃ (f : Addr) (oc : Value) (od : Option Addr) (kV doc pm : Value) (an : Option Addr) (cdv ct : Value) (osl : Array (Option Value)),
  PySem.W.nsIn K mainGlobals x = some (some (.ref f)) ∧ K.lookup f = some ⟨oc, od, .func (PySem.W.fnOf x x (C8.fnArgs st) (C8.fnBody st) (C8.fnScope st) .none kV doc pm an cdv ct), osl⟩ ∧ PySem.W.codeIn K cdv x = true ∧ PySem.W.keepIn K (.ref f) = true
theorem df_mk {x : Str} {st : Stmt} {f : Addr} {oc : Value} {od : Option Addr} {kV doc pm : Value} {an : Option Addr} {cdv ct : Value} {osl : Array (Option Value)} (a : PySem.W.nsIn K mainGlobals x = some (some (.ref f)))
    (l : K.lookup f = some ⟨oc, od, .func (PySem.W.fnOf x x (C8.fnArgs st) (C8.fnBody st) (C8.fnScope st) .none kV doc pm an cdv ct), osl⟩) (c : PySem.W.codeIn K cdv x = true) (k : PySem.W.keepIn K (.ref f) = true) : DF K x st :=
  ⟨f, oc, od, kV, doc, pm, an, cdv, ct, osl, a, l, c, k⟩
theorem df_ok (X : K.In h) (G : h.Ns mainGlobals mg) {x : Str} {st : Stmt} (d : DF K x st) (ps : List Str)
    (hb : ∀ (kV doc pm : Value) (an : Option Addr) (cdv ct : Value) (us : List Value), us.length = ps.length → bindArgs (PySem.W.fnOf x x (C8.fnArgs st) (C8.fnBody st) (C8.fnScope st) .none kV doc pm an cdv ct) ⟨us, []⟩ = pure (ps.zip us)) :
    ∃ f fd, C8.Def K mg x st f fd ∧ Binds K fd ps [] := by
  obtain ⟨f, oc, od, kV, doc, pm, an, cdv, ct, osl, a, l, c, k⟩ := d
  have F : C8.Fun K x x st f (PySem.W.fnOf x x (C8.fnArgs st) (C8.fnBody st) (C8.fnScope st) .none kV doc pm an cdv ct) := ⟨⟨oc, od, .none, kV, doc, pm, an, cdv, ct, osl, rfl, l, c⟩⟩
  exact ⟨f, _, ⟨F, PySem.W.mg_of X G a, k⟩, F.binds rfl hb⟩
theorem fns_nil {j : Nat} {sps : Nat → Spec} : FnsOk P w K mg base j [] sps := fun f x h => by cases h
theorem fns_cons {i j f : Nat} {x : Str} {fs : List (Nat × Str)} {sps : Nat → Spec} (c : C8.Cal P w K mg base i x (lift K w (sps f)) []) (hi : i ≤ j) (r : FnsOk P w K mg base j fs sps) : FnsOk P w K mg base j ((f, x) :: fs) sps := fun g y h => by
  rcases List.mem_cons.mp h with e | h
  · cases e; exact ⟨i, hi, c⟩
  · exact r g y h
theorem cs_nil : CsOk K mg [] := fun x d h => by cases h
theorem blt_mk (X : K.In h) (G : h.Ns mainGlobals mg)
    (z1 : PySem.W.nsIn K mainGlobals "len" = some none) (z2 : PySem.W.nsIn K mainGlobals "int" = some none) (z3 : PySem.W.nsIn K mainGlobals "str" = some none) (z4 : PySem.W.nsIn K mainGlobals "tuple" = some none) (z5 : PySem.W.nsIn K mainGlobals "list" = some none)
    (z6 : PySem.W.nsIn K mainGlobals "sorted" = some none) (z7 : PySem.W.nsIn K mainGlobals "min" = some none) (z8 : PySem.W.nsIn K mainGlobals "max" = some none) (z9 : PySem.W.nsIn K mainGlobals "sum" = some none) (z10 : PySem.W.nsIn K mainGlobals "any" = some none)
    (z11 : PySem.W.nsIn K mainGlobals "all" = some none) (z12 : PySem.W.nsIn K mainGlobals "abs" = some none) (z13 : PySem.W.nsIn K mainGlobals "range" = some none) (z14 : PySem.W.nsIn K mainGlobals "isinstance" = some none) (z15 : PySem.W.nsIn K mainGlobals "bool" = some none)
    (z16 : PySem.W.nsIn K mainGlobals "dict" = some none) (z17 : PySem.W.nsIn K mainGlobals "zip" = some none) (z18 : PySem.W.nsIn K mainGlobals "enumerate" = some none) : BltOk mg := by
  intro x hx
  simp only [List.mem_cons, List.not_mem_nil, or_false] at hx
  rcases hx with rfl | rfl | rfl | rfl | rfl | rfl | rfl | rfl | rfl | rfl | rfl | rfl | rfl | rfl | rfl | rfl | rfl | rfl
  all_goals exact PySem.W.mg_none_of X G (by assumption)
theorem never_ok {x : Str} {st : Stmt} {f : Addr} {fd : FuncData} {N ps : List Str} {j : Nat} (F : C8.Def K mg x st f fd) (b : Binds K fd ps []) (S : FnScope N ps (C8.fnScope st)) : C8.Cal P w K mg base (j + 1) x (lift K w (fun _ _ _ _ => False)) [] :=
  C8.cal0 F b .nil S (fun vs H Q E ⟨P', F', ds, dr, QQ, _, _, rs, hs, _⟩ => hs.elim) fun cdv A outer s H vs Q E hr ⟨P', F', ds, dr, QQ, sub, pool, rs, hs, fin⟩ => hs.elim
theorem ends {l : PySem.W.OpenLaw} {q : Program} {loose : List Str} {XP : (Str → Option Value) → Heap → Prop} {YP : World → Heap → Prop} {d : DefRec} {K : Params → PySem.W.Frag} {k : Nat} (hn : l.most = some 63) (hdf : d.params.defaults = []) (hr : Room k callerA)
    (hY : ∀ (w : World) (h : Heap), YP w h → (K w.params).In h)
    (F : ∀ (w : World) (mg : Str → Option Value) (fa : Addr) (h : Heap), (K w.params).In h → h.Ns mainGlobals mg → mg d.name = some (.ref fa) →
      ∃ fd : FuncData, (∀ (s : Shared) (u : Value), BindsTo s fd ⟨[u], []⟩ [("script", u)]) ∧ ∀ base : Heap, (K w.params).In base → base.Ns mainGlobals mg → FnOk l.prog w (K w.params) mg base C8.CX0 k fa fd ["script"] (spLaw (K w.params))) :
    PySem.W.WalkO q loose XP YP l.row.toRowW d [] (fun f vs => PySem.call f vs) :=
  L2.walk_of (n := 63) (k := k) (x := "script") (CX := fun _ => C8.CX0) (sp := fun w => spLaw (K w.params)) hn (by decide) hdf hr hY F (fun _ _ a ns hl _ hS => ⟨a, ns, rfl, hS, fun _ => rfl⟩) fun _ _ _ _ _ z => z
end
end PL
namespace PL
open PySem PySem.Spec PyProof.Rows L2
mutual
def KV (K : PySem.W.Frag) : Value → D → Prop
  | v, .str s => ∃ t, v = .str s t
  | v, .int i => ∃ t, v = .int i t
  | v, .bl b => v = .bool b
  | v, .tup ds => ∃ (a : Addr) (its : Array Value) (n : Nat) (sl : Array (Option Value)), v = .ref a ∧ K.lookup a = some ⟨.type "tuple", none, .seq its n, sl⟩ ∧ its.size ≤ sizeLine ∧ KVs K its.toList ds
  | _, _ => False
def KVs (K : PySem.W.Frag) : List Value → List D → Prop
  | [], [] => True
  | v :: vs, d :: ds => KV K v d ∧ KVs K vs ds
  | _, _ => False
end
mutual
theorem KV.ok {K : PySem.W.Frag} : ∀ {v : Value} {d : D}, KV K v d → ∃ u, RelV u v ∧ ∀ (k : RC) (F : Hp), k.K = K → R k F u d
  | v, .str s, h => by
    unfold KV at h
    obtain ⟨t, rfl⟩ := h
    exact ⟨.str s, ⟨_, rfl⟩, fun _ _ _ => .str _⟩
  | v, .int i, h => by
    unfold KV at h
    obtain ⟨t, rfl⟩ := h
    exact ⟨.int i, ⟨_, rfl⟩, fun _ _ _ => .int _⟩
  | v, .bl b, h => by
    unfold KV at h
    subst h
    exact ⟨.bl b, rfl, fun _ _ _ => .bl _⟩
  | v, .tup ds, h => by
    unfold KV at h
    obtain ⟨a, its, n, sl, rfl, h1, h2, h3⟩ := h
    obtain ⟨us, h4, h5⟩ := KVs.ok h3
    exact ⟨.ref a, rfl, fun k F e => .tup (.inr ⟨_, its, n, by rw [e]; exact h1, rfl, rfl, rfl, h2, h4⟩) (h5 k F e)⟩
  | v, .non, h => by unfold KV at h; exact h.elim
  | v, .lst _, h => by unfold KV at h; exact h.elim
  | v, .dct _, h => by unfold KV at h; exact h.elim
  | v, .rng _ _, h => by unfold KV at h; exact h.elim
  | v, .pool, h => by unfold KV at h; exact h.elim
theorem KVs.ok {K : PySem.W.Frag} : ∀ {vs : List Value} {ds : List D}, KVs K vs ds → ∃ us, Vals us vs ∧ ∀ (k : RC) (F : Hp), k.K = K → Rs k F us ds
  | [], [], _ => ⟨[], .nil, fun _ _ _ => .nil⟩
  | v :: vs, d :: ds, h => by
    unfold KVs at h
    obtain ⟨u, h1, h2⟩ := KV.ok h.1
    obtain ⟨us, h3, h4⟩ := KVs.ok h.2
    exact ⟨u :: us, .cons h1 h3, fun k F e => .cons (h2 k F e) (h4 k F e)⟩
  | [], _ :: _, h => by unfold KVs at h; exact h.elim
  | _ :: _, [], h => by unfold KVs at h; exact h.elim
end
section
variable {K : PySem.W.Frag} {mg : Str → Option Value} {h : Heap}
end
end PL
namespace PL
open PySem PySem.Spec PyProof.Rows L2
def top (i : Nat) : Stmt := PySem.Challenge.pw_whypicked_k17_whole_least_rules_of_geome.main.body.getD i (.Pass ⟨0, 0, 0, 0⟩)
abbrev s__law_cell : Stmt := top 16
abbrev s__law_draw : Stmt := top 19
abbrev s__law_pool : Stmt := top 18
abbrev s__law_numbers : Stmt := top 17
abbrev s__law_things : Stmt := top 33
abbrev s__law_line : Stmt := top 32
abbrev s__law_menus : Stmt := top 29
abbrev s__law_sets : Stmt := top 34
abbrev s__law_geometry : Stmt := top 39
abbrev s__law_in : Stmt := top 30
abbrev s__law_hull : Stmt := top 40
abbrev s_subsets_of : Stmt := top 1
abbrev s_by_size : Stmt := top 2
abbrev s_is_within : Stmt := top 4
abbrev s_hull : Stmt := top 6
abbrev s_least_rules : Stmt := top 12
abbrev s_breaks_rule : Stmt := top 8
abbrev s_closed_sets : Stmt := top 9
abbrev s_filled : Stmt := top 10
abbrev s_comes_of : Stmt := top 11
abbrev s_without_idle : Stmt := top 13
abbrev s_are_equal_books : Stmt := top 14
abbrev s__law_some : Stmt := top 20
abbrev s__law_is : Stmt := top 23
abbrev s__law_kind : Stmt := top 21
abbrev s__law_equal : Stmt := top 22
abbrev s_law : Stmt := top 41
theorem sc__law_cell : FnScope ["script", "k"] ["script", "k"] (C8.fnScope s__law_cell) := C8.fnScope_by (by decide +kernel)
theorem sc__law_draw : FnScope ["pool", "many", "at", "turn"] ["pool", "many"] (C8.fnScope s__law_draw) := C8.fnScope_by (by decide +kernel)
theorem sc__law_pool : FnScope ["script", "rows", "k"] ["script"] (C8.fnScope s__law_pool) := C8.fnScope_by (by decide +kernel)
theorem sc__law_numbers : FnScope ["cell", "many", "rows", "left", "k", "mixed"] ["cell", "many"] (C8.fnScope s__law_numbers) := C8.fnScope_by (by decide +kernel)
theorem sc__law_things : FnScope ["pool"] ["pool"] (C8.fnScope s__law_things) := C8.fnScope_by (by decide +kernel)
theorem sc__law_line : FnScope ["pool", "n", "left", "line", "k"] ["pool", "n"] (C8.fnScope s__law_line) := C8.fnScope_by (by decide +kernel)
theorem sc__law_menus : FnScope ["n", "found", "thing", "row"] ["n"] (C8.fnScope s__law_menus) := C8.fnScope_by (by decide +kernel)
theorem sc__law_sets : FnScope ["n"] ["n"] (C8.fnScope s__law_sets) := C8.fnScope_by (by decide +kernel)
theorem sc__law_geometry : FnScope ["pool", "n", "lines", "k", "found", "row", "bad", "thing", "better", "line", "one"] ["pool", "n"] (C8.fnScope s__law_geometry) := C8.fnScope_by (by decide +kernel)
theorem sc__law_in : FnScope ["one", "two", "thing"] ["one", "two"] (C8.fnScope s__law_in) := C8.fnScope_by (by decide +kernel)
theorem sc__law_hull : FnScope ["family", "row", "found", "other"] ["family", "row"] (C8.fnScope s__law_hull) := C8.fnScope_by (by decide +kernel)
theorem sc_subsets_of : FnScope ["items", "found", "item", "row"] ["items"] (C8.fnScope s_subsets_of) := C8.fnScope_by (by decide +kernel)
theorem sc_by_size : FnScope ["rows", "_", "row"] ["rows"] (C8.fnScope s_by_size) := C8.fnScope_by (by decide +kernel)
theorem sc_is_within : FnScope ["one", "two", "thing"] ["one", "two"] (C8.fnScope s_is_within) := C8.fnScope_by (by decide +kernel)
theorem sc_hull : FnScope ["family", "row", "other"] ["family", "row"] (C8.fnScope s_hull) := C8.fnScope_by (by decide +kernel)
theorem sc_least_rules : FnScope ["things", "family", "found", "row", "thing", "other"] ["things", "family"] (C8.fnScope s_least_rules) := C8.fnScope_by (by decide +kernel)
theorem sc_breaks_rule : FnScope ["row", "rule"] ["row", "rule"] (C8.fnScope s_breaks_rule) := C8.fnScope_by (by decide +kernel)
theorem sc_closed_sets : FnScope ["things", "rules", "row", "rule"] ["things", "rules"] (C8.fnScope s_closed_sets) := C8.fnScope_by (by decide +kernel)
theorem sc_filled : FnScope ["rules", "row", "is_quiet", "more", "rule", "thing"] ["rules", "row"] (C8.fnScope s_filled) := C8.fnScope_by (by decide +kernel)
theorem sc_comes_of : FnScope ["rules", "rule"] ["rules", "rule"] (C8.fnScope s_comes_of) := C8.fnScope_by (by decide +kernel)
theorem sc_without_idle : FnScope ["rules", "found", "rule", "rest", "other"] ["rules"] (C8.fnScope s_without_idle) := C8.fnScope_by (by decide +kernel)
theorem sc_are_equal_books : FnScope ["things", "one", "two"] ["things", "one", "two"] (C8.fnScope s_are_equal_books) := C8.fnScope_by (by decide +kernel)
theorem sc__law_some : FnScope ["pool", "many", "lean", "one"] ["pool", "many", "lean"] (C8.fnScope s__law_some) := C8.fnScope_by (by decide +kernel)
theorem sc__law_is : FnScope ["x", "due"] ["x", "due"] (C8.fnScope s__law_is) := C8.fnScope_by (by decide +kernel)
theorem sc__law_kind : FnScope ["x"] ["x"] (C8.fnScope s__law_kind) := C8.fnScope_by (by decide +kernel)
theorem sc__law_equal : FnScope ["x", "due", "k"] ["x", "due"] (C8.fnScope s__law_equal) := C8.fnScope_by (by decide +kernel)
theorem sc_law : FnScope ["script", "pool", "n", "family", "due", "row", "thing", "lesser", "other", "rules", "left", "turn"] ["script"] (C8.fnScope s_law) := C8.fnScope_by (by decide +kernel)
theorem ck_f_law_things : okB ir_f_law_things ⟨nm_f_law_things, C8.fnScope s__law_things, none, fs_f_law_things, cs_f_law_things⟩ (C8.fnBody s__law_things) = true := by decide +kernel
theorem ck_f_law_line : okB ir_f_law_line ⟨nm_f_law_line, C8.fnScope s__law_line, none, fs_f_law_line, cs_f_law_line⟩ (C8.fnBody s__law_line) = true := by decide +kernel
theorem ck_f_law_menus : okB ir_f_law_menus ⟨nm_f_law_menus, C8.fnScope s__law_menus, none, fs_f_law_menus, cs_f_law_menus⟩ (C8.fnBody s__law_menus) = true := by decide +kernel
theorem ck_f_law_sets : okB ir_f_law_sets ⟨nm_f_law_sets, C8.fnScope s__law_sets, none, fs_f_law_sets, cs_f_law_sets⟩ (C8.fnBody s__law_sets) = true := by decide +kernel
theorem ck_f_law_geometry : okB ir_f_law_geometry ⟨nm_f_law_geometry, C8.fnScope s__law_geometry, none, fs_f_law_geometry, cs_f_law_geometry⟩ (C8.fnBody s__law_geometry) = true := by decide +kernel
theorem ck_f_law_in : okB ir_f_law_in ⟨nm_f_law_in, C8.fnScope s__law_in, none, fs_f_law_in, cs_f_law_in⟩ (C8.fnBody s__law_in) = true := by decide +kernel
theorem ck_f_law_hull : okB ir_f_law_hull ⟨nm_f_law_hull, C8.fnScope s__law_hull, none, fs_f_law_hull, cs_f_law_hull⟩ (C8.fnBody s__law_hull) = true := by decide +kernel
theorem ck_f_subsets_of : okB ir_f_subsets_of ⟨nm_f_subsets_of, C8.fnScope s_subsets_of, none, fs_f_subsets_of, cs_f_subsets_of⟩ (C8.fnBody s_subsets_of) = true := by decide +kernel
theorem ck_f_by_size : okB ir_f_by_size ⟨nm_f_by_size, C8.fnScope s_by_size, none, fs_f_by_size, cs_f_by_size⟩ (C8.fnBody s_by_size) = true := by decide +kernel
theorem ck_f_is_within : okB ir_f_is_within ⟨nm_f_is_within, C8.fnScope s_is_within, none, fs_f_is_within, cs_f_is_within⟩ (C8.fnBody s_is_within) = true := by decide +kernel
theorem ck_f_hull : okB ir_f_hull ⟨nm_f_hull, C8.fnScope s_hull, none, fs_f_hull, cs_f_hull⟩ (C8.fnBody s_hull) = true := by decide +kernel
theorem ck_f_least_rules : okB ir_f_least_rules ⟨nm_f_least_rules, C8.fnScope s_least_rules, none, fs_f_least_rules, cs_f_least_rules⟩ (C8.fnBody s_least_rules) = true := by decide +kernel
theorem ck_f_breaks_rule : okB ir_f_breaks_rule ⟨nm_f_breaks_rule, C8.fnScope s_breaks_rule, none, fs_f_breaks_rule, cs_f_breaks_rule⟩ (C8.fnBody s_breaks_rule) = true := by decide +kernel
theorem ck_f_closed_sets : okB ir_f_closed_sets ⟨nm_f_closed_sets, C8.fnScope s_closed_sets, none, fs_f_closed_sets, cs_f_closed_sets⟩ (C8.fnBody s_closed_sets) = true := by decide +kernel
theorem ck_f_filled_2 : okB ir_f_filled_2 ⟨nm_f_filled_2, C8.fnScope s_filled, none, fs_f_filled_2, cs_f_filled_2⟩ (C8.fnBody s_filled) = true := by decide +kernel
theorem ck_f_comes_of_2 : okB ir_f_comes_of_2 ⟨nm_f_comes_of_2, C8.fnScope s_comes_of, none, fs_f_comes_of_2, cs_f_comes_of_2⟩ (C8.fnBody s_comes_of) = true := by decide +kernel
theorem ck_f_without_idle : okB ir_f_without_idle ⟨nm_f_without_idle, C8.fnScope s_without_idle, none, fs_f_without_idle, cs_f_without_idle⟩ (C8.fnBody s_without_idle) = true := by decide +kernel
theorem ck_f_are_equal_books : okB ir_f_are_equal_books ⟨nm_f_are_equal_books, C8.fnScope s_are_equal_books, none, fs_f_are_equal_books, cs_f_are_equal_books⟩ (C8.fnBody s_are_equal_books) = true := by decide +kernel
theorem ck_f_law_some : okB ir_f_law_some ⟨nm_f_law_some, C8.fnScope s__law_some, none, fs_f_law_some, cs_f_law_some⟩ (C8.fnBody s__law_some) = true := by decide +kernel
theorem ck_f_filled : okB ir_f_filled ⟨nm_f_filled, C8.fnScope s_filled, none, fs_f_filled, cs_f_filled⟩ (C8.fnBody s_filled) = true := by decide +kernel
theorem ck_f_comes_of : okB ir_f_comes_of ⟨nm_f_comes_of, C8.fnScope s_comes_of, none, fs_f_comes_of, cs_f_comes_of⟩ (C8.fnBody s_comes_of) = true := by decide +kernel
theorem ck_f_law_is : okB ir_f_law_is ⟨nm_f_law_is, C8.fnScope s__law_is, none, fs_f_law_is, cs_f_law_is⟩ (C8.fnBody s__law_is) = true := by decide +kernel
theorem ck__law_numbers : okB ir__law_numbers ⟨nm__law_numbers, C8.fnScope s__law_numbers, none, fs__law_numbers, cs__law_numbers⟩ (C8.fnBody s__law_numbers) = true := by decide +kernel
theorem ck__law_equal : okB ir__law_equal ⟨nm__law_equal, C8.fnScope s__law_equal, none, fs__law_equal, cs__law_equal⟩ (C8.fnBody s__law_equal) = true := by decide +kernel
theorem ck__law_kind : okB ir__law_kind ⟨nm__law_kind, C8.fnScope s__law_kind, none, fs__law_kind, cs__law_kind⟩ (C8.fnBody s__law_kind) = true := by decide +kernel
def spsE (e b : Spec) : Nat → Spec
  | 24120 => sp_f_law_things
  | 22020 => sp_f_law_line
  | 22240 => sp_f_law_menus
  | 23620 => sp_f_law_sets
  | 21320 => sp_f_law_geometry
  | 21420 => sp_f_law_in
  | 21400 => sp_f_law_hull
  | 34100 => sp_f_subsets_of
  | 26100 => sp_f_by_size
  | 30920 => sp_f_is_within
  | 28720 => sp_f_hull
  | 31140 => sp_f_least_rules
  | 25920 => sp_f_breaks_rule
  | 27260 => sp_f_closed_sets
  | 28001 => sp_f_filled_2
  | 27321 => sp_f_comes_of_2
  | 35320 => sp_f_without_idle
  | 25100 => sp_f_are_equal_books
  | 23860 => sp_f_law_some
  | 28000 => sp_f_filled
  | 27320 => sp_f_comes_of
  | 21480 => sp_f_law_is
  | 50 => sp_draw
  | 91 => sp__law_kind
  | 52 => e
  | 125 => sp_numbers
  | _ => fun _ _ _ _ => False
theorem main_k17 (C : PC) (h_f_law_things : C.sp 24120 = sp_f_law_things) (h_f_law_geometry : C.sp 21320 = sp_f_law_geometry) (h_f_law_sets : C.sp 23620 = sp_f_law_sets) (h_f_law_hull : C.sp 21400 = sp_f_law_hull) (h_f_law_in : C.sp 21420 = sp_f_law_in) (h_f_least_rules : C.sp 31140 = sp_f_least_rules) (h_equal : C.sp 52 = sp__law_equal 6) (h_f_closed_sets : C.sp 27260 = sp_f_closed_sets) (h_f_without_idle : C.sp 35320 = sp_f_without_idle) (h_f_are_equal_books : C.sp 25100 = sp_f_are_equal_books) (h_f_law_some : C.sp 23860 = sp_f_law_some) (h_draw : C.sp 50 = sp_draw) (h_f_comes_of : C.sp 27320 = sp_f_comes_of) (h_f_hull : C.sp 28720 = sp_f_hull) (h_f_law_is : C.sp 21480 = sp_f_law_is) : wpS C ir_f_law_k17 (lawEnv nm_f_law_k17.length) ⟨fun _ => False, fun r _ => r = .val (.bl true), fun _ => False, fun _ => False⟩ := law_end rfl (bm_f_law_k17 h_f_law_things h_f_law_geometry h_f_law_sets h_f_law_hull h_f_law_in h_f_least_rules h_equal h_f_closed_sets h_f_without_idle h_f_are_equal_books h_f_law_some h_draw h_f_comes_of h_f_hull h_f_law_is) ok_k17
theorem all_ok {l : PySem.W.OpenLaw} (hl : l.prog = PySem.Challenge.pw_whypicked_k17_whole_least_rules_of_geome) {w : World} {K : PySem.W.Frag} {h : Heap} {mg : Str → Option Value} {fa : Addr} (X : K.In h) (G : h.Ns mainGlobals mg) (hfa : mg "law" = some (.ref fa)) (hb : BltOk mg)
    (d__law_cell : DF K "_law_cell" s__law_cell)
    (d__law_draw : DF K "_law_draw" s__law_draw)
    (d__law_pool : DF K "_law_pool" s__law_pool)
    (d__law_numbers : DF K "_law_numbers" s__law_numbers)
    (d__law_things : DF K "_law_things" s__law_things)
    (d__law_line : DF K "_law_line" s__law_line)
    (d__law_menus : DF K "_law_menus" s__law_menus)
    (d__law_sets : DF K "_law_sets" s__law_sets)
    (d__law_geometry : DF K "_law_geometry" s__law_geometry)
    (d__law_in : DF K "_law_in" s__law_in)
    (d__law_hull : DF K "_law_hull" s__law_hull)
    (d_subsets_of : DF K "subsets_of" s_subsets_of)
    (d_by_size : DF K "by_size" s_by_size)
    (d_is_within : DF K "is_within" s_is_within)
    (d_hull : DF K "hull" s_hull)
    (d_least_rules : DF K "least_rules" s_least_rules)
    (d_breaks_rule : DF K "breaks_rule" s_breaks_rule)
    (d_closed_sets : DF K "closed_sets" s_closed_sets)
    (d_filled : DF K "filled" s_filled)
    (d_comes_of : DF K "comes_of" s_comes_of)
    (d_without_idle : DF K "without_idle" s_without_idle)
    (d_are_equal_books : DF K "are_equal_books" s_are_equal_books)
    (d__law_some : DF K "_law_some" s__law_some)
    (d__law_is : DF K "_law_is" s__law_is)
    (d__law_kind : DF K "_law_kind" s__law_kind)
    (d__law_equal : DF K "_law_equal" s__law_equal)
    (d_law : DF K "law" s_law) :
    ∃ fd : FuncData, (∀ (s : Shared) (v : Value), BindsTo s fd ⟨[v], []⟩ [("script", v)]) ∧ ∀ base : Heap, K.In base → base.Ns mainGlobals mg → FnOk l.prog w K mg base C8.CX0 9 fa fd ["script"] (spLaw K) := by
  obtain ⟨f__law_cell, fd__law_cell, D__law_cell, b__law_cell⟩ := df_ok X G d__law_cell ["script", "k"] fun _ _ _ _ _ _ us hl => match us, hl with | [_, _], _ => rfl
  obtain ⟨f__law_draw, fd__law_draw, D__law_draw, b__law_draw⟩ := df_ok X G d__law_draw ["pool", "many"] fun _ _ _ _ _ _ us hl => match us, hl with | [_, _], _ => rfl
  obtain ⟨f__law_pool, fd__law_pool, D__law_pool, b__law_pool⟩ := df_ok X G d__law_pool ["script"] fun _ _ _ _ _ _ us hl => match us, hl with | [_], _ => rfl
  obtain ⟨f__law_numbers, fd__law_numbers, D__law_numbers, b__law_numbers⟩ := df_ok X G d__law_numbers ["cell", "many"] fun _ _ _ _ _ _ us hl => match us, hl with | [_, _], _ => rfl
  obtain ⟨f__law_things, fd__law_things, D__law_things, b__law_things⟩ := df_ok X G d__law_things ["pool"] fun _ _ _ _ _ _ us hl => match us, hl with | [_], _ => rfl
  obtain ⟨f__law_line, fd__law_line, D__law_line, b__law_line⟩ := df_ok X G d__law_line ["pool", "n"] fun _ _ _ _ _ _ us hl => match us, hl with | [_, _], _ => rfl
  obtain ⟨f__law_menus, fd__law_menus, D__law_menus, b__law_menus⟩ := df_ok X G d__law_menus ["n"] fun _ _ _ _ _ _ us hl => match us, hl with | [_], _ => rfl
  obtain ⟨f__law_sets, fd__law_sets, D__law_sets, b__law_sets⟩ := df_ok X G d__law_sets ["n"] fun _ _ _ _ _ _ us hl => match us, hl with | [_], _ => rfl
  obtain ⟨f__law_geometry, fd__law_geometry, D__law_geometry, b__law_geometry⟩ := df_ok X G d__law_geometry ["pool", "n"] fun _ _ _ _ _ _ us hl => match us, hl with | [_, _], _ => rfl
  obtain ⟨f__law_in, fd__law_in, D__law_in, b__law_in⟩ := df_ok X G d__law_in ["one", "two"] fun _ _ _ _ _ _ us hl => match us, hl with | [_, _], _ => rfl
  obtain ⟨f__law_hull, fd__law_hull, D__law_hull, b__law_hull⟩ := df_ok X G d__law_hull ["family", "row"] fun _ _ _ _ _ _ us hl => match us, hl with | [_, _], _ => rfl
  obtain ⟨f_subsets_of, fd_subsets_of, D_subsets_of, b_subsets_of⟩ := df_ok X G d_subsets_of ["items"] fun _ _ _ _ _ _ us hl => match us, hl with | [_], _ => rfl
  obtain ⟨f_by_size, fd_by_size, D_by_size, b_by_size⟩ := df_ok X G d_by_size ["rows"] fun _ _ _ _ _ _ us hl => match us, hl with | [_], _ => rfl
  obtain ⟨f_is_within, fd_is_within, D_is_within, b_is_within⟩ := df_ok X G d_is_within ["one", "two"] fun _ _ _ _ _ _ us hl => match us, hl with | [_, _], _ => rfl
  obtain ⟨f_hull, fd_hull, D_hull, b_hull⟩ := df_ok X G d_hull ["family", "row"] fun _ _ _ _ _ _ us hl => match us, hl with | [_, _], _ => rfl
  obtain ⟨f_least_rules, fd_least_rules, D_least_rules, b_least_rules⟩ := df_ok X G d_least_rules ["things", "family"] fun _ _ _ _ _ _ us hl => match us, hl with | [_, _], _ => rfl
  obtain ⟨f_breaks_rule, fd_breaks_rule, D_breaks_rule, b_breaks_rule⟩ := df_ok X G d_breaks_rule ["row", "rule"] fun _ _ _ _ _ _ us hl => match us, hl with | [_, _], _ => rfl
  obtain ⟨f_closed_sets, fd_closed_sets, D_closed_sets, b_closed_sets⟩ := df_ok X G d_closed_sets ["things", "rules"] fun _ _ _ _ _ _ us hl => match us, hl with | [_, _], _ => rfl
  obtain ⟨f_filled, fd_filled, D_filled, b_filled⟩ := df_ok X G d_filled ["rules", "row"] fun _ _ _ _ _ _ us hl => match us, hl with | [_, _], _ => rfl
  obtain ⟨f_comes_of, fd_comes_of, D_comes_of, b_comes_of⟩ := df_ok X G d_comes_of ["rules", "rule"] fun _ _ _ _ _ _ us hl => match us, hl with | [_, _], _ => rfl
  obtain ⟨f_without_idle, fd_without_idle, D_without_idle, b_without_idle⟩ := df_ok X G d_without_idle ["rules"] fun _ _ _ _ _ _ us hl => match us, hl with | [_], _ => rfl
  obtain ⟨f_are_equal_books, fd_are_equal_books, D_are_equal_books, b_are_equal_books⟩ := df_ok X G d_are_equal_books ["things", "one", "two"] fun _ _ _ _ _ _ us hl => match us, hl with | [_, _, _], _ => rfl
  obtain ⟨f__law_some, fd__law_some, D__law_some, b__law_some⟩ := df_ok X G d__law_some ["pool", "many", "lean"] fun _ _ _ _ _ _ us hl => match us, hl with | [_, _, _], _ => rfl
  obtain ⟨f__law_is, fd__law_is, D__law_is, b__law_is⟩ := df_ok X G d__law_is ["x", "due"] fun _ _ _ _ _ _ us hl => match us, hl with | [_, _], _ => rfl
  obtain ⟨f__law_kind, fd__law_kind, D__law_kind, b__law_kind⟩ := df_ok X G d__law_kind ["x"] fun _ _ _ _ _ _ us hl => match us, hl with | [_], _ => rfl
  obtain ⟨f__law_equal, fd__law_equal, D__law_equal, b__law_equal⟩ := df_ok X G d__law_equal ["x", "due"] fun _ _ _ _ _ _ us hl => match us, hl with | [_, _], _ => rfl
  obtain ⟨fl, oc, od, kV, doc, pm, an, cdv, ct, osl, a, lk, c, kp⟩ := d_law
  have e := hfa.symm.trans (PySem.W.mg_of X G a)
  cases e
  have FL : C8.Fun K "law" "law" s_law fa _ := ⟨⟨oc, od, .none, kV, doc, pm, an, cdv, ct, osl, rfl, lk, c⟩⟩
  refine ⟨PySem.W.fnOf "law" "law" (C8.fnArgs s_law) (C8.fnBody s_law) (C8.fnScope s_law) .none kV doc pm an cdv ct, fun s v => .of_eq rfl, fun base _ _ => ?_⟩
  have c__law_cell : C8.Cal l.prog w K mg base 1 "_law_cell" (spCell K) [] := cell_ok D__law_cell b__law_cell sc__law_cell hb (by decide +kernel) rfl
  have c_draw : C8.Cal l.prog w K mg base 1 "_law_draw" (lift K w sp_draw) [] := draw_ok D__law_draw b__law_draw sc__law_draw hb (by decide +kernel) rfl
  have c_numbers : C8.Cal l.prog w K mg base 1 "_law_numbers" (lift K w (sp_numbers)) [] := def_ok (N := nm__law_numbers) (ps := ["cell", "many"]) (j := 0) (fs := fs__law_numbers) (cs := cs__law_numbers) (sps := (spsE (sp__law_equal 6) (fun _ _ _ _ => False))) (body := ir__law_numbers) D__law_numbers b__law_numbers sc__law_numbers (by decide) hb cs_nil fns_nil ck__law_numbers (fun _ _ _ _ ⟨_, _, e, _⟩ => by rw [e]; rfl) (numbers_wp _)
  have c_pool : C8.Cal l.prog w K mg base 2 "_law_pool" (spPool K) [] := pool_ok (j := 1) D__law_pool b__law_pool sc__law_pool hb c__law_cell (by decide) c_numbers (by decide) (by decide +kernel) rfl
  have c__law_kind : C8.Cal l.prog w K mg base 1 "_law_kind" (lift K w (sp__law_kind)) [] := def_ok (N := nm__law_kind) (ps := ["x"]) (j := 0) (fs := fs__law_kind) (cs := cs__law_kind) (sps := (spsE (sp__law_equal 6) (fun _ _ _ _ => False))) (body := ir__law_kind) D__law_kind b__law_kind sc__law_kind (by decide) hb cs_nil fns_nil ck__law_kind (fun ds dr Q _ hh => by unfold sp__law_kind at hh; obtain ⟨_, e, _⟩ := hh; rw [e]; rfl) (wp__law_kind _ _ )
  have c_eqn : C8.Cal l.prog w K mg base 1 "_law_equal" (lift K w (fun _ _ _ _ => False)) [] := never_ok D__law_equal b__law_equal sc__law_equal
  have c_eq0 : C8.Cal l.prog w K mg base 2 "_law_equal" (lift K w (sp__law_equal 0)) [] := def_ok (N := nm__law_equal) (ps := ["x", "due"]) (j := 1) (fs := fs__law_equal) (cs := cs__law_equal) (sps := (spsE (fun _ _ _ _ => False) (fun _ _ _ _ => False))) (body := ir__law_equal) D__law_equal b__law_equal sc__law_equal (by decide) hb cs_nil (fns_cons c__law_kind (by decide) (fns_cons c_eqn (by decide) fns_nil)) ck__law_equal (fun ds dr Q _ hh => by unfold sp__law_equal at hh; obtain ⟨_, e, _⟩ := hh; rw [e]; rfl) (wp__law_equal 0 _ _ rfl (fun M e => by cases e))
  have c_eq1 : C8.Cal l.prog w K mg base 3 "_law_equal" (lift K w (sp__law_equal 1)) [] := def_ok (N := nm__law_equal) (ps := ["x", "due"]) (j := 2) (fs := fs__law_equal) (cs := cs__law_equal) (sps := (spsE (sp__law_equal 0) (fun _ _ _ _ => False))) (body := ir__law_equal) D__law_equal b__law_equal sc__law_equal (by decide) hb cs_nil (fns_cons c__law_kind (by decide) (fns_cons c_eq0 (by decide) fns_nil)) ck__law_equal (fun ds dr Q _ hh => by unfold sp__law_equal at hh; obtain ⟨_, e, _⟩ := hh; rw [e]; rfl) (wp__law_equal 1 _ _ rfl (fun M e => by cases e; rfl))
  have c_eq2 : C8.Cal l.prog w K mg base 4 "_law_equal" (lift K w (sp__law_equal 2)) [] := def_ok (N := nm__law_equal) (ps := ["x", "due"]) (j := 3) (fs := fs__law_equal) (cs := cs__law_equal) (sps := (spsE (sp__law_equal 1) (fun _ _ _ _ => False))) (body := ir__law_equal) D__law_equal b__law_equal sc__law_equal (by decide) hb cs_nil (fns_cons c__law_kind (by decide) (fns_cons c_eq1 (by decide) fns_nil)) ck__law_equal (fun ds dr Q _ hh => by unfold sp__law_equal at hh; obtain ⟨_, e, _⟩ := hh; rw [e]; rfl) (wp__law_equal 2 _ _ rfl (fun M e => by cases e; rfl))
  have c_eq3 : C8.Cal l.prog w K mg base 5 "_law_equal" (lift K w (sp__law_equal 3)) [] := def_ok (N := nm__law_equal) (ps := ["x", "due"]) (j := 4) (fs := fs__law_equal) (cs := cs__law_equal) (sps := (spsE (sp__law_equal 2) (fun _ _ _ _ => False))) (body := ir__law_equal) D__law_equal b__law_equal sc__law_equal (by decide) hb cs_nil (fns_cons c__law_kind (by decide) (fns_cons c_eq2 (by decide) fns_nil)) ck__law_equal (fun ds dr Q _ hh => by unfold sp__law_equal at hh; obtain ⟨_, e, _⟩ := hh; rw [e]; rfl) (wp__law_equal 3 _ _ rfl (fun M e => by cases e; rfl))
  have c_eq4 : C8.Cal l.prog w K mg base 6 "_law_equal" (lift K w (sp__law_equal 4)) [] := def_ok (N := nm__law_equal) (ps := ["x", "due"]) (j := 5) (fs := fs__law_equal) (cs := cs__law_equal) (sps := (spsE (sp__law_equal 3) (fun _ _ _ _ => False))) (body := ir__law_equal) D__law_equal b__law_equal sc__law_equal (by decide) hb cs_nil (fns_cons c__law_kind (by decide) (fns_cons c_eq3 (by decide) fns_nil)) ck__law_equal (fun ds dr Q _ hh => by unfold sp__law_equal at hh; obtain ⟨_, e, _⟩ := hh; rw [e]; rfl) (wp__law_equal 4 _ _ rfl (fun M e => by cases e; rfl))
  have c_eq5 : C8.Cal l.prog w K mg base 7 "_law_equal" (lift K w (sp__law_equal 5)) [] := def_ok (N := nm__law_equal) (ps := ["x", "due"]) (j := 6) (fs := fs__law_equal) (cs := cs__law_equal) (sps := (spsE (sp__law_equal 4) (fun _ _ _ _ => False))) (body := ir__law_equal) D__law_equal b__law_equal sc__law_equal (by decide) hb cs_nil (fns_cons c__law_kind (by decide) (fns_cons c_eq4 (by decide) fns_nil)) ck__law_equal (fun ds dr Q _ hh => by unfold sp__law_equal at hh; obtain ⟨_, e, _⟩ := hh; rw [e]; rfl) (wp__law_equal 5 _ _ rfl (fun M e => by cases e; rfl))
  have c_eq6 : C8.Cal l.prog w K mg base 8 "_law_equal" (lift K w (sp__law_equal 6)) [] := def_ok (N := nm__law_equal) (ps := ["x", "due"]) (j := 7) (fs := fs__law_equal) (cs := cs__law_equal) (sps := (spsE (sp__law_equal 5) (fun _ _ _ _ => False))) (body := ir__law_equal) D__law_equal b__law_equal sc__law_equal (by decide) hb cs_nil (fns_cons c__law_kind (by decide) (fns_cons c_eq5 (by decide) fns_nil)) ck__law_equal (fun ds dr Q _ hh => by unfold sp__law_equal at hh; obtain ⟨_, e, _⟩ := hh; rw [e]; rfl) (wp__law_equal 6 _ _ rfl (fun M e => by cases e; rfl))
  have c_f_law_things : C8.Cal l.prog w K mg base 2 "_law_things" (lift K w (sp_f_law_things)) [] := def_ok (N := nm_f_law_things) (ps := ["pool"]) (j := 1) (fs := fs_f_law_things) (cs := cs_f_law_things) (sps := (spsE (sp__law_equal 6) (fun _ _ _ _ => False))) (body := ir_f_law_things) D__law_things b__law_things sc__law_things (by decide) hb cs_nil (fns_cons c_draw (by decide) fns_nil) ck_f_law_things (fun ds dr Q _ hh => by unfold sp_f_law_things at hh; obtain ⟨e, _⟩ := hh; rw [e]; rfl) (wp_f_law_things _ _ rfl)
  have c_f_law_line : C8.Cal l.prog w K mg base 2 "_law_line" (lift K w (sp_f_law_line)) [] := def_ok (N := nm_f_law_line) (ps := ["pool", "n"]) (j := 1) (fs := fs_f_law_line) (cs := cs_f_law_line) (sps := (spsE (sp__law_equal 6) (fun _ _ _ _ => False))) (body := ir_f_law_line) D__law_line b__law_line sc__law_line (by decide) hb cs_nil (fns_cons c_draw (by decide) fns_nil) ck_f_law_line (fun ds dr Q _ hh => by unfold sp_f_law_line at hh; obtain ⟨_, e, _⟩ := hh; rw [e]; rfl) (wp_f_law_line _ _ rfl)
  have c_f_law_menus : C8.Cal l.prog w K mg base 1 "_law_menus" (lift K w (sp_f_law_menus)) [] := def_ok (N := nm_f_law_menus) (ps := ["n"]) (j := 0) (fs := fs_f_law_menus) (cs := cs_f_law_menus) (sps := (spsE (sp__law_equal 6) (fun _ _ _ _ => False))) (body := ir_f_law_menus) D__law_menus b__law_menus sc__law_menus (by decide) hb cs_nil fns_nil ck_f_law_menus (fun ds dr Q _ hh => by unfold sp_f_law_menus at hh; obtain ⟨_, e, _⟩ := hh; rw [e]; rfl) (wp_f_law_menus _ _ )
  have c_f_law_sets : C8.Cal l.prog w K mg base 2 "_law_sets" (lift K w (sp_f_law_sets)) [] := def_ok (N := nm_f_law_sets) (ps := ["n"]) (j := 1) (fs := fs_f_law_sets) (cs := cs_f_law_sets) (sps := (spsE (sp__law_equal 6) (fun _ _ _ _ => False))) (body := ir_f_law_sets) D__law_sets b__law_sets sc__law_sets (by decide) hb cs_nil (fns_cons c_f_law_menus (by decide) fns_nil) ck_f_law_sets (fun ds dr Q _ hh => by unfold sp_f_law_sets at hh; obtain ⟨_, e, _⟩ := hh; rw [e]; rfl) (wp_f_law_sets _ _ rfl)
  have c_f_law_geometry : C8.Cal l.prog w K mg base 3 "_law_geometry" (lift K w (sp_f_law_geometry)) [] := def_ok (N := nm_f_law_geometry) (ps := ["pool", "n"]) (j := 2) (fs := fs_f_law_geometry) (cs := cs_f_law_geometry) (sps := (spsE (sp__law_equal 6) (fun _ _ _ _ => False))) (body := ir_f_law_geometry) D__law_geometry b__law_geometry sc__law_geometry (by decide) hb cs_nil (fns_cons c_draw (by decide) (fns_cons c_f_law_line (by decide) (fns_cons c_f_law_sets (by decide) fns_nil))) ck_f_law_geometry (fun ds dr Q _ hh => by unfold sp_f_law_geometry at hh; obtain ⟨_, e, _⟩ := hh; rw [e]; rfl) (wp_f_law_geometry _ _ rfl rfl rfl)
  have c_f_law_in : C8.Cal l.prog w K mg base 1 "_law_in" (lift K w (sp_f_law_in)) [] := def_ok (N := nm_f_law_in) (ps := ["one", "two"]) (j := 0) (fs := fs_f_law_in) (cs := cs_f_law_in) (sps := (spsE (sp__law_equal 6) (fun _ _ _ _ => False))) (body := ir_f_law_in) D__law_in b__law_in sc__law_in (by decide) hb cs_nil fns_nil ck_f_law_in (fun ds dr Q _ hh => by unfold sp_f_law_in at hh; obtain ⟨_, _, e, _⟩ := hh; rw [e]; rfl) (wp_f_law_in _ _ )
  have c_f_law_hull : C8.Cal l.prog w K mg base 2 "_law_hull" (lift K w (sp_f_law_hull)) [] := def_ok (N := nm_f_law_hull) (ps := ["family", "row"]) (j := 1) (fs := fs_f_law_hull) (cs := cs_f_law_hull) (sps := (spsE (sp__law_equal 6) (fun _ _ _ _ => False))) (body := ir_f_law_hull) D__law_hull b__law_hull sc__law_hull (by decide) hb cs_nil (fns_cons c_f_law_in (by decide) fns_nil) ck_f_law_hull (fun ds dr Q _ hh => by unfold sp_f_law_hull at hh; obtain ⟨_, _, e, _⟩ := hh; rw [e]; rfl) (wp_f_law_hull _ _ rfl)
  have c_f_subsets_of : C8.Cal l.prog w K mg base 1 "subsets_of" (lift K w (sp_f_subsets_of)) [] := def_ok (N := nm_f_subsets_of) (ps := ["items"]) (j := 0) (fs := fs_f_subsets_of) (cs := cs_f_subsets_of) (sps := (spsE (sp__law_equal 6) (fun _ _ _ _ => False))) (body := ir_f_subsets_of) D_subsets_of b_subsets_of sc_subsets_of (by decide) hb cs_nil fns_nil ck_f_subsets_of (fun ds dr Q _ hh => by unfold sp_f_subsets_of at hh; obtain ⟨_, e, _⟩ := hh; rw [e]; rfl) (wp_f_subsets_of _ _ )
  have c_f_by_size : C8.Cal l.prog w K mg base 1 "by_size" (lift K w (sp_f_by_size)) [] := def_ok (N := nm_f_by_size) (ps := ["rows"]) (j := 0) (fs := fs_f_by_size) (cs := cs_f_by_size) (sps := (spsE (sp__law_equal 6) (fun _ _ _ _ => False))) (body := ir_f_by_size) D_by_size b_by_size sc_by_size (by decide) hb cs_nil fns_nil ck_f_by_size (fun ds dr Q _ hh => by unfold sp_f_by_size at hh; obtain ⟨_, e, _⟩ := hh; rw [e]; rfl) (wp_f_by_size _ _ )
  have c_f_is_within : C8.Cal l.prog w K mg base 1 "is_within" (lift K w (sp_f_is_within)) [] := def_ok (N := nm_f_is_within) (ps := ["one", "two"]) (j := 0) (fs := fs_f_is_within) (cs := cs_f_is_within) (sps := (spsE (sp__law_equal 6) (fun _ _ _ _ => False))) (body := ir_f_is_within) D_is_within b_is_within sc_is_within (by decide) hb cs_nil fns_nil ck_f_is_within (fun ds dr Q _ hh => by unfold sp_f_is_within at hh; obtain ⟨_, _, e, _⟩ := hh; rw [e]; rfl) (wp_f_is_within _ _ )
  have c_f_hull : C8.Cal l.prog w K mg base 2 "hull" (lift K w (sp_f_hull)) [] := def_ok (N := nm_f_hull) (ps := ["family", "row"]) (j := 1) (fs := fs_f_hull) (cs := cs_f_hull) (sps := (spsE (sp__law_equal 6) (fun _ _ _ _ => False))) (body := ir_f_hull) D_hull b_hull sc_hull (by decide) hb cs_nil (fns_cons c_f_is_within (by decide) fns_nil) ck_f_hull (fun ds dr Q _ hh => by unfold sp_f_hull at hh; obtain ⟨_, _, e, _⟩ := hh; rw [e]; rfl) (wp_f_hull _ _ rfl)
  have c_f_least_rules : C8.Cal l.prog w K mg base 3 "least_rules" (lift K w (sp_f_least_rules)) [] := def_ok (N := nm_f_least_rules) (ps := ["things", "family"]) (j := 2) (fs := fs_f_least_rules) (cs := cs_f_least_rules) (sps := (spsE (sp__law_equal 6) (fun _ _ _ _ => False))) (body := ir_f_least_rules) D_least_rules b_least_rules sc_least_rules (by decide) hb cs_nil (fns_cons c_f_subsets_of (by decide) (fns_cons c_f_by_size (by decide) (fns_cons c_f_hull (by decide) (fns_cons c_f_is_within (by decide) fns_nil)))) ck_f_least_rules (fun ds dr Q _ hh => by unfold sp_f_least_rules at hh; obtain ⟨_, _, e, _⟩ := hh; rw [e]; rfl) (wp_f_least_rules _ _ rfl rfl rfl rfl)
  have c_f_breaks_rule : C8.Cal l.prog w K mg base 2 "breaks_rule" (lift K w (sp_f_breaks_rule)) [] := def_ok (N := nm_f_breaks_rule) (ps := ["row", "rule"]) (j := 1) (fs := fs_f_breaks_rule) (cs := cs_f_breaks_rule) (sps := (spsE (sp__law_equal 6) (fun _ _ _ _ => False))) (body := ir_f_breaks_rule) D_breaks_rule b_breaks_rule sc_breaks_rule (by decide) hb cs_nil (fns_cons c_f_is_within (by decide) fns_nil) ck_f_breaks_rule (fun ds dr Q _ hh => by unfold sp_f_breaks_rule at hh; obtain ⟨_, _, e, _⟩ := hh; rw [e]; rfl) (wp_f_breaks_rule _ _ rfl)
  have c_f_closed_sets : C8.Cal l.prog w K mg base 3 "closed_sets" (lift K w (sp_f_closed_sets)) [] := def_ok (N := nm_f_closed_sets) (ps := ["things", "rules"]) (j := 2) (fs := fs_f_closed_sets) (cs := cs_f_closed_sets) (sps := (spsE (sp__law_equal 6) (fun _ _ _ _ => False))) (body := ir_f_closed_sets) D_closed_sets b_closed_sets sc_closed_sets (by decide) hb cs_nil (fns_cons c_f_subsets_of (by decide) (fns_cons c_f_breaks_rule (by decide) fns_nil)) ck_f_closed_sets (fun ds dr Q _ hh => by unfold sp_f_closed_sets at hh; obtain ⟨_, _, e, _⟩ := hh; rw [e]; rfl) (wp_f_closed_sets _ _ rfl rfl)
  have c_f_filled_2 : C8.Cal l.prog w K mg base 3 "filled" (lift K w (sp_f_filled_2)) [] := def_ok (N := nm_f_filled_2) (ps := ["rules", "row"]) (j := 2) (fs := fs_f_filled_2) (cs := cs_f_filled_2) (sps := (spsE (sp__law_equal 6) (fun _ _ _ _ => False))) (body := ir_f_filled_2) D_filled b_filled sc_filled (by decide) hb cs_nil (fns_cons c_f_breaks_rule (by decide) fns_nil) ck_f_filled_2 (fun ds dr Q _ hh => by unfold sp_f_filled_2 at hh; obtain ⟨_, _, e, _⟩ := hh; rw [e]; rfl) (wp_f_filled_2 _ _ rfl)
  have c_f_comes_of_2 : C8.Cal l.prog w K mg base 4 "comes_of" (lift K w (sp_f_comes_of_2)) [] := def_ok (N := nm_f_comes_of_2) (ps := ["rules", "rule"]) (j := 3) (fs := fs_f_comes_of_2) (cs := cs_f_comes_of_2) (sps := (spsE (sp__law_equal 6) (fun _ _ _ _ => False))) (body := ir_f_comes_of_2) D_comes_of b_comes_of sc_comes_of (by decide) hb cs_nil (fns_cons c_f_filled_2 (by decide) fns_nil) ck_f_comes_of_2 (fun ds dr Q _ hh => by unfold sp_f_comes_of_2 at hh; obtain ⟨_, _, e, _⟩ := hh; rw [e]; rfl) (wp_f_comes_of_2 _ _ rfl)
  have c_f_without_idle : C8.Cal l.prog w K mg base 5 "without_idle" (lift K w (sp_f_without_idle)) [] := def_ok (N := nm_f_without_idle) (ps := ["rules"]) (j := 4) (fs := fs_f_without_idle) (cs := cs_f_without_idle) (sps := (spsE (sp__law_equal 6) (fun _ _ _ _ => False))) (body := ir_f_without_idle) D_without_idle b_without_idle sc_without_idle (by decide) hb cs_nil (fns_cons c_f_comes_of_2 (by decide) fns_nil) ck_f_without_idle (fun ds dr Q _ hh => by unfold sp_f_without_idle at hh; obtain ⟨_, e, _⟩ := hh; rw [e]; rfl) (wp_f_without_idle _ _ rfl)
  have c_f_are_equal_books : C8.Cal l.prog w K mg base 4 "are_equal_books" (lift K w (sp_f_are_equal_books)) [] := def_ok (N := nm_f_are_equal_books) (ps := ["things", "one", "two"]) (j := 3) (fs := fs_f_are_equal_books) (cs := cs_f_are_equal_books) (sps := (spsE (sp__law_equal 6) (fun _ _ _ _ => False))) (body := ir_f_are_equal_books) D_are_equal_books b_are_equal_books sc_are_equal_books (by decide) hb cs_nil (fns_cons c_f_closed_sets (by decide) fns_nil) ck_f_are_equal_books (fun ds dr Q _ hh => by unfold sp_f_are_equal_books at hh; obtain ⟨_, _, _, e, _⟩ := hh; rw [e]; rfl) (wp_f_are_equal_books _ _ rfl)
  have c_f_law_some : C8.Cal l.prog w K mg base 2 "_law_some" (lift K w (sp_f_law_some)) [] := def_ok (N := nm_f_law_some) (ps := ["pool", "many", "lean"]) (j := 1) (fs := fs_f_law_some) (cs := cs_f_law_some) (sps := (spsE (sp__law_equal 6) (fun _ _ _ _ => False))) (body := ir_f_law_some) D__law_some b__law_some sc__law_some (by decide) hb cs_nil (fns_cons c_draw (by decide) fns_nil) ck_f_law_some (fun ds dr Q _ hh => by unfold sp_f_law_some at hh; obtain ⟨_, _, e, _⟩ := hh; rw [e]; rfl) (wp_f_law_some _ _ rfl)
  have c_f_filled : C8.Cal l.prog w K mg base 3 "filled" (lift K w (sp_f_filled)) [] := def_ok (N := nm_f_filled) (ps := ["rules", "row"]) (j := 2) (fs := fs_f_filled) (cs := cs_f_filled) (sps := (spsE (sp__law_equal 6) (fun _ _ _ _ => False))) (body := ir_f_filled) D_filled b_filled sc_filled (by decide) hb cs_nil (fns_cons c_f_breaks_rule (by decide) fns_nil) ck_f_filled (fun ds dr Q _ hh => by unfold sp_f_filled at hh; obtain ⟨_, _, e, _⟩ := hh; rw [e]; rfl) (wp_f_filled _ _ rfl)
  have c_f_comes_of : C8.Cal l.prog w K mg base 4 "comes_of" (lift K w (sp_f_comes_of)) [] := def_ok (N := nm_f_comes_of) (ps := ["rules", "rule"]) (j := 3) (fs := fs_f_comes_of) (cs := cs_f_comes_of) (sps := (spsE (sp__law_equal 6) (fun _ _ _ _ => False))) (body := ir_f_comes_of) D_comes_of b_comes_of sc_comes_of (by decide) hb cs_nil (fns_cons c_f_filled (by decide) fns_nil) ck_f_comes_of (fun ds dr Q _ hh => by unfold sp_f_comes_of at hh; obtain ⟨_, _, e, _⟩ := hh; rw [e]; rfl) (wp_f_comes_of _ _ rfl)
  have c_f_law_is : C8.Cal l.prog w K mg base 1 "_law_is" (lift K w (sp_f_law_is)) [] := def_ok (N := nm_f_law_is) (ps := ["x", "due"]) (j := 0) (fs := fs_f_law_is) (cs := cs_f_law_is) (sps := (spsE (sp__law_equal 6) (fun _ _ _ _ => False))) (body := ir_f_law_is) D__law_is b__law_is sc__law_is (by decide) hb cs_nil fns_nil ck_f_law_is (fun ds dr Q _ hh => by unfold sp_f_law_is at hh; obtain ⟨_, _, e, _⟩ := hh; rw [e]; rfl) (wp_f_law_is _ _ )
  exact law_ok (j := 8) (N := nm_f_law_k17) (body := ir_f_law_k17) (fs := fs_f_law_k17) (cs := cs_f_law_k17) (sps := (spsE (sp__law_equal 6) (fun _ _ _ _ => False))) FL sc_law (by decide) hb cs_nil (fns_cons c_f_law_things (by decide) (fns_cons c_f_law_geometry (by decide) (fns_cons c_f_law_sets (by decide) (fns_cons c_f_law_hull (by decide) (fns_cons c_f_law_in (by decide) (fns_cons c_f_least_rules (by decide) (fns_cons c_eq6 (by decide) (fns_cons c_f_closed_sets (by decide) (fns_cons c_f_without_idle (by decide) (fns_cons c_f_are_equal_books (by decide) (fns_cons c_f_law_some (by decide) (fns_cons c_draw (by decide) (fns_cons c_f_comes_of (by decide) (fns_cons c_f_hull (by decide) (fns_cons c_f_law_is (by decide) fns_nil))))))))))))))) c_pool (by decide) rfl (by decide +kernel) (by decide +kernel) (main_k17 ⟨(spsE (sp__law_equal 6) (fun _ _ _ _ => False)), fun _ _ => False⟩ rfl rfl rfl rfl rfl rfl rfl rfl rfl rfl rfl rfl rfl rfl rfl)
end PL
open PySem PySem.W PyProof.Rows
set_option maxRecDepth 100000 in
set_option maxHeartbeats 0 in
theorem PySem.Challenge.cw_whypicked_k17_whole_least_rules_of_geome_holds : PySem.Challenge.rw_whypicked_k17_whole_least_rules_of_geome.Holds := by
  w_on; o_law; k_head; (case hw => w_witness2)
  k_fill
  refine PL.ends (k := 9) (l := PySem.Challenge.rw_whypicked_k17_whole_least_rules_of_geome) rfl rfl ⟨rfl, by decide, by decide⟩ (fun w h Y => PySem.W.kIn_of Y) ?F
  case F =>
    intro w mg fa h KX G hmg
    have hb : PL.BltOk mg := by
      refine' PL.blt_mk KX G ?z1 ?z2 ?z3 ?z4 ?z5 ?z6 ?z7 ?z8 ?z9 ?z10 ?z11 ?z12 ?z13 ?z14 ?z15 ?z16 ?z17 ?z18
      (case z1 => k_is); (case z2 => k_is); (case z3 => k_is); (case z4 => k_is); (case z5 => k_is); (case z6 => k_is)
      (case z7 => k_is); (case z8 => k_is); (case z9 => k_is); (case z10 => k_is); (case z11 => k_is); (case z12 => k_is)
      (case z13 => k_is); (case z14 => k_is); (case z15 => k_is); (case z16 => k_is); (case z17 => k_is); (case z18 => k_is)
    refine' PL.all_ok (l := PySem.Challenge.rw_whypicked_k17_whole_least_rules_of_geome) rfl KX G hmg hb ?d__law_cell ?d__law_draw ?d__law_pool ?d__law_numbers ?d__law_things ?d__law_line ?d__law_menus ?d__law_sets ?d__law_geometry ?d__law_in ?d__law_hull ?d_subsets_of ?d_by_size ?d_is_within ?d_hull ?d_least_rules ?d_breaks_rule ?d_closed_sets ?d_filled ?d_comes_of ?d_without_idle ?d_are_equal_books ?d__law_some ?d__law_is ?d__law_kind ?d__law_equal ?d_law
    (case d__law_cell => refine' PL.df_mk ?a ?l ?c ?k; (case a => k_is); (case l => k_is); (case c => k_is); (case k => k_is))
    (case d__law_draw => refine' PL.df_mk ?a ?l ?c ?k; (case a => k_is); (case l => k_is); (case c => k_is); (case k => k_is))
    (case d__law_pool => refine' PL.df_mk ?a ?l ?c ?k; (case a => k_is); (case l => k_is); (case c => k_is); (case k => k_is))
    (case d__law_numbers => refine' PL.df_mk ?a ?l ?c ?k; (case a => k_is); (case l => k_is); (case c => k_is); (case k => k_is))
    (case d__law_things => refine' PL.df_mk ?a ?l ?c ?k; (case a => k_is); (case l => k_is); (case c => k_is); (case k => k_is))
    (case d__law_line => refine' PL.df_mk ?a ?l ?c ?k; (case a => k_is); (case l => k_is); (case c => k_is); (case k => k_is))
    (case d__law_menus => refine' PL.df_mk ?a ?l ?c ?k; (case a => k_is); (case l => k_is); (case c => k_is); (case k => k_is))
    (case d__law_sets => refine' PL.df_mk ?a ?l ?c ?k; (case a => k_is); (case l => k_is); (case c => k_is); (case k => k_is))
    (case d__law_geometry => refine' PL.df_mk ?a ?l ?c ?k; (case a => k_is); (case l => k_is); (case c => k_is); (case k => k_is))
    (case d__law_in => refine' PL.df_mk ?a ?l ?c ?k; (case a => k_is); (case l => k_is); (case c => k_is); (case k => k_is))
    (case d__law_hull => refine' PL.df_mk ?a ?l ?c ?k; (case a => k_is); (case l => k_is); (case c => k_is); (case k => k_is))
    (case d_subsets_of => refine' PL.df_mk ?a ?l ?c ?k; (case a => k_is); (case l => k_is); (case c => k_is); (case k => k_is))
    (case d_by_size => refine' PL.df_mk ?a ?l ?c ?k; (case a => k_is); (case l => k_is); (case c => k_is); (case k => k_is))
    (case d_is_within => refine' PL.df_mk ?a ?l ?c ?k; (case a => k_is); (case l => k_is); (case c => k_is); (case k => k_is))
    (case d_hull => refine' PL.df_mk ?a ?l ?c ?k; (case a => k_is); (case l => k_is); (case c => k_is); (case k => k_is))
    (case d_least_rules => refine' PL.df_mk ?a ?l ?c ?k; (case a => k_is); (case l => k_is); (case c => k_is); (case k => k_is))
    (case d_breaks_rule => refine' PL.df_mk ?a ?l ?c ?k; (case a => k_is); (case l => k_is); (case c => k_is); (case k => k_is))
    (case d_closed_sets => refine' PL.df_mk ?a ?l ?c ?k; (case a => k_is); (case l => k_is); (case c => k_is); (case k => k_is))
    (case d_filled => refine' PL.df_mk ?a ?l ?c ?k; (case a => k_is); (case l => k_is); (case c => k_is); (case k => k_is))
    (case d_comes_of => refine' PL.df_mk ?a ?l ?c ?k; (case a => k_is); (case l => k_is); (case c => k_is); (case k => k_is))
    (case d_without_idle => refine' PL.df_mk ?a ?l ?c ?k; (case a => k_is); (case l => k_is); (case c => k_is); (case k => k_is))
    (case d_are_equal_books => refine' PL.df_mk ?a ?l ?c ?k; (case a => k_is); (case l => k_is); (case c => k_is); (case k => k_is))
    (case d__law_some => refine' PL.df_mk ?a ?l ?c ?k; (case a => k_is); (case l => k_is); (case c => k_is); (case k => k_is))
    (case d__law_is => refine' PL.df_mk ?a ?l ?c ?k; (case a => k_is); (case l => k_is); (case c => k_is); (case k => k_is))
    (case d__law_kind => refine' PL.df_mk ?a ?l ?c ?k; (case a => k_is); (case l => k_is); (case c => k_is); (case k => k_is))
    (case d__law_equal => refine' PL.df_mk ?a ?l ?c ?k; (case a => k_is); (case l => k_is); (case c => k_is); (case k => k_is))
    (case d_law => refine' PL.df_mk ?a ?l ?c ?k; (case a => k_is); (case l => k_is); (case c => k_is); (case k => k_is))
