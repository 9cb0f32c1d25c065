import PyProof.Rows.All
import Wide.All
import OpenK.AllK
import Wide.FinOn
import KE.KStateDown
import HandS.WordsExc
import HandS.Defaults
import HandS.Head0
import HandS.Head1
import HandS.Head2
import HandS.HeadEnd
import HandS.HeadHook1
import HandS.HeadHook2
import HandS.HeadHook3
import HandS.HeadHook4
import HandS.HeadWalk
import HandS.ForMost
import HandS.TupAny
import HandS.TupMul
import HandS.Deep
import HandS.Exc
import HandS.ExcOwn
import HandS.Lambda
import HandS.Wide
import HandS.Style
import HandS.IsInst
import HandS.StrMore
import HandS.Walk
import HandS.Zip
import PyProof.CollectStr
import PyProof.Rows.SortShellAny
import KE.SortData
import HandS.SortOrd
import PyProof.WalkInts
import KE.DataCmp
import HandS.ExcCtx
import HandS.ExcIs
import HandS.More
import HandS.HotCalls
import KE.GoesEnum
import KE.GoesMore
import HandS.Replace
import HandS.Text
import HandS.Codes
import PyProof.Rows.StrCut
import HandS.Dict
import KE.KDictPairs
import HandS.SetTxt0
import HandS.SetFor
import HandS.Set
import HandS.Strs
import HandS.TupSets
import HandS.NestedK
import KE.SortKeyHeap
import KE.KSortKey
import PyProof.DictStraight
import HandS.DictTup
import KE.KDictWalk
import HandS.Keys
import KE.KDictZip
import PyProof.CollectWalk
import PyProof.TupleOfSeq
import PyProof.TupleOfGen
import KE.KRevSl
import Lean
import PySem.Challenge.RW_optionlines_k74_bounds
set_option Elab.async false
set_option linter.all false
set_option maxRecDepth 100000
set_option maxHeartbeats 0
section
set_option Elab.async false
set_option linter.all false
/-! The pure layer: values, results, a small language and what it computes. -/
namespace O
/-- a value as a tree -/
inductive PV where
  | non
  | bl (b : Bool)
  | int (i : Int)
  | str (s : List Nat)
  | tup (xs : List PV)
  | lst (xs : List PV)
  | fn (k : Nat)
  | exc (k : Nat)
  | scr (ns : List Int)
  | clo (k : Nat) (ps : List PV)
  | lam (k : Nat) (is : List Nat)
  | obj (j : Nat)
  deriving Inhabited

/-- a result: a value, an exception by its class's number, or nothing is said -/
inductive R (A : Type) where
  | ok (a : A)
  | exc (k : Nat)
  | bad
def R.bind {A B : Type} : R A → (A → R B) → R B
  | .ok a, f => f a
  | .exc k, _ => .exc k
  | .bad, _ => .bad
@[simp] theorem R.bind_ok {A B : Type} (a : A) (f : A → R B) : (R.ok a).bind f = f a := rfl
@[simp] theorem R.bind_exc {A B : Type} (k : Nat) (f : A → R B) : (R.exc k : R A).bind f = .exc k := rfl
@[simp] theorem R.bind_bad {A B : Type} (f : A → R B) : (R.bad : R A).bind f = .bad := rfl

/-! ### equality -/
mutual
def PV.beq : PV → PV → Bool
  | .non, .non => true
  | .bl a, .bl b => a == b
  | .bl a, .int j => (if a then (1 : Int) else 0) == j
  | .int i, .bl b => i == (if b then (1 : Int) else 0)
  | .int i, .int j => i == j
  | .str x, .str y => x == y
  | .tup xs, .tup ys => PV.beqL xs ys
  | .lst xs, .lst ys => PV.beqL xs ys
  | _, _ => false
def PV.beqL : List PV → List PV → Bool
  | [], [] => true
  | x :: xs, y :: ys => PV.beq x y && PV.beqL xs ys
  | _, _ => false
end
/-- data alone, at most so deep -/
def PV.fit : Nat → PV → Bool
  | _, .non => true
  | _, .bl _ => true
  | _, .int _ => true
  | _, .str _ => true
  | n + 1, .tup xs => xs.all (PV.fit n)
  | n + 1, .lst xs => xs.all (PV.fit n)
  | _, _ => false
def fits (p : PV) : Bool := p.fit 12
/-! order of data: intsP, texts, tuples of these from the left -/
mutual
def PV.lt : PV → PV → Option Bool
  | .int i, .int j => some (decide (i < j))
  | .str x, .str y => some (decide (x < y))
  | .tup xs, .tup ys => PV.ltL xs ys
  | _, _ => none
def PV.ltL : List PV → List PV → Option Bool
  | [], [] => some false
  | [], _ :: _ => some true
  | _ :: _, [] => some false
  | x :: xs, y :: ys => if PV.beq x y then PV.ltL xs ys else PV.lt x y
end

/-! ### sizes -/
def lim (n : Nat) : Bool := decide (n ≤ 1000000)
/-- the value if the size is in bounds -/
def sized (n : Nat) (p : PV) : R PV := if lim n then .ok p else .bad
theorem sized_ok {n : Nat} {p : PV} (h : n ≤ 1000000) : sized n p = .ok p := by simp [sized, lim, h]

/-! ### operators -/
inductive Bop where | add | sub | mul | fdiv | mod | pow | shl
  deriving DecidableEq
inductive Cop where | eq | ne | lt | le | gt | ge | isin | notin
  deriving DecidableEq
def small (i : Int) : Bool := decide (-1000000 ≤ i) && decide (i ≤ 1000000)
def b64 (i : Int) : Bool := decide (-(2 ^ 64) < i) && decide (i < 2 ^ 64)
def rep {A : Type} (n : Nat) (xs : List A) : List A := (List.replicate n xs).flatten
def addP : PV → PV → R PV
  | .int i, .int j => .ok (.int (i + j))
  | .str x, .str y => sized (x.length + y.length) (.str (x ++ y))
  | .tup x, .tup y => sized (x.length + y.length) (.tup (x ++ y))
  | .lst x, .lst y => sized (x.length + y.length) (.lst (x ++ y))
  | _, _ => .bad
def subP : PV → PV → R PV
  | .int i, .int j => .ok (.int (i - j))
  | _, _ => .bad
def mulP : PV → PV → R PV
  | .int i, .int j => if b64 i || b64 j then .ok (.int (i * j)) else .bad
  | .str x, .int j => if decide (1 ≤ j) && decide (j ≤ 1000) && decide (x.length ≤ 1000) then .ok (.str (rep j.toNat x)) else .bad
  | .tup x, .int j => if !x.isEmpty && decide (2 ≤ j) && decide (j ≤ 1000) && decide (x.length ≤ 1000) then .ok (.tup (rep j.toNat x)) else .bad
  | .lst x, .int j => if small j && lim (x.length * j.toNat) then .ok (.lst (rep j.toNat x)) else .bad
  | _, _ => .bad
def fdivP : PV → PV → R PV
  | .int i, .int j => if 0 < j ∧ j ≤ 1000000000000000000 then .ok (.int (i / j)) else .bad
  | _, _ => .bad
def modP : PV → PV → R PV
  | .int i, .int j => if 0 < j then .ok (.int (i % j)) else .bad
  | _, _ => .bad
def powP : PV → PV → R PV
  | .int i, .int j => if 0 ≤ j ∧ j ≤ 1000 ∧ i.natAbs < 2 ^ 64 then .ok (.int (i ^ j.toNat)) else .bad
  | _, _ => .bad
def shlP : PV → PV → R PV
  | .int i, .int j => if 0 ≤ j ∧ j ≤ 1000 ∧ i.natAbs < 2 ^ 64 then .ok (.int (i * 2 ^ j.toNat)) else .bad
  | _, _ => .bad
def bop : Bop → PV → PV → R PV
  | .add => addP
  | .sub => subP
  | .mul => mulP
  | .fdiv => fdivP
  | .mod => modP
  | .pow => powP
  | .shl => shlP
/-- the items of what is walked by value -/
def items : PV → Option (List PV)
  | .tup xs => some xs
  | .lst xs => some xs
  | .str s => some (s.map fun c => .str [c])
  | _ => none
def seqOf : PV → Option (List PV)
  | .tup xs => some xs
  | .lst xs => some xs
  | _ => none
def isIn (x : PV) (y : PV) : R Bool :=
  match x, y with
  | .str [c], .str t => .ok (decide (c ∈ t))
  | x, .tup ys => if fits x && ys.all fits then .ok (ys.any fun y => PV.beq y x) else .bad
  | x, .lst ys => if fits x && ys.all fits then .ok (ys.any fun y => PV.beq y x) else .bad
  | _, _ => .bad
def eqP : PV → PV → R Bool
  | .scr ns, .lst [] => .ok ns.isEmpty
  | x, y => if fits x && fits y then .ok (PV.beq x y) else .bad
def ltP : PV → PV → R PV
  | .int i, .int j => .ok (.bl (decide (i < j)))
  | .str i, .str j => .ok (.bl (decide (i < j)))
  | _, _ => .bad
def leP : PV → PV → R PV
  | .int i, .int j => .ok (.bl (decide (i ≤ j)))
  | _, _ => .bad
def gtP : PV → PV → R PV
  | .int i, .int j => .ok (.bl (decide (j < i)))
  | _, _ => .bad
def geP : PV → PV → R PV
  | .int i, .int j => .ok (.bl (decide (j ≤ i)))
  | _, _ => .bad
def cop : Cop → PV → PV → R PV
  | .eq => fun x y => (eqP x y).bind fun b => .ok (.bl b)
  | .ne => fun x y => (eqP x y).bind fun b => .ok (.bl (!b))
  | .lt => ltP
  | .le => leP
  | .gt => gtP
  | .ge => geP
  | .isin => fun x y => (isIn x y).bind fun b => .ok (.bl b)
  | .notin => fun x y => (isIn x y).bind fun b => .ok (.bl (!b))

/-! ### places -/
/-- the place of an index -/
def ixN (n : Nat) (i : Int) : Option Nat := if 0 ≤ i then (if i < n then some i.toNat else none) else if -(n : Int) ≤ i then some (i + n).toNat else none
def atI {A : Type} (xs : List A) (i : Int) : Option A := (ixN xs.length i).bind fun j => xs[j]?
def idx : PV → PV → R PV
  | .scr ns, .int i => match atI ns i with | some n => .ok (.int n) | none => .bad
  | .tup xs, .int i => match atI xs i with | some p => .ok p | none => .bad
  | .lst xs, .int i => match atI xs i with | some p => .ok p | none => .bad
  | .str s, .int i => match atI s i with | some c => if lim s.length then .ok (.str [c]) else .bad | none => .bad
  | _, _ => .bad
def sIx (n d : Nat) : Option Int → Nat
  | none => d
  | some v => if v < 0 then (v + (n : Int)).toNat else min v.toNat n
def cutL {A : Type} (xs : List A) (lo hi : Option Int) : List A := (xs.drop (sIx xs.length 0 lo)).take (sIx xs.length xs.length hi - sIx xs.length 0 lo)
def optI : Option PV → R (Option Int)
  | none => .ok none
  | some (.int i) => .ok (some i)
  | _ => .bad
def cut : PV → Option Int → Option Int → R PV
  | .tup xs, lo, hi => .ok (.tup (cutL xs lo hi))
  | .lst xs, lo, hi => .ok (.lst (cutL xs lo hi))
  | .str xs, lo, hi => if lim xs.length then .ok (.str (cutL xs lo hi)) else .bad
  | _, _, _ => .bad
def revP : PV → R PV
  | .tup xs => .ok (.tup xs.reverse)
  | .lst xs => .ok (.lst xs.reverse)
  | _ => .bad

/-! ### built-ins -/
inductive Ty where | str | tuple | list | int | bool
  deriving DecidableEq
inductive Bi where | len | all | any | tup | lst | srt | sum | min | max | max2 | int1 | isi (t : Ty)
  deriving DecidableEq
inductive Mt where | join | startswith | partition | lstrip | split | count | index | sindex
  deriving DecidableEq
def boolsP : List PV → Option (List Bool)
  | [] => some []
  | .bl b :: r => (boolsP r).map (b :: ·)
  | _ => none
def intsP : List PV → Option (List Int)
  | [] => some []
  | .int b :: r => (intsP r).map (b :: ·)
  | _ => none
def strsP : List PV → Option (List (List Nat))
  | [] => some []
  | .str b :: r => (strsP r).map (b :: ·)
  | _ => none
def isTy : Ty → PV → Option Bool
  | .str, .str _ => some true
  | .tuple, .tup _ => some true
  | .list, .lst _ => some true
  | .int, .int _ => some true
  | .int, .bl _ => some true
  | .bool, .bl _ => some true
  | _, .fn _ => none
  | _, .exc _ => none
  | _, .scr _ => none
  | _, .clo _ _ => none
  | _, .lam _ _ => none
  | _, .obj _ => none
  | _, _ => some false
/-- x stands ahead of its equals -/
def insP (x : PV) : List PV → Option (List PV)
  | [] => some [x]
  | y :: r => match PV.lt y x with
    | some true => (insP x r).map (y :: ·)
    | some false => some (x :: y :: r)
    | none => none
def sortP : List PV → Option (List PV)
  | [] => some []
  | x :: r => (sortP r).bind fun s => insP x s
def joinC (sep : List Nat) : List (List Nat) → List Nat
  | [] => []
  | [x] => x
  | x :: r => x ++ sep ++ joinC sep r
def minI : List Int → Option Int
  | [] => none
  | x :: r => some (r.foldl (fun a b => if b < a then b else a) x)
def maxI : List Int → Option Int
  | [] => none
  | x :: r => some (r.foldl (fun a b => if a < b then b else a) x)
/-- the least of what is sorted -/
def minP (xs : List PV) : Option PV := (sortP xs).bind fun s => s[0]?
def lenP : List PV → R PV
  | [.str s] => if lim s.length then .ok (.int s.length) else .bad
  | [.tup s] => .ok (.int s.length)
  | [.lst s] => .ok (.int s.length)
  | [.scr s] => .ok (.int s.length)
  | _ => .bad
def allP : List PV → R PV
  | [.lst xs] => match boolsP xs with | some bs => .ok (.bl (bs.all id)) | none => .bad
  | _ => .bad
def anyP : List PV → R PV
  | [.lst xs] => match boolsP xs with | some bs => .ok (.bl (bs.any id)) | none => .bad
  | _ => .bad
def tupP : List PV → R PV
  | [.tup xs] => .ok (.tup xs)
  | [.lst xs] => .ok (.tup xs)
  | _ => .bad
def lstP : List PV → R PV
  | [.tup xs] => .ok (.lst xs)
  | [.lst xs] => .ok (.lst xs)
  | _ => .bad
/-- texts in order -/
def insS (x : List Nat) : List (List Nat) → List (List Nat)
  | [] => [x]
  | y :: r => if y < x then y :: insS x r else x :: y :: r
def sortS : List (List Nat) → List (List Nat)
  | [] => []
  | x :: r => insS x (sortS r)
/-! data in order: by rows of signs -/
mutual
def keyT : PV → List (Int ⊕ List Nat)
  | .bl b => [.inl (if b = true then 1 else 0)]
  | .int n => [.inl n]
  | .str x => [.inr x]
  | .lst xs => keyTs xs
  | .tup xs => keyTs xs
  | _ => []
def keyTs : List PV → List (Int ⊕ List Nat)
  | [] => [.inl 0]
  | x :: xs => .inl 1 :: (keyT x ++ keyTs xs)
end
def ordI : Int ⊕ List Nat → Int ⊕ List Nat → Bool
  | .inl a, .inl b => decide (a < b)
  | .inl _, .inr _ => true
  | .inr _, .inl _ => false
  | .inr a, .inr b => decide (a < b)
def lexI : List (Int ⊕ List Nat) → List (Int ⊕ List Nat) → Bool
  | [], [] => false
  | [], _ :: _ => true
  | _ :: _, [] => false
  | x :: r, y :: t => ordI x y || (!ordI y x && lexI r t)
def ltD (x y : PV) : Bool := lexI (keyT x) (keyT y)
def sortD (xs : List PV) : List PV := xs.mergeSort fun a b => !ltD b a
mutual
/-- the two can be compared, place by place -/
def alikeP : PV → PV → Bool
  | .bl _, .bl _ => true
  | .int _, .int _ => true
  | .str _, .str _ => true
  | .lst xs, .lst ys => alikePs xs ys
  | .tup xs, .tup ys => alikePs xs ys
  | _, _ => false
def alikePs : List PV → List PV → Bool
  | x :: xs, y :: ys => alikeP x y && alikePs xs ys
  | [], _ => true
  | _ :: _, [] => true
end
def neTup : PV → Bool
  | .tup (_ :: _) => true
  | _ => false
def srtOk (xs : List PV) : Bool := xs.all neTup && ((xs.all fun x => xs.all fun y => alikeP x y) && (xs.all fits && lim xs.length))
/-- a tuple, and the empty one behind it -/
def srt2 : List PV → Bool
  | [.tup (x :: r), .tup []] => alikePs (x :: r) (x :: r) && fits (.tup (x :: r))
  | _ => false
def isSeq : PV → Bool
  | .tup _ => true
  | .lst _ => true
  | _ => false
def srtP : List PV → R PV
  | [p] => match items p with
    | some xs => (match strsP xs with
      | some ss => if lim ss.length then .ok (.lst ((sortS ss).map .str)) else .bad
      | none => if isSeq p && srtOk xs then .ok (.lst (sortD xs)) else if isSeq p && srt2 xs then .ok (.lst xs.reverse) else .bad)
    | none => .bad
  | _ => .bad
def sumP : List PV → R PV
  | [.lst xs] => match intsP xs with | some ns => .ok (.int ns.sum) | none => .bad
  | _ => .bad
/-- the first of the least -/
def minD : List PV → Option PV
  | [] => none
  | x :: r => some (r.foldl (fun a b => if ltD b a then b else a) x)
def minLP : List PV → R PV
  | [.lst xs] => match intsP xs with
    | some ns => (match minI ns with | some m => .ok (.int m) | none => .bad)
    | none => if srtOk xs then (match minD xs with | some m => .ok m | none => .bad) else .bad
  | _ => .bad
def maxLP : List PV → R PV
  | [.lst xs] => match intsP xs with | some ns => (match maxI ns with | some m => .ok (.int m) | none => .bad) | none => .bad
  | _ => .bad
def max2P : List PV → R PV
  | [.int i, .int j] => .ok (.int (if j > i then j else i))
  | _ => .bad
def int1P : List PV → R PV
  | [.int i] => .ok (.int i)
  | _ => .bad
def isiP (t : Ty) : List PV → R PV
  | [p] => match isTy t p with | some b => .ok (.bl b) | none => .bad
  | _ => .bad
def bi : Bi → List PV → R PV
  | .len => lenP
  | .all => allP
  | .any => anyP
  | .tup => tupP
  | .lst => lstP
  | .srt => srtP
  | .sum => sumP
  | .min => minLP
  | .max => maxLP
  | .max2 => max2P
  | .int1 => int1P
  | .isi t => isiP t
def lstripC (cs : List Nat) : List Nat → List Nat
  | [] => []
  | c :: r => if c ∈ cs then lstripC cs r else c :: r
/-- split at one sign -/
def splitC (c : Nat) : List Nat → List Nat → List (List Nat)
  | acc, [] => [acc]
  | acc, x :: r => if x = c then acc :: splitC c [] r else splitC c (acc ++ [x]) r
/-- ahead of the first c, and behind it -/
def partC (c : Nat) : List Nat → List Nat → Option (List Nat × List Nat)
  | _, [] => none
  | acc, x :: r => if x = c then some (acc, r) else partC c (acc ++ [x]) r
def idxOfP (x : PV) : List PV → Nat → Option Nat
  | [], _ => none
  | y :: r, n => if PV.beq y x then some n else idxOfP x r (n + 1)
def idxOfC (c : Nat) : List Nat → Nat → Option Nat
  | [], _ => none
  | y :: r, n => if y = c then some n else idxOfC c r (n + 1)
def joinP : PV → List PV → R PV
  | .str sep, [p] => match seqOf p with
    | some xs => (match strsP xs with | some ss => sized ((ss.map List.length).sum + ss.length * sep.length) (.str (joinC sep ss)) | none => .bad)
    | none => .bad
  | _, _ => .bad
def startswithP : PV → List PV → R PV
  | .str s, [.str t] => .ok (.bl (s.take t.length == t))
  | _, _ => .bad
def partitionP : PV → List PV → R PV
  | .str s, [.str [c]] => if lim s.length then (match partC c [] s with
    | some (a, b) => .ok (.tup [.str a, .str [c], .str b])
    | none => .ok (.tup [.str s, .str [], .str []])) else .bad
  | _, _ => .bad
def lstripP : PV → List PV → R PV
  | .str s, [.str cs] => if lim s.length then .ok (.str (lstripC cs s)) else .bad
  | _, _ => .bad
def splitP : PV → List PV → R PV
  | .str s, [.str [c]] => if lim s.length && decide (c < 256) then .ok (.lst ((splitC c [] s).map .str)) else .bad
  | _, _ => .bad
def countP : PV → List PV → R PV
  | .lst xs, [x] => if fits x && xs.all fits then .ok (.int ((xs.filter fun y => PV.beq y x).length)) else .bad
  | _, _ => .bad
def indexP : PV → List PV → R PV
  | .lst xs, [x] => if fits x && xs.all fits && lim xs.length then (match idxOfP x xs 0 with | some n => .ok (.int n) | none => .bad) else .bad
  | _, _ => .bad
def sindexP : PV → List PV → R PV
  | .str s, [.str [c]] => if lim s.length then (match idxOfC c s 0 with | some n => .ok (.int n) | none => .bad) else .bad
  | _, _ => .bad
def mt : Mt → PV → List PV → R PV
  | .join => joinP
  | .startswith => startswithP
  | .partition => partitionP
  | .lstrip => lstripP
  | .split => splitP
  | .count => countP
  | .index => indexP
  | .sindex => sindexP
/-- the method's own kind of object -/
def mtOk : Mt → PV → Bool
  | .count, .lst _ => true
  | .index, .lst _ => true
  | .count, _ => false
  | .index, _ => false
  | _, .str _ => true
  | _, _ => false

/-! ### what a loop or a comprehension walks -/
inductive IK where | val | rng1 | rng2 | zip | enum
  deriving DecidableEq
def rngL (lo : Int) (n : Nat) : List PV := (List.range n).map fun (k : Nat) => .int (lo + (k : Int))
def zipL : List PV → List PV → List PV
  | x :: xs, y :: ys => .tup [x, y] :: zipL xs ys
  | _, _ => []
def enumL : Nat → List PV → List PV
  | _, [] => []
  | n, x :: xs => .tup [.int n, x] :: enumL (n + 1) xs
def walk : IK → List PV → R (List PV)
  | .val, [p] => match items p with | some xs => if lim xs.length then .ok xs else .bad | none => .bad
  | .rng1, [.int j] => if small j then .ok (rngL 0 j.toNat) else .bad
  | .rng2, [.int i, .int j] => if small i && small j then .ok (rngL i (j - i).toNat) else .bad
  | .zip, [p, q] => match items p, items q with | some xs, some ys => if lim xs.length && lim ys.length then .ok (zipL xs ys) else .bad | _, _ => .bad
  | .enum, [p] => match items p with | some xs => if lim xs.length then .ok (enumL 0 xs) else .bad | none => .bad
  | _, _ => .bad

/-! ### slots -/
inductive SV where
  | un
  | v (p : PV)
  | ow (xs : List PV)
  | od (kvs : List (List Nat × PV))
  deriving Inhabited
abbrev St := List SV
inductive Tg where | one (i : Nat) | tup (is : List Nat)
def bindL : List Nat → List PV → St → Option St
  | [], [], r => some r
  | i :: is, p :: ps, r => bindL is ps (r.set i (.v p))
  | _, _, _ => none
def bindT : Tg → PV → St → R St
  | .one i, p, r => .ok (r.set i (.v p))
  | .tup is, .tup ps, r => match bindL is ps r with | some r' => .ok r' | none => .bad
  | _, _, _ => .bad
def dget (kvs : List (List Nat × PV)) (k : List Nat) : Option PV := (kvs.find? fun kv => decide (kv.1 = k)).map (·.2)
def dput (kvs : List (List Nat × PV)) (k : List Nat) (v : PV) : List (List Nat × PV) :=
  if kvs.any fun kv => decide (kv.1 = k) then kvs.map fun kv => if kv.1 = k then (kv.1, v) else kv else kvs ++ [(k, v)]
/-- pairs of a text and a value -/
def pairs : List PV → Option (List (List Nat × PV))
  | [] => some []
  | .tup [.str k, v] :: r => (pairs r).map ((k, v) :: ·)
  | _ => none

/-- sorted by the keys, equals in their order -/
def sortK (kvs : List (List Nat × PV)) : List (List Nat × PV) := kvs.mergeSort fun a b => decide (a.1 ≤ b.1)
/-- sorted(.., key=lambda y: y[0]) of pairs -/
def srtK0 : PV → R PV
  | .lst xs => (match pairs xs with | some kvs => if lim xs.length then .ok (.lst ((sortK kvs).map fun kv => .tup [.str kv.1, kv.2])) else .bad | none => .bad)
  | .tup xs => (match pairs xs with | some kvs => if lim xs.length then .ok (.lst ((sortK kvs).map fun kv => .tup [.str kv.1, kv.2])) else .bad | none => .bad)
  | _ => .bad
/-- a dict's items, sorted -/
def srtIt (kvs : List (List Nat × PV)) : R PV := if srtOk (kvs.map fun kv => PV.tup [.str kv.1, kv.2]) then .ok (.lst (sortD (kvs.map fun kv => PV.tup [.str kv.1, kv.2]))) else .bad

/-! ### the language -/
inductive Ex where
  | var (i : Nat)
  | bor (i : Nat)
  | con (p : PV)
  | glob (x : String) (p : PV)
  | tup (es : List Ex)
  | lst (es : List Ex)
  | bin (o : Bop) (a b : Ex)
  | neg (a : Ex)
  | cmp (o : Cop) (a b : Ex)
  | chain (o1 o2 : Cop) (a b c : Ex)
  | isC (pos : Bool) (c : PV) (a : Ex)
  | band (es : List Ex)
  | bor_ (es : List Ex)
  | not (a : Ex)
  | ite (c a b : Ex)
  | idx (a i : Ex)
  | cut (a : Ex) (lo hi : Option Ex)
  | rev (a : Ex)
  | call (k : Nat) (es : List Ex)
  | callV (f : Ex) (es : List Ex)
  | fnC (k : Nat)
  | bi (b : Bi) (es : List Ex)
  | mt (m : Mt) (o : Ex) (es : List Ex)
  | comp (elt : Ex) (tg : Tg) (ik : IK) (ies : List Ex) (ifs : List Ex)
  | comp2 (elt : Ex) (tg : Tg) (ik : IK) (ies : List Ex) (tg2 : Tg) (ik2 : IK) (ies2 : List Ex)
  | dget (i : Nat) (k : Ex)
  | dgetD (i : Nat) (k d : Ex)
  | dix (i : Nat) (k : Ex)
  | din (i : Nat) (k : Ex)
  | srtItems (i : Nat)
  | srtKeys (i : Nat)
  | srtSet (a : Ex)
  | lenSet (a : Ex)
  | tupZip (a b : Ex)
  | srtKey0 (a : Ex)
  | isX (i : Nat) (k : Nat)
  | gix (x : String) (kvs : List (List Nat × List Nat)) (k : Ex)
  | isV (i : Nat)
  | lam (k : Nat) (is : List Nat)
  | callC (i : Nat)
  | callL (k : Nat) (es : List Ex)
  | callS (k i : Nat) (es : List Ex)
  | callM (i : Nat)
  | hot (k i : Nat)
  | lenSetT (a : Ex)
  | compM (j : Nat) (a : Ex)
  | compH (j1 j2 : Nat) (a : Ex)

/-- a comprehension's turns -/
def compL (f : PV → R (Option PV)) : List PV → R (List PV)
  | [] => .ok []
  | x :: r => match f x with
    | .ok (some y) => (compL f r).bind fun ys => .ok (y :: ys)
    | .ok none => compL f r
    | _ => .bad
def asBl : PV → R Bool
  | .bl b => .ok b
  | _ => .bad
def asStr : PV → R (List Nat)
  | .str b => .ok b
  | _ => .bad
/-- keys that differ, in order -/
def nub : List (List Nat) → List (List Nat)
  | [] => []
  | x :: r => x :: (nub r).filter fun y => decide (y ≠ x)
/-- tuples of texts -/
def tupsP : List PV → Option (List (List (List Nat)))
  | [] => some []
  | .tup xs :: r => (strsP xs).bind fun ss => (tupsP r).map (ss :: ·)
  | _ => none
/-- the texts of a set that may be sorted -/
def sset (ss : List (List Nat)) : Bool := decide (ss.length < 64) || (decide (ss.length < 1000) && decide ((nub ss).length < 64))
/-- class j is below class k; class 0 is above all -/
def subX (j k : Nat) : Bool := decide (j = k) || decide (k = 0)
mutual
/-- no exception in it -/
def PV.clean : PV → Bool
  | .exc _ => false
  | .clo _ _ => false
  | .lam _ _ => false
  | .tup xs => PV.cleanL xs
  | .lst xs => PV.cleanL xs
  | _ => true
def PV.cleanL : List PV → Bool
  | [] => true
  | x :: xs => PV.clean x && PV.cleanL xs
end
abbrev Fs := Nat → List PV → R PV
/-- what the slots hold -/
def caps (r : St) : List Nat → Option (List PV)
  | [] => some []
  | i :: is => match r[i]? with | some (.v p) => (caps r is).map (p :: ·) | _ => none
mutual
/-- lambdas of this frame become closures that hold what the slots hold -/
def conv (r : St) : PV → Option PV
  | .lam k is => match caps r is with | some ps => if PV.cleanL ps then some (.clo k ps) else none | none => none
  | .lst xs => (convs r xs).map .lst
  | p => some p
def convs (r : St) : List PV → Option (List PV)
  | [] => some []
  | x :: xs => match conv r x, convs r xs with | some y, some ys => some (y :: ys) | _, _ => none
end
mutual
/-- no lambda of a frame in it -/
def PV.nol : PV → Bool
  | .lam _ _ => false
  | .clo _ ps => PV.nolL ps
  | .tup xs => PV.nolL xs
  | .lst xs => PV.nolL xs
  | _ => true
def PV.nolL : List PV → Bool
  | [] => true
  | x :: xs => PV.nol x && PV.nolL xs
end
/-- a lambda of this frame, called -/
def lamQ (F : Fs) (r : St) : PV → R (Option PV)
  | .lam k is => (match caps r is with | some ps => (match F k ps with | .ok q => .ok (some q) | _ => .bad) | none => .bad)
  | _ => .bad
/-- word of (word, met), if met -/
def selP : PV → R (Option PV)
  | .tup [w, .bl b] => .ok (if b then some w else none)
  | _ => .bad
/-- data alone -/
def dataR : R PV → R PV
  | .ok p => if fits p then .ok p else .bad
  | _ => .bad
def boolR : R PV → R PV
  | .ok (.bl b) => .ok (.bl b)
  | _ => .bad
def strR : R PV → R PV
  | .ok (.str s) => .ok (.str s)
  | _ => .bad
mutual
def ev (F : Fs) : Ex → St → R PV
  | .var i, r => match r[i]? with | some (.v p) => .ok p | _ => .bad
  | .bor i, r => match r[i]? with | some (.v p) => .ok p | some (.ow xs) => .ok (.lst xs) | _ => .bad
  | .con p, _ => .ok p
  | .glob _ p, _ => .ok p
  | .tup es, r => (evs F es r).bind fun ps => .ok (.tup ps)
  | .lst es, r => (evs F es r).bind fun ps => .ok (.lst ps)
  | .bin o a b, r => (ev F a r).bind fun p => (ev F b r).bind fun q => bop o p q
  | .neg a, r => (ev F a r).bind fun p => match p with | .int i => .ok (.int (-i)) | _ => .bad
  | .cmp o a b, r => (ev F a r).bind fun p => (ev F b r).bind fun q => cop o p q
  | .chain o1 o2 a b c, r => (ev F a r).bind fun p => (ev F b r).bind fun q => (cop o1 p q).bind fun z => match z with
    | .bl true => (ev F c r).bind fun t => cop o2 q t
    | .bl false => .ok (.bl false)
    | _ => .bad
  | .isC pos c a, r => (ev F a r).bind fun p => match c, p with
    | .non, .non => .ok (.bl pos)
    | .non, _ => .ok (.bl !pos)
    | .bl k, .bl b => .ok (.bl (if b = k then pos else !pos))
    | _, _ => .bad
  | .band es, r => evAnd F es r
  | .bor_ es, r => evOr F es r
  | .not a, r => (ev F a r).bind fun p => (asBl p).bind fun b => .ok (.bl !b)
  | .ite c a b, r => (ev F c r).bind fun p => (asBl p).bind fun k => if k then ev F a r else ev F b r
  | .idx a i, r => (ev F a r).bind fun p => (ev F i r).bind fun q => idx p q
  | .cut a lo hi, r => (ev F a r).bind fun p => (evo F lo r).bind fun l => (evo F hi r).bind fun h => cut p l h
  | .rev a, r => (ev F a r).bind fun p => revP p
  | .call k es, r => (evs F es r).bind fun ps => F k ps
  | .callV f es, r => (ev F f r).bind fun p => match p with | .fn k => (evs F es r).bind fun ps => F k ps | _ => .bad
  | .fnC k, _ => .ok (.fn k)
  | .bi b es, r => (evs F es r).bind fun ps => bi b ps
  | .mt m o es, r => (ev F o r).bind fun p => if mtOk m p then (evs F es r).bind fun ps => mt m p ps else .bad
  | .comp elt tg ik ies ifs, r => (evs F ies r).bind fun ps => (walk ik ps).bind fun xs =>
      (compL (fun x => (bindT tg x r).bind fun r' => (evAnd F ifs r').bind fun p => (asBl p).bind fun b => if b then (ev F elt r').bind fun y => .ok (some y) else .ok none) xs).bind fun ys => .ok (.lst ys)
  | .comp2 elt tg ik ies tg2 ik2 ies2, r => (evs F ies r).bind fun ps => (walk ik ps).bind fun xs =>
      (compL (fun x => (bindT tg x r).bind fun r1 => (evs F ies2 r1).bind fun ps2 => (walk ik2 ps2).bind fun xs2 =>
        (compL (fun y => (bindT tg2 y r1).bind fun r2 => (ev F elt r2).bind fun z => .ok (some z)) xs2).bind fun ys => .ok (some (.lst ys))) xs).bind fun yss =>
      .ok (.lst (yss.flatMap fun p => match p with | .lst ys => ys | _ => []))
  | .dget i k, r => match r[i]? with | some (.od kvs) => (ev F k r).bind fun p => (asStr p).bind fun x => .ok ((O.dget kvs x).getD .non) | _ => .bad
  | .dgetD i k d, r => match r[i]? with | some (.od kvs) => (ev F k r).bind fun p => (asStr p).bind fun x => (ev F d r).bind fun q => .ok ((O.dget kvs x).getD q) | _ => .bad
  | .dix i k, r => match r[i]? with | some (.od kvs) => (ev F k r).bind fun p => (asStr p).bind fun x => (match O.dget kvs x with | some v => .ok v | none => .bad) | _ => .bad
  | .din i k, r => (ev F k r).bind fun p => (asStr p).bind fun x => match r[i]? with | some (.od kvs) => .ok (.bl (O.dget kvs x).isSome) | _ => .bad
  | .srtItems i, r => match r[i]? with | some (.od kvs) => srtIt kvs | _ => .bad
  | .srtKeys i, r => match r[i]? with | some (.od kvs) => if decide (kvs.length < 64) then .ok (.lst ((sortS (kvs.map (·.1))).map .str)) else .bad | _ => .bad
  | .srtSet a, r => (ev F a r).bind fun p => match p with
    | .lst xs => (match strsP xs with | some ss => if sset ss then .ok (.lst ((sortS (nub ss)).map .str)) else .bad | none => .bad)
    | _ => .bad
  | .lenSet a, r => (ev F a r).bind fun p => match p with
    | .lst xs => (match strsP xs with | some ss => if decide (ss.length < 64) then .ok (.int (nub ss).length) else .bad | none => .bad)
    | _ => .bad
  | .tupZip a b, r => (ev F a r).bind fun p => (ev F b r).bind fun q => (walk .zip [p, q]).bind fun xs => .ok (.tup xs)
  | .srtKey0 a, r => (ev F a r).bind srtK0
  | .isX i k, r => match r[i]? with | some (.v (.exc j)) => .ok (.bl (subX j k)) | _ => .bad
  | .gix _ kvs k, r => (ev F k r).bind fun p => (asStr p).bind fun x => match kvs.lookup x with | some v => .ok (.str v) | none => .bad
  | .isV i, r => match r[i]? with | some (.v (.exc _)) => .ok (.bl true) | _ => .bad
  | .lam k is, _ => .ok (.lam k is)
  | .callC i, r => match r[i]? with | some (.v (.clo k ps)) => F k ps | _ => .bad
  | .callL k es, r => (evs F es r).bind fun ps => match convs r ps with | some qs => dataR (F k qs) | none => .bad
  | .callS k i es, r => match r[i]? with
    | some (.ow xs) => (evs F es r).bind fun ps => (match convs r xs with | some ys => boolR (F k (.lst ys :: ps)) | none => .bad)
    | _ => .bad
  | .callM i, r => match r[i]? with | some (.v (.lam k is)) => (match caps r is with | some ps => dataR (F k ps) | none => .bad) | _ => .bad
  | .hot k i, r => match r[i]? with | some (.v (.exc j)) => strR (F k [.exc j]) | _ => .bad
  | .lenSetT a, r => (ev F a r).bind fun p => match p with
    | .lst xs => (match tupsP xs with | some ss => if decide (ss.length < 64) && decide ss.Nodup then .ok (.int ss.length) else .bad | none => .bad)
    | _ => .bad
  | .compM j a, r => (ev F a r).bind fun p => match p with
    | .lst xs => if lim xs.length && decide (j < r.length) then (compL (lamQ F r) xs).bind fun ys => .ok (.lst ys) else .bad
    | _ => .bad
  | .compH j1 j2 a, r => (ev F a r).bind fun p => match p with
    | .lst xs => if lim xs.length && (decide (j1 < r.length) && decide (j2 < r.length)) then (compL selP xs).bind fun ys => .ok (.lst ys) else .bad
    | _ => .bad
def evs (F : Fs) : List Ex → St → R (List PV)
  | [], _ => .ok []
  | e :: es, r => (ev F e r).bind fun p => (evs F es r).bind fun ps => .ok (p :: ps)
def evAnd (F : Fs) : List Ex → St → R PV
  | [], _ => .ok (.bl true)
  | e :: es, r => (ev F e r).bind fun p => (asBl p).bind fun b => if b then evAnd F es r else .ok (.bl false)
def evOr (F : Fs) : List Ex → St → R PV
  | [], _ => .ok (.bl false)
  | e :: es, r => (ev F e r).bind fun p => (asBl p).bind fun b => if b then .ok (.bl true) else evOr F es r
def evo (F : Fs) : Option Ex → St → R (Option Int)
  | none, _ => .ok none
  | some e, r => (ev F e r).bind fun p => match p with | .int i => .ok (some i) | _ => .bad
end

/-! ### statements -/
inductive Sm where
  | asg (i : Nat) (own : Bool) (e : Ex)
  | asgs (ts : List (Nat × Bool)) (e : Ex)
  | par (ts : List (Nat × Bool)) (es : List Ex)
  | dnew (i : Nat) (e : Option Ex)
  | dcopy (i j : Nat)
  | app (i : Nat) (e : Ex)
  | ext (i : Nat) (e : Ex)
  | setL (i : Nat) (k e : Ex)
  | setD (i : Nat) (k e : Ex)
  | exp (e : Ex)
  | ret (e : Ex)
  | retO (e : Ex) (es : List Ex)
  | ife (c : Ex) (a b : List Sm)
  | for_ (tg : Tg) (ik : IK) (ies : List Ex) (body : List Sm)
  | whl (c : Ex) (body : List Sm)
  | brk
  | rai (k : Nat)
  | frz (i : Nat)
  | doc
  | tryE (ks : List Nat) (body : List Sm) (i : Nat) (suite : List Sm)
  | parD (i : Nat) (e : Option Ex) (ts : List (Nat × Bool)) (es : List Ex)
  | tryC (ks : List Nat) (j : Nat) (p : PV) (k1 a1 k2 a2 i : Nat) (suite : List Sm)
  | dnew2 (i j : Nat) (e1 e2 : Ex)
  | asgC (i : Nat) (elt : Ex) (i1 : Nat) (e1 : Ex) (i2 : Nat) (e2 : Ex)
  | tryX (ks : List Nat) (a i : Nat) (suite : List Sm)
  | retL (i : Nat)
  | parE (i : Nat) (e : Ex) (j : Nat) (d : Ex)
inductive Fl where
  | next (r : St)
  | brk (r : St)
  | ret (p : PV)
  | exc (k : Nat)
  | bad
def R.fl {A : Type} : R A → (A → Fl) → Fl
  | .ok a, f => f a
  | .exc k, _ => .exc k
  | .bad, _ => .bad
@[simp] theorem R.fl_ok {A : Type} (a : A) (f : A → Fl) : (R.ok a).fl f = f a := rfl
@[simp] theorem R.fl_exc {A : Type} (k : Nat) (f : A → Fl) : (R.exc k : R A).fl f = .exc k := rfl
@[simp] theorem R.fl_bad {A : Type} (f : A → Fl) : (R.bad : R A).fl f = .bad := rfl
def Fl.andThen : Fl → (St → Fl) → Fl
  | .next r, f => f r
  | x, _ => x
def forL (f : PV → St → Fl) : List PV → St → Fl
  | [], r => .next r
  | x :: xs, r => match f x r with
    | .next r' => forL f xs r'
    | .brk r' => .next r'
    | z => z
def whlL (c : St → R PV) (b : St → Fl) : Nat → St → Fl
  | 0, _ => .bad
  | n + 1, r => (c r).fl fun p => match p with
    | .bl true => (match b r with
      | .next r' => whlL c b n r'
      | .brk r' => .next r'
      | z => z)
    | .bl false => .next r
    | _ => .bad
/-- a value laid into a slot, owned or not -/
def laid (own : Bool) (p : PV) : Option SV :=
  if own then (match p with | .lst xs => some (.ow xs) | _ => none) else some (.v p)
def layL : List (Nat × Bool) → List PV → St → Option St
  | [], [], r => some r
  | (i, o) :: ts, p :: ps, r => match laid o p with | some s => layL ts ps (r.set i s) | none => none
  | _, _, _ => none
def fuel : Nat := 5000
/-- what an except suite may read: plain values, and the exception -/
def keepS : SV → SV
  | .v p => if p.clean then .v p else .un
  | _ => .un
def keepR (r : St) (i k : Nat) : St := (r.map keepS).set i (.v (.exc k))
/-- the pairs of dict(..), or none of {} -/
def mkD (F : Fs) (e : Option Ex) (r : St) : R (List (List Nat × PV)) := match e with
  | none => .ok []
  | some e => (ev F e r).bind fun p => match p with
    | .tup xs => (match pairs xs with | some kvs => if lim kvs.length then .ok (kvs.foldl (fun acc kv => dput acc kv.1 kv.2) []) else .bad | none => .bad)
    | _ => .bad
/-- a list that is handed over -/
def own0 (F : Fs) (e : Ex) (r : St) : R (List PV) := match e with
  | .bor i => (match r[i]? with | some (.ow xs) => .ok xs | _ => .bad)
  | e => (ev F e r).bind fun p => match p with | .lst xs => .ok xs | _ => .bad
/-- [elt for i1 in .. for i2 in ..]: the inner turns, the outer ones -/
def c2I (F : Fs) (elt : Ex) (i2 : Nat) (r1 : St) (ys : List PV) : R (List PV) := compL (fun y => (ev F elt (r1.set i2 (.v y))).bind fun z => .ok (some z)) ys
def c2L (F : Fs) (elt : Ex) (i1 : Nat) (i2 : Nat) (e2 : Ex) (r0 : St) : List PV → R (List PV)
  | [] => .ok []
  | x :: xs => match (evs F [e2] (r0.set i1 (.v x))).bind (walk .val) with
    | .ok ys => (match c2I F elt i2 (r0.set i1 (.v x)) ys with
      | .ok zs => (match c2L F elt i1 i2 e2 r0 xs with | .ok ws => .ok (zs ++ ws) | _ => .bad)
      | _ => .bad)
    | _ => .bad
def m2 (F : Fs) (elt : Ex) (i1 : Nat) (e1 : Ex) (i2 : Nat) (e2 : Ex) (r : St) : R PV := ((evs F [e1] r).bind (walk .val)).bind fun xs => match c2L F elt i1 i2 e2 (r.set i2 .un) xs with
  | .ok ys => if lim ys.length then .ok (.lst ys) else .bad
  | _ => .bad
mutual
def exS (F : Fs) : Sm → St → Fl
  | .asg i own e, r => (ev F e r).fl fun p => match laid own p with | some s => .next (r.set i s) | none => .bad
  | .asgs ts e, r => (ev F e r).fl fun p => match p with
    | .tup ps => (match layL ts ps r with | some r' => .next r' | none => .bad)
    | _ => .bad
  | .par ts es, r => (evs F es r).fl fun ps => match layL ts ps r with | some r' => .next r' | none => .bad
  | .dnew i none, r => .next (r.set i (.od []))
  | .dnew i (some e), r => (mkD F (some e) r).fl fun kvs => .next (r.set i (.od kvs))
  | .dcopy i j, r => match r[j]? with | some (.od kvs) => .next (r.set i (.od kvs)) | _ => .bad
  | .app i e, r => match r[i]? with
    | some (.ow xs) => (ev F e r).fl fun p => if lim xs.length then .next (r.set i (.ow (xs ++ [p]))) else .bad
    | _ => .bad
  | .ext i e, r => match r[i]? with
    | some (.ow xs) => (ev F e r).fl fun p => (match p with
      | .lst ys => if lim (xs.length + ys.length) then .next (r.set i (.ow (xs ++ ys))) else .bad
      | _ => .bad)
    | _ => .bad
  | .setL i k e, r => (ev F e r).fl fun p => match r[i]? with
    | some (.ow xs) => (ev F k r).fl fun q => (match q with
      | .int n => (match ixN xs.length n with | some j => .next (r.set i (.ow (xs.set j p))) | none => .bad)
      | _ => .bad)
    | _ => .bad
  | .setD i k e, r => (ev F e r).fl fun p => match r[i]? with
    | some (.od kvs) => (ev F k r).fl fun q => (match q with
      | .str x => if lim kvs.length then .next (r.set i (.od (dput kvs x p))) else .bad
      | _ => .bad)
    | _ => .bad
  | .exp e, r => (ev F e r).fl fun _ => .next r
  | .ret e, r => (ev F e r).fl fun p => .ret p
  | .retO e es, r => (own0 F e r).fl fun xs => (evs F es r).fl fun ps => .ret (.tup (.lst xs :: ps))
  | .ife c a b, r => (ev F c r).fl fun p => match p with | .bl true => exB F a r | .bl false => exB F b r | _ => .bad
  | .for_ tg ik ies body, r => (evs F ies r).fl fun ps => (walk ik ps).fl fun xs =>
      forL (fun x r' => (bindT tg x r').fl fun r'' => exB F body r'') xs r
  | .whl c body, r => whlL (fun r' => ev F c r') (fun r' => exB F body r') fuel r
  | .brk, r => .brk r
  | .doc, r => .next r
  | .rai k, _ => .exc k
  | .frz i, r => match r[i]? with | some (.ow xs) => .next (r.set i (.v (.lst xs))) | _ => .next r
  | .tryE ks body i suite, r => match exB F body r with
    | .exc k => if k ∈ ks then (match exB F suite (List.replicate i .un ++ [.v (.exc k)]) with
      | .ret p => if p.clean then .ret p else .bad
      | _ => .bad) else .bad
    | x => x
  | .parD i e ts es, r => (mkD F e r).fl fun kvs => (evs F es r).fl fun ps => match layL ts ps (r.set i (.od kvs)) with | some r' => .next r' | none => .bad
  | .tryC ks j p k1 a1 k2 a2 i suite, r => match r[j]?, r[a1]?, r[a2]? with
    | some (.v x), some (.v y1), some (.v y2) => (cop .eq x p).fl fun b => (match b with
      | .bl b => (match F (if b then k1 else k2) [if b then y1 else y2] with
        | .ok _ => .next r
        | .exc k => if k ∈ ks then (match exB F suite (keepR r i k) with
          | .ret q => if q.clean then .ret q else .bad
          | _ => .bad) else .bad
        | .bad => .bad)
      | _ => .bad)
    | _, _, _ => .bad
  | .dnew2 i j e1 e2, r => (mkD F (some e1) r).fl fun k1 => (mkD F (some e2) r).fl fun k2 => .next ((r.set i (.od k1)).set j (.od k2))
  | .asgC i elt i1 e1 i2 e2, r => (m2 F elt i1 e1 i2 e2 r).fl fun p => .next (r.set i (.v p))
  | .tryX ks a i suite, r => match r[a]? with
    | some (.v (.clo k ps)) => (match F k ps with
      | .ok _ => .next r
      | .exc k => if k ∈ ks then (match exB F suite (keepR r i k) with
        | .ret q => if q.clean then .ret q else .bad
        | _ => .bad) else .bad
      | .bad => .bad)
    | _ => .bad
  | .retL i, r => match r[i]? with
    | some (.ow xs) => (match convs r xs with | some ys => .ret (.lst ys) | none => .bad)
    | _ => .bad
  | .parE i e j d, r => (ev F e r).fl fun p => (mkD F (some d) r).fl fun kvs => .next ((r.set i (.v p)).set j (.od kvs))
def exB (F : Fs) : List Sm → St → Fl
  | [], r => .next r
  | s :: ss, r => (exS F s r).andThen fun r' => exB F ss r'
end
/-- a def at its arguments: n slots -/
def start (n : Nat) (ps : List PV) : St := ps.map .v ++ List.replicate (n - ps.length) .un
def run (F : Fs) (n : Nat) (body : List Sm) (ps : List PV) : R PV := match exB F body (start n ps) with
  | .ret p => .ok p
  | .next _ => .ok .non
  | .exc k => .exc k
  | _ => .bad
/-- .. of a def that makes lambdas -/
def runM (F : Fs) (n : Nat) (body : List Sm) (ps : List PV) : R PV := if PV.nolL ps then (match run F n body ps with
  | .ok p => if p.nol then .ok p else .bad
  | r => r) else .bad
/-- .. whose result is a tuple with a list of the caller's own ahead -/
def runW (F : Fs) (n : Nat) (body : List Sm) (ps : List PV) : R PV := match exB F body (start n ps) with
  | .ret (.tup (.lst xs :: qs)) => .ok (.tup (.lst xs :: qs))
  | .exc k => .exc k
  | _ => .bad
end O

end

section
set_option Elab.async false
set_option linter.all false
set_option maxRecDepth 100000
set_option maxHeartbeats 1000000
/-! what the head run looks at: plain defs alone, so that a law's head run may stand ahead of the layer's proofs -/
namespace OS
open PySem PySem.Spec PyProof.Rows L2 O
abbrev cps (s : List Nat) : Str := ⟨s.toArray⟩
def excAt (l : List (Nat × String)) (k : Nat) : Option String := (l.find? fun e => decide (e.1 = k)).map (·.2)
/-- a def: its name, its text, its slots, what it says in the language; mk: it makes lambdas; hot: it is called with the exception in hand alone -/
structure DefI where
  num : Nat
  name : String
  top : Stmt
  N : List Str
  ar : Nat
  ow : Bool := false
  body : List Sm
  mkr : Bool := false
  hot : Bool := false
  rl : Bool := false
/-- a lambda without parameters: its number, the names that it takes, what it says -/
structure LamI where
  num : Nat
  N : List Str
  e : Ex
/-- what a law's defs share -/
structure Lw where
  globs : List (String × PV)
  excs : List (Nat × String)
  tr : Bool := false
  tabs : List (String × List (List Nat × List Nat)) := []
  lams : List String := []
/-- the name of a def's lambdas -/
def lq (x : String) : Str := (Str.ofString x ++ ".<locals>.") ++ "<lambda>"
def frees : List String := ["len", "all", "any", "tuple", "list", "sorted", "sum", "min", "max", "int", "isinstance", "str", "bool", "range", "zip", "enumerate", "set", "dict", "ValueError"]
/-- a constant's facts -/
def globFa (g : String × PV) : List He.Fa := match g.2 with
  | .str s => [.str (Str.ofString g.1) (cps s)]
  | .int i => [.int (Str.ofString g.1) i]
  | _ => [.glo (Str.ofString g.1)]
def faOf (W : Lw) (ds : List DefI) : List He.Fa := (ds.map fun d => He.Fa.glo (Str.ofString d.name)) ++ ((frees.map fun x => He.Fa.free (Str.ofString x)) ++ ((W.excs.flatMap fun e => [He.Fa.exc (Str.ofString e.2), He.Fa.glo (Str.ofString e.2)]) ++ (W.globs.flatMap globFa ++ W.tabs.map fun t => He.Fa.glo (Str.ofString t.1))))
def dvOf : PV → He.Dv
  | .str s => .str (cps s)
  | .int i => .int i
  | .bl b => .bl b
  | _ => .non
def xcB (K : PySem.W.Frag) (D : Addr) : Bool := decide (PySem.W.findIn K (.ref D) "__getattribute__" = some (some (.builtin "BaseException.__getattribute__"))) && decide (PySem.W.findIn K (.ref D) "__getattr__" = some none) && decide (PySem.W.subIn K (.ref D) (.type "BaseException") = some true) &&
  PySem.W.hasDictIn K D && decide (PySem.W.findIn K (.ref D) "__class__" = some (some (.builtin "object.__class__"))) && decide (PySem.W.specialIn K (.builtin "object.__class__") "__get__" = some (some (.builtin "getset_descriptor.__get__"))) && decide (PySem.W.takesIn K (.builtin "object.__class__") = some true) && decide (PySem.W.mroIn K D (.type "object") = some true)
/-- the classes of exceptions, one by one and by pairs -/
def xfB (W : Lw) (K : PySem.W.Frag) : Bool := match excAt W.excs 0 with
  | some o => W.excs.all fun e => xcB K (He.ga K (Str.ofString e.2)) && decide (PySem.W.exmOne K (.ref (He.ga K (Str.ofString e.2))) (.ref (He.ga K (Str.ofString o))) = some true) && decide (PySem.W.kitOne K (.ref (He.ga K (Str.ofString e.2))) (.type "ValueError") = some true) && (W.excs.all fun d => decide (PySem.W.kitOne K (.ref (He.ga K (Str.ofString e.2))) (.ref (He.ga K (Str.ofString d.2))) = some (subX e.1 d.1)))
  | none => false
/-- the module's dicts -/
def tsOf (W : Lw) : List He.Tab := W.tabs.map fun t => (fun K => He.ga K (Str.ofString t.1), t.2.map fun q => cps q.1)
def tvB (W : Lw) (K : PySem.W.Frag) : Bool := (W.tabs.all fun t => He.valsB K (He.ga K (Str.ofString t.1)) (t.2.map fun q => (cps q.1, He.Dv.str (cps q.2)))) &&
  W.lams.all fun x => W.lams.all fun y => !decide ((He.cT K (Str.ofString x, none)).2 = (He.cT K (Str.ofString y, none)).2) || decide (x = y)
def tfOf (W : Lw) : List He.Defn := W.lams.map fun x => (Str.ofString x, none)
def exOf (W : Lw) (K : PySem.W.Frag) : Bool := ((!W.tr || xfB W K) && tvB W K) && W.globs.all fun g => match g.2 with
  | .tup ps => He.tupB K (Str.ofString g.1) (ps.map dvOf)
  | _ => true
def fnD (ds : List DefI) : List He.DefD := ds.map fun d => ⟨(Str.ofString d.name, none), Str.ofString d.name, Str.ofString d.name, defArgs d.top, defBody d.top, defScope d.top, [], []⟩
end OS

end
section
set_option linter.all false
set_option maxRecDepth 100000
namespace Bd
open PySem O
def LET : List Nat := [97, 98, 99, 100, 101, 102, 103, 104, 105, 106, 107, 108, 109, 110, 111, 112, 113, 114, 115, 116, 117, 118, 119, 120, 121, 122]
def SIG : List Nat := [97, 98, 99, 100, 101, 102, 103, 104, 105, 106, 107, 108, 109, 110, 111, 112, 113, 114, 115, 116, 117, 118, 119, 120, 121, 122, 48, 49, 50, 51, 52, 53, 54, 55, 56, 57, 45]
def XKS : List Nat := [0, 1, 2, 3, 4, 5, 6, 7, 8, 9, 10, 11, 12, 13, 14, 15, 16, 17]
def n1063 : List Str := ["pair", "word"]
def e1063 : Ex := (.call 84 [(.var 0), (.var 1)])
def b1063 : List Sm := [.ret e1063]
def n1064 : List Str := []
def e1064 : Ex := (.call 84 [(.tup [(.tup [(.con (.str [102, 111, 114, 109, 97, 116])), (.con (.str [118, 97, 108, 117, 101]))])]), (.con (.str [45, 45, 61, 120, 49]))])
def b1064 : List Sm := [.ret e1064]
def n1065 : List Str := ["some"]
def e1065 : Ex := (.call 136 [(.con (.str [97])), (.var 0)])
def b1065 : List Sm := [.ret e1065]
def n1066 : List Str := ["letters"]
def e1066 : Ex := (.call 137 [(.var 0), (.con .non)])
def b1066 : List Sm := [.ret e1066]
def n1067 : List Str := []
def e1067 : Ex := (.call 156 [])
def b1067 : List Sm := [.ret e1067]
def n1068 : List Str := ["options"]
def e1068 : Ex := (.call 157 [(.var 0)])
def b1068 : List Sm := [.ret e1068]
def n1069 : List Str := []
def e1069 : Ex := (.call 158 [])
def b1069 : List Sm := [.ret e1069]
/-- is_letter -/
def n0 : List Str := ["value"]
def b0 : List Sm := [.ret (.band [(.bi (.isi .str) [(.var 0)]), (.cmp .eq (.bi .len [(.var 0)]) (.con (.int 1))), (.cmp .isin (.var 0) (.glob "LETTERS" (.str Bd.LET)))])]
/-- is_kind -/
def n1 : List Str := ["value"]
def b1 : List Sm := [.ret (.band [(.bi (.isi .str) [(.var 0)]), (.cmp .isin (.var 0) (.glob "KINDS" (.tup [(.str [102, 108, 97, 103]), (.str [109, 97, 121, 98, 101]), (.str [118, 97, 108, 117, 101])])))])]
/-- is_option -/
def n2 : List Str := ["value"]
def b2 : List Sm := [.ret (.band [(.bi (.isi .tuple) [(.var 0)]), (.cmp .eq (.bi .len [(.var 0)]) (.con (.int 2))), (.call 0 [(.idx (.var 0) (.con (.int 0)))]), (.call 1 [(.idx (.var 0) (.con (.int 1)))])])]
/-- are_options -/
def n3 : List Str := ["candidate", "option", "one", "other"]
def b3 : List Sm := [.ife (.bor_ [(.not (.bi (.isi .tuple) [(.var 0)])), (.cmp .gt (.bi .len [(.var 0)]) (.glob "MAX_OPTIONS" (.int 8)))]) [.ret (.con (.bl false))] [], .ife (.not (.bi .all [(.comp (.call 2 [(.var 1)]) (.one 1) .val [(.var 0)] [])])) [.ret (.con (.bl false))] [], .ret (.bi .all [(.comp (.cmp .lt (.idx (.var 2) (.con (.int 0))) (.idx (.var 3) (.con (.int 0)))) (.tup [2, 3]) .zip [(.var 0), (.cut (.var 0) (some (.con (.int 1))) none)] [])])]
/-- is_word -/
def n4 : List Str := ["value", "sign"]
def b4 : List Sm := [.ret (.band [(.bi (.isi .str) [(.var 0)]), (.chain .le .le (.con (.int 1)) (.bi .len [(.var 0)]) (.glob "MAX_WORD" (.int 12))), (.bi .all [(.comp (.cmp .isin (.var 1) (.glob "SIGNS" (.str Bd.SIG))) (.one 1) .val [(.var 0)] [])])])]
/-- is_line -/
def n5 : List Str := ["candidate", "word"]
def b5 : List Sm := [.ret (.band [(.bi (.isi .tuple) [(.var 0)]), (.cmp .le (.bi .len [(.var 0)]) (.glob "MAX_LINE" (.int 6))), (.bi .all [(.comp (.call 4 [(.var 1)]) (.one 1) .val [(.var 0)] [])])])]
/-- check_options -/
def n6 : List Str := ["value"]
def b6 : List Sm := [.ife (.not (.call 3 [(.var 0)])) [.rai 1] []]
/-- check_line -/
def n7 : List Str := ["value"]
def b7 : List Sm := [.ife (.not (.call 5 [(.var 0)])) [.rai 4] []]
/-- find_kind -/
def n9 : List Str := ["options", "letter", "found", "one", "kind"]
def b9 : List Sm := [.asg 2 false (.comp (.var 4) (.tup [3, 4]) .val [(.var 0)] [(.cmp .eq (.var 3) (.var 1))]), .ret (.ite (.cmp .ne (.var 2) (.lst [])) (.idx (.var 2) (.con (.int 0))) (.con .non))]
/-- is_cluster -/
def n11 : List Str := ["word"]
def b11 : List Sm := [.ret (.band [(.cmp .eq (.cut (.var 0) none (some (.con (.int 1)))) (.glob "LONE" (.str [45]))), (.cmp .ne (.var 0) (.glob "LONE" (.str [45]))), (.cmp .ne (.var 0) (.glob "END" (.str [45, 45])))])]
/-- read_cluster -/
def n12 : List Str := ["options", "word", "found", "place", "kind", "letter", "rest"]
def b12_0 : List Sm := [.par [(5, false), (6, false)] [(.idx (.var 1) (.var 3)), (.cut (.var 1) (some (.bin .add (.var 3) (.con (.int 1)))) none)], .asg 4 false (.call 9 [(.var 0), (.var 5)]), .ife (.isC true .non (.var 4)) [.retO (.bor 2) [(.var 3), (.con (.bl false))]] [], .ife (.cmp .ne (.var 4) (.glob "FLAG" (.str [102, 108, 97, 103]))) [.ife (.band [(.cmp .eq (.var 6) (.con (.str []))), (.cmp .eq (.var 4) (.glob "VALUE" (.str [118, 97, 108, 117, 101])))]) [.retO (.bin .add (.bor 2) (.lst [(.tup [(.var 5), (.con .non)])])) [(.con .non), (.con (.bl true))]] [], .retO (.bin .add (.bor 2) (.lst [(.tup [(.var 5), (.ite (.cmp .ne (.var 6) (.con (.str []))) (.var 6) (.con .non))])])) [(.con .non), (.con (.bl false))]] [], .app 2 (.tup [(.var 5), (.con .non)])]
def b12 : List Sm := [.asg 2 true (.lst []), .for_ (.one 3) .rng2 [(.con (.int 1)), (.bi .len [(.var 1)])] b12_0, .retO (.bor 2) [(.con .non), (.con (.bl false))]]
/-- read_all -/
def n13 : List Str := ["options", "line", "number", "settings", "operands", "kinds", "word", "found", "wrong", "is_missing"]
def b13_0 : List Sm := [.asg 6 false (.idx (.var 1) (.var 2)), .ife (.bor_ [(.cmp .isin (.glob "CLOSED" (.str [101, 110, 100])) (.bor 5)), (.not (.bor_ [(.cmp .eq (.var 6) (.glob "END" (.str [45, 45]))), (.call 11 [(.var 6)])]))]) [.app 4 (.var 6), .app 5 (.glob "OPERAND" (.str [111, 112, 101, 114, 97, 110, 100]))] [.ife (.cmp .eq (.var 6) (.glob "END" (.str [45, 45]))) [.app 5 (.glob "CLOSED" (.str [101, 110, 100]))] [.asgs [(7, true), (8, false), (9, false)] (.call 12 [(.var 0), (.var 6)]), .app 5 (.glob "OPTIONS" (.str [111, 112, 116, 105, 111, 110, 115])), .ife (.isC false .non (.var 8)) [.frz 5, .frz 4, .frz 3, .ret (.tup [(.var 3), (.var 4), (.var 5), (.tup [(.var 2), (.var 8)])])] [], .ife (.var 9) [.ife (.cmp .eq (.var 2) (.bin .sub (.bi .len [(.var 1)]) (.con (.int 1)))) [.frz 5, .frz 4, .frz 3, .ret (.tup [(.var 3), (.var 4), (.var 5), (.tup [(.var 2), (.bin .sub (.bi .len [(.var 6)]) (.con (.int 1)))])])] [], .asg 2 false (.bin .add (.var 2) (.con (.int 1))), .setL 7 (.neg (.con (.int 1))) (.tup [(.idx (.idx (.bor 7) (.neg (.con (.int 1)))) (.con (.int 0))), (.idx (.var 1) (.var 2))]), .app 5 (.glob "TAKEN" (.str [118, 97, 108, 117, 101]))] [], .ext 3 (.bor 7)]], .asg 2 false (.bin .add (.var 2) (.con (.int 1)))]
def b13 : List Sm := [.par [(3, true), (4, true), (5, true)] [(.lst []), (.lst []), (.lst [])], .asg 2 false (.con (.int 0)), .whl (.cmp .lt (.var 2) (.bi .len [(.var 1)])) b13_0, .frz 5, .frz 4, .frz 3, .ret (.tup [(.var 3), (.var 4), (.var 5), (.con .non)])]
/-- find_reading -/
def n14 : List Str := ["options", "line", "settings", "operands", "kinds", "wrong"]
def b14 : List Sm := [.asgs [(2, false), (3, false), (4, false), (5, false)] (.call 13 [(.var 0), (.var 1)]), .ret (.ite (.isC true .non (.var 5)) (.tup [(.bi .tup [(.var 2)]), (.bi .tup [(.var 3)])]) (.con .non))]
/-- check_both -/
def n15 : List Str := ["options", "line"]
def b15 : List Sm := [.exp (.call 6 [(.var 0)]), .exp (.call 7 [(.var 1)])]
/-- need_reading -/
def n36 : List Str := ["options", "line", "found"]
def b36 : List Sm := [.exp (.call 15 [(.var 0), (.var 1)]), .asg 2 false (.call 14 [(.var 0), (.var 1)]), .ife (.isC true .non (.var 2)) [.rai 7] [], .ret (.var 2)]
/-- text_of -/
def n37 : List Str := ["setting", "letter", "value"]
def b37 : List Sm := [.asgs [(1, false), (2, false)] (.var 0), .ret (.bin .add (.var 1) (.ite (.isC false .non (.var 2)) (.var 2) (.con (.str []))))]
/-- needs_end -/
def n38 : List Str := ["operands", "word"]
def b38 : List Sm := [.ret (.bi .any [(.comp (.bor_ [(.cmp .eq (.var 1) (.glob "END" (.str [45, 45]))), (.call 11 [(.var 1)])]) (.one 1) .val [(.var 0)] [])])]
/-- ending -/
def n39 : List Str := ["operands"]
def b39 : List Sm := [.ret (.bin .add (.ite (.call 38 [(.var 0)]) (.tup [(.glob "END" (.str [45, 45]))]) (.tup [])) (.var 0))]
/-- find_packed -/
def n40 : List Str := ["options", "found", "setting", "settings", "operands", "words", "is_open"]
def b40_0 : List Sm := [.ife (.var 6) [.setL 5 (.neg (.con (.int 1))) (.bin .add (.idx (.bor 5) (.neg (.con (.int 1)))) (.call 37 [(.var 2)]))] [.app 5 (.bin .add (.glob "LONE" (.str [45])) (.call 37 [(.var 2)]))], .asg 6 false (.cmp .eq (.call 9 [(.var 0), (.idx (.var 2) (.con (.int 0)))]) (.glob "FLAG" (.str [102, 108, 97, 103])))]
def b40 : List Sm := [.asgs [(3, false), (4, false)] (.var 1), .par [(5, true), (6, false)] [(.lst []), (.con (.bl false))], .for_ (.one 2) .val [(.var 3)] b40_0, .ret (.bin .add (.bi .tup [(.bor 5)]) (.call 39 [(.var 4)]))]
/-- find_last -/
def n44 : List Str := ["settings", "found", "index", "setting", "letter", "value"]
def b44_0 : List Sm := [.ife (.cmp .notin (.idx (.var 3) (.con (.int 0))) (.comp (.var 4) (.tup [4, 5]) .val [(.cut (.var 0) (some (.bin .add (.var 2) (.con (.int 1)))) none)] [])) [.app 1 (.var 3)] []]
def b44 : List Sm := [.asg 1 true (.lst []), .for_ (.tup [2, 3]) .enum [(.var 0)] b44_0, .frz 1, .ret (.var 1)]
/-- cleaned -/
def n46 : List Str := ["options", "line", "settings", "operands"]
def b46 : List Sm := [.asgs [(2, false), (3, false)] (.call 36 [(.var 0), (.var 1)]), .ret (.call 40 [(.var 0), (.tup [(.bi .tup [(.call 44 [(.var 2)])]), (.var 3)])])]
/-- is_setting -/
def n58 : List Str := ["options", "value", "kind"]
def b58 : List Sm := [.ife (.bor_ [(.not (.bi (.isi .tuple) [(.var 1)])), (.cmp .ne (.bi .len [(.var 1)]) (.con (.int 2))), (.not (.call 0 [(.idx (.var 1) (.con (.int 0)))]))]) [.ret (.con (.bl false))] [], .asg 2 false (.call 9 [(.var 0), (.idx (.var 1) (.con (.int 0)))]), .ife (.isC true .non (.idx (.var 1) (.con (.int 1)))) [.ret (.cmp .isin (.var 2) (.tup [(.glob "FLAG" (.str [102, 108, 97, 103])), (.glob "MAYBE" (.str [109, 97, 121, 98, 101]))]))] [], .ret (.band [(.cmp .isin (.var 2) (.tup [(.glob "MAYBE" (.str [109, 97, 121, 98, 101])), (.glob "VALUE" (.str [118, 97, 108, 117, 101]))])), (.call 4 [(.idx (.var 1) (.con (.int 1)))])])]
/-- has_reading -/
def n59 : List Str := ["options", "candidate", "settings", "operands", "part", "one", "word"]
def b59 : List Sm := [.ife (.bor_ [(.not (.bi (.isi .tuple) [(.var 1)])), (.cmp .ne (.bi .len [(.var 1)]) (.con (.int 2)))]) [.ret (.con (.bl false))] [], .ife (.not (.bi .all [(.comp (.band [(.bi (.isi .tuple) [(.var 4)]), (.cmp .le (.bi .len [(.var 4)]) (.glob "MAX_PARTS" (.int 6)))]) (.one 4) .val [(.var 1)] [])])) [.ret (.con (.bl false))] [], .asgs [(2, false), (3, false)] (.var 1), .ret (.band [(.bi .all [(.comp (.call 58 [(.var 0), (.var 5)]) (.one 5) .val [(.var 2)] [])]), (.bi .all [(.comp (.call 4 [(.var 6)]) (.one 6) .val [(.var 3)] [])])])]
/-- is_reading -/
def n60 : List Str := ["options", "candidate"]
def b60 : List Sm := [.exp (.call 6 [(.var 0)]), .ret (.call 59 [(.var 0), (.var 1)])]
/-- check_reading -/
def n61 : List Str := ["options", "wanted"]
def b61 : List Sm := [.exp (.call 6 [(.var 0)]), .ife (.not (.call 59 [(.var 0), (.var 1)])) [.rai 9] []]
/-- count_ways -/
def n62 : List Str := ["options", "wanted", "kinds", "twos", "settings", "operands", "letter", "value"]
def b62 : List Sm := [.asgs [(4, false), (5, false)] (.var 1), .asg 2 false (.comp (.call 9 [(.var 0), (.var 6)]) (.tup [6, 7]) .val [(.var 4)] []), .asg 3 false (.bin .add (.bin .add (.mt .count (.cut (.var 2) none (some (.neg (.con (.int 1))))) [(.glob "FLAG" (.str [102, 108, 97, 103]))]) (.mt .count (.var 2) [(.glob "VALUE" (.str [118, 97, 108, 117, 101]))])) (.ite (.call 38 [(.var 5)]) (.con (.int 0)) (.con (.int 1)))), .ret (.bin .shl (.con (.int 1)) (.var 3))]
/-- count_plain -/
def n63 : List Str := ["options", "wanted"]
def b63 : List Sm := [.exp (.call 61 [(.var 0), (.var 1)]), .ret (.call 62 [(.var 0), (.var 1)])]
/-- extended -/
def n64 : List Str := ["options", "rows", "setting", "found", "kind", "words", "is_open", "starts", "before", "start"]
def b64_0 : List Sm := [.app 3 (.tup [(.bin .add (.var 8) (.tup [(.bin .add (.var 9) (.call 37 [(.var 2)]))])), (.cmp .eq (.var 4) (.glob "FLAG" (.str [102, 108, 97, 103])))]), .ife (.cmp .eq (.var 4) (.glob "VALUE" (.str [118, 97, 108, 117, 101]))) [.app 3 (.tup [(.bin .add (.var 8) (.tup [(.bin .add (.var 9) (.idx (.var 2) (.con (.int 0)))), (.idx (.var 2) (.con (.int 1)))])), (.con (.bl false))])] []]
def b64_1 : List Sm := [.asg 7 true (.lst [(.tup [(.var 5), (.glob "LONE" (.str [45]))])]), .ife (.var 6) [.app 7 (.tup [(.cut (.var 5) none (some (.neg (.con (.int 1))))), (.idx (.var 5) (.neg (.con (.int 1))))])] [], .frz 7, .for_ (.tup [8, 9]) .val [(.var 7)] b64_0]
def b64 : List Sm := [.par [(3, true), (4, false)] [(.lst []), (.call 9 [(.var 0), (.idx (.var 2) (.con (.int 0)))])], .for_ (.tup [5, 6]) .val [(.var 1)] b64_1, .frz 3, .ret (.var 3)]
/-- find_plain -/
def n65 : List Str := ["options", "wanted", "rows", "setting", "found", "settings", "operands", "words", "is_open"]
def b65_0 : List Sm := [.asg 2 false (.call 64 [(.var 0), (.var 2), (.var 3)])]
def b65 : List Sm := [.asgs [(5, false), (6, false)] (.var 1), .asg 2 false (.lst [(.tup [(.tup []), (.con (.bl false))])]), .for_ (.one 3) .val [(.var 5)] b65_0, .asg 4 true (.comp (.bin .add (.bin .add (.var 7) (.tup [(.glob "END" (.str [45, 45]))])) (.var 6)) (.tup [7, 8]) .val [(.var 2)] []), .ife (.not (.call 38 [(.var 6)])) [.ext 4 (.comp (.bin .add (.var 7) (.var 6)) (.tup [7, 8]) .val [(.var 2)] [])] [], .ret (.bi .srt [(.bor 4)])]
/-- joined -/
def n69 : List Str := ["options", "lines", "setting", "tails", "letter", "value", "kind", "found", "words", "last", "tail", "more"]
def b69_0 : List Sm := [.app 7 (.tup [(.bin .add (.bin .add (.var 8) (.tup [(.bin .add (.glob "LONE" (.str [45])) (.var 10))])) (.var 11)), (.var 6)]), .ife (.cmp .eq (.var 9) (.glob "FLAG" (.str [102, 108, 97, 103]))) [.app 7 (.tup [(.bin .add (.bin .add (.cut (.var 8) none (some (.neg (.con (.int 1))))) (.tup [(.bin .add (.idx (.var 8) (.neg (.con (.int 1)))) (.var 10))])) (.var 11)), (.var 6)])] []]
def b69_1 : List Sm := [.frz 3, .for_ (.tup [10, 11]) .val [(.var 3)] b69_0]
def b69 : List Sm := [.asgs [(4, false), (5, false)] (.var 2), .par [(6, false), (7, true)] [(.call 9 [(.var 0), (.var 4)]), (.lst [])], .asg 3 true (.lst [(.tup [(.bin .add (.var 4) (.ite (.isC false .non (.var 5)) (.var 5) (.con (.str [])))), (.tup [])])]), .ife (.cmp .eq (.var 6) (.glob "VALUE" (.str [118, 97, 108, 117, 101]))) [.app 3 (.tup [(.var 4), (.tup [(.var 5)])])] [], .for_ (.tup [8, 9]) .val [(.var 1)] b69_1, .frz 7, .ret (.var 7)]
/-- naive_count_plain -/
def n70 : List Str := ["options", "wanted", "lines", "setting", "must", "settings", "operands", "word"]
def b70_0 : List Sm := [.asg 2 false (.call 69 [(.var 0), (.var 2), (.var 3)])]
def b70 : List Sm := [.exp (.call 6 [(.var 0)]), .exp (.call 61 [(.var 0), (.var 1)]), .asgs [(5, false), (6, false)] (.var 1), .asg 2 false (.lst [(.tup [(.tup []), (.con .non)])]), .for_ (.one 3) .val [(.var 5)] b70_0, .asg 4 false (.bi .any [(.comp (.band [(.cmp .gt (.bi .len [(.var 7)]) (.con (.int 1))), (.cmp .eq (.idx (.var 7) (.con (.int 0))) (.glob "LONE" (.str [45])))]) (.one 7) .val [(.var 6)] [])]), .ret (.bin .mul (.bi .len [(.var 2)]) (.ite (.var 4) (.con (.int 1)) (.con (.int 2))))]
/-- is_text -/
def n74 : List Str := ["value", "least", "sign"]
def b74 : List Sm := [.ret (.band [(.bi (.isi .str) [(.var 0)]), (.chain .le .le (.var 1) (.bi .len [(.var 0)]) (.glob "MAX_NAME" (.int 8))), (.bi .all [(.comp (.cmp .isin (.var 2) (.glob "LETTERS" (.str Bd.LET))) (.one 2) .val [(.var 0)] [])])])]
/-- is_pair -/
def n75 : List Str := ["value"]
def b75 : List Sm := [.ife (.bor_ [(.not (.bi (.isi .tuple) [(.var 0)])), (.cmp .ne (.bi .len [(.var 0)]) (.con (.int 2))), (.not (.call 74 [(.idx (.var 0) (.con (.int 0))), (.glob "LEAST_NAME" (.int 2))]))]) [.ret (.con (.bl false))] [], .ret (.band [(.bi (.isi .str) [(.idx (.var 0) (.con (.int 1)))]), (.cmp .isin (.idx (.var 0) (.con (.int 1))) (.tup [(.glob "FLAG" (.str [102, 108, 97, 103])), (.glob "VALUE" (.str [118, 97, 108, 117, 101]))]))])]
/-- are_long -/
def n76 : List Str := ["candidate", "pair", "one", "other"]
def b76 : List Sm := [.ife (.bor_ [(.not (.bi (.isi .tuple) [(.var 0)])), (.cmp .gt (.bi .len [(.var 0)]) (.glob "MAX_NAMES" (.int 8)))]) [.ret (.con (.bl false))] [], .ife (.not (.bi .all [(.comp (.call 75 [(.var 1)]) (.one 1) .val [(.var 0)] [])])) [.ret (.con (.bl false))] [], .ret (.bi .all [(.comp (.cmp .lt (.idx (.var 2) (.con (.int 0))) (.idx (.var 3) (.con (.int 0)))) (.tup [2, 3]) .zip [(.var 0), (.cut (.var 0) (some (.con (.int 1))) none)] [])])]
/-- check_names -/
def n77 : List Str := ["value"]
def b77 : List Sm := [.ife (.not (.call 76 [(.var 0)])) [.rai 10] []]
/-- find_name -/
def n78 : List Str := ["known", "text", "found", "name"]
def b78 : List Sm := [.ife (.cmp .isin (.var 1) (.var 0)) [.ret (.var 1)] [], .asg 2 false (.comp (.var 3) (.one 3) .val [(.var 0)] [(.mt .startswith (.var 3) [(.var 1)])]), .ret (.ite (.cmp .eq (.bi .len [(.var 2)]) (.con (.int 1))) (.idx (.var 2) (.con (.int 0))) (.con .non))]
/-- names_of -/
def n79 : List Str := ["names", "name", "kind"]
def b79 : List Sm := [.ret (.comp (.var 1) (.tup [1, 2]) .val [(.var 0)] [])]
/-- read_long -/
def n84 : List Str := ["names", "word", "name", "kinds", "text", "equal", "value", "one", "kind"]
def b84 : List Sm := [.exp (.call 77 [(.var 0)]), .ife (.bor_ [(.not (.bi (.isi .str) [(.var 1)])), (.not (.mt .startswith (.var 1) [(.glob "END" (.str [45, 45]))]))]) [.rai 7] [], .asgs [(4, false), (5, false), (6, false)] (.mt .partition (.cut (.var 1) (some (.bi .len [(.glob "END" (.str [45, 45]))])) none) [(.glob "EQUAL" (.str [61]))]), .ife (.bor_ [(.not (.call 74 [(.var 4), (.con (.int 1))])), (.band [(.cmp .ne (.var 5) (.con (.str []))), (.not (.call 4 [(.var 6)]))])]) [.rai 7] [], .asg 2 false (.call 78 [(.call 79 [(.var 0)]), (.var 4)]), .asg 3 false (.comp (.var 8) (.tup [7, 8]) .val [(.var 0)] [(.cmp .eq (.var 7) (.var 2))]), .ife (.bor_ [(.cmp .eq (.var 3) (.lst [])), (.cmp .ne (.cmp .eq (.idx (.var 3) (.con (.int 0))) (.glob "VALUE" (.str [118, 97, 108, 117, 101]))) (.cmp .ne (.var 5) (.con (.str []))))]) [.rai 7] [], .ret (.tup [(.var 2), (.ite (.cmp .ne (.var 5) (.con (.str []))) (.var 6) (.con .non))])]
/-- check_letters -/
def n133 : List Str := ["value", "sign", "one", "other"]
def b133 : List Sm := [.ife (.bor_ [(.not (.bi (.isi .str) [(.var 0)])), (.cmp .gt (.bi .len [(.var 0)]) (.glob "MAX_LETTERS" (.int 4))), (.not (.bi .all [(.comp (.cmp .isin (.var 1) (.glob "LETTERS" (.str Bd.LET))) (.one 1) .val [(.var 0)] [])]))]) [.rai 2] [], .ife (.not (.bi .all [(.comp (.cmp .lt (.var 2) (.var 3)) (.tup [2, 3]) .zip [(.var 0), (.cut (.var 0) (some (.con (.int 1))) none)] [])])) [.rai 2] []]
/-- is_report -/
def n134 : List Str := ["value"]
def b134 : List Sm := [.ret (.band [(.bi (.isi .tuple) [(.var 0)]), (.cmp .eq (.bi .len [(.var 0)]) (.con (.int 2))), (.call 5 [(.idx (.var 0) (.con (.int 0)))]), (.bi (.isi .tuple) [(.idx (.var 0) (.con (.int 1)))])])]
/-- find_explaining -/
def n135 : List Str := ["letters", "reports", "found", "letter", "options", "kind", "one", "line", "told"]
def b135_0 : List Sm := [.asgC 2 (.bin .add (.var 4) (.tup [(.tup [(.var 3), (.var 5)])])) 4 (.var 2) 5 (.glob "KINDS" (.tup [(.str [102, 108, 97, 103]), (.str [109, 97, 121, 98, 101]), (.str [118, 97, 108, 117, 101])]))]
def b135 : List Sm := [.exp (.call 133 [(.var 0)]), .ife (.bor_ [(.not (.bi (.isi .list) [(.var 1)])), (.cmp .gt (.bi .len [(.var 1)]) (.glob "MAX_REPORTS" (.int 8))), (.not (.bi .all [(.comp (.call 134 [(.var 6)]) (.one 6) .val [(.var 1)] [])]))]) [.rai 8] [], .asg 2 false (.lst [(.tup [])]), .for_ (.one 3) .val [(.var 0)] b135_0, .ret (.comp (.var 4) (.one 4) .val [(.var 2)] [(.bi .all [(.comp (.cmp .eq (.call 14 [(.var 4), (.var 7)]) (.var 8)) (.tup [7, 8]) .val [(.var 1)] [])])])]
/-- explaining -/
def n136 : List Str := ["letters", "reports"]
def b136 : List Sm := [.ret (.call 135 [(.var 0), (.var 1)])]
/-- sure_kinds -/
def n137 : List Str := ["letters", "reports", "letter", "found", "kinds", "known", "options"]
def b137_0 : List Sm := [.asg 5 false (.srtSet (.comp (.call 9 [(.var 6), (.var 2)]) (.one 6) .val [(.var 3)] [])), .app 4 (.ite (.cmp .eq (.bi .len [(.var 5)]) (.con (.int 1))) (.idx (.var 5) (.con (.int 0))) (.con .non))]
def b137 : List Sm := [.par [(3, false), (4, true)] [(.call 135 [(.var 0), (.var 1)]), (.lst [])], .ife (.cmp .eq (.var 3) (.lst [])) [.ret (.lst [])] [], .for_ (.one 2) .val [(.var 0)] b137_0, .frz 4, .ret (.var 4)]
/-- shortest_plain -/
def n139 : List Str := ["options", "wanted", "fewest", "line"]
def b139 : List Sm := [.exp (.call 61 [(.var 0), (.var 1)]), .asg 2 false (.bi .len [(.call 40 [(.var 0), (.var 1)])]), .ret (.idx (.comp (.var 3) (.one 3) .val [(.call 65 [(.var 0), (.var 1)])] [(.cmp .eq (.bi .len [(.var 3)]) (.var 2))]) (.con (.int 0)))]
/-- _law_pick -/
def n154 : List Str := ["script", "k", "many", "cell", "drawn", "rest", "again"]
def b154_0 : List Sm := [.par [(5, false), (6, false)] [(.bin .fdiv (.var 5) (.con (.int 840))), (.bin .sub (.var 6) (.con (.int 1)))]]
def b154 : List Sm := [.asg 3 false (.ite (.cmp .ne (.var 0) (.lst [])) (.idx (.var 0) (.bin .mod (.bi .int1 [(.var 1)]) (.bi .len [(.var 0)]))) (.con (.int 0))), .par [(5, false), (6, false)] [(.bin .fdiv (.var 3) (.bin .pow (.con (.int 10)) (.con (.int 18)))), (.bin .fdiv (.var 1) (.bi .max2 [(.bi .len [(.var 0)]), (.con (.int 1))]))], .whl (.band [(.cmp .gt (.var 5) (.con (.int 0))), (.cmp .gt (.var 6) (.con (.int 0)))]) b154_0, .ife (.cmp .gt (.var 5) (.con (.int 0))) [.ret (.bin .mod (.bi .int1 [(.bin .mod (.bi .int1 [(.var 5)]) (.con (.int 840)))]) (.var 2))] [], .asg 4 false (.bin .mod (.bi .int1 [(.bin .mul (.bin .add (.bin .mul (.var 3) (.con (.int 31))) (.bin .mul (.con (.int 6151)) (.bin .add (.var 1) (.con (.int 1))))) (.con (.int 40692)))]) (.con (.int 2147483399))), .ret (.bin .mod (.bi .int1 [(.bin .mod (.bi .int1 [(.bin .add (.bin .mul (.var 4) (.var 4)) (.bin .fdiv (.var 4) (.con (.int 31))))]) (.con (.int 2147483629)))]) (.var 2))]
/-- _law_refused -/
def n155 : List Str := ["call", "name", "kinds", "word", "met", "met_here"]
def b155 : List Sm := [.tryX [0, 1, 2, 4, 7, 8, 9, 10] 0 5 [.asg 2 true (.lst [(.tup [(.con (.str [73, 110, 118, 97, 108, 105, 100, 82, 101, 112, 111, 114, 116, 115])), (.isX 5 8)])]), .app 2 (.tup [(.con (.str [66, 97, 100, 76, 105, 110, 101])), (.isX 5 7)]), .app 2 (.tup [(.con (.str [73, 110, 118, 97, 108, 105, 100, 82, 101, 97, 100, 105, 110, 103])), (.isX 5 9)]), .app 2 (.tup [(.con (.str [73, 110, 118, 97, 108, 105, 100, 78, 97, 109, 101, 115])), (.isX 5 10)]), .app 2 (.tup [(.con (.str [73, 110, 118, 97, 108, 105, 100, 76, 101, 116, 116, 101, 114])), (.isX 5 2)]), .ret (.cmp .eq (.compH 3 4 (.bor 2)) (.lst [(.var 1)]))], .ret (.con (.bl false))]
/-- _law_names -/
def n156 : List Str := ["pair", "spoilt", "many", "word", "sign", "one"]
def b156_0 : List Sm := [.ife (.not (.callL 155 [(.lam 1063 [0, 3]), (.con (.str [66, 97, 100, 76, 105, 110, 101]))])) [.ret (.con (.bl false))] []]
def b156 : List Sm := [.asg 0 false (.tup [(.tup [(.con (.str [102, 111, 114, 99, 101])), (.con (.str [102, 108, 97, 103]))]), (.tup [(.con (.str [102, 111, 114, 109, 97, 116])), (.con (.str [118, 97, 108, 117, 101]))])]), .asg 1 true (.lst [(.con .non), (.lst [(.idx (.var 0) (.con (.int 0)))]), (.tup [(.con .non)]), (.tup [(.tup [(.con (.str [102, 111, 114, 99, 101]))])]), (.tup [(.tup [(.con (.str [102, 111, 114, 99, 101])), (.con (.str [102, 108, 97, 103])), (.con (.int 1))])]), (.tup [(.lst [(.con (.str [102, 111, 114, 99, 101])), (.con (.str [102, 108, 97, 103]))])])]), .app 1 (.tup [(.tup [(.con (.str [102, 111, 114, 99, 101])), (.con .non)])]), .ext 1 (.lst [(.tup [(.tup [(.con (.str [102, 111, 114, 99, 101])), (.con (.str [109, 97, 121, 98, 101]))])]), (.tup [(.tup [(.con (.str [102])), (.con (.str [102, 108, 97, 103]))])]), (.tup [(.tup [(.con (.str [97, 98, 99, 100, 101, 102, 103, 104, 105])), (.con (.str [102, 108, 97, 103]))])]), (.rev (.var 0))]), .app 1 (.tup [(.idx (.var 0) (.con (.int 0))), (.idx (.var 0) (.con (.int 0)))]), .ext 1 (.lst [(.tup [(.tup [(.con (.str [70, 111, 114, 99, 101])), (.con (.str [102, 108, 97, 103]))])]), (.tup [(.tup [(.con (.str [102, 111, 114, 99, 101])), (.lst [(.con (.str [102, 108, 97, 103]))])])]), (.tup [(.tup [(.con (.str [102, 111, 114, 99, 101])), (.con (.str [102, 108, 97, 103]))]), (.tup [(.con (.str [102, 111, 114, 99, 101])), (.con (.str [118, 97, 108, 117, 101]))])])]), .app 1 (.con (.str [102, 111, 114, 99, 101])), .ife (.bor_ [(.not (.bi .all [(.comp (.isC true (.bl false) (.call 76 [(.var 5)])) (.one 5) .val [(.bor 1)] [])])), (.isC false (.bl true) (.call 76 [(.var 0)])), (.isC false (.bl true) (.call 76 [(.tup [])]))]) [.ret (.con (.bl false))] [], .asg 2 false (.bi .tup [(.comp (.tup [(.bin .add (.con (.str [97])) (.var 4)), (.con (.str [102, 108, 97, 103]))]) (.one 4) .val [(.con (.str [97, 98, 99, 100, 101, 102, 103, 104]))] [])]), .ife (.bor_ [(.isC false (.bl true) (.call 76 [(.var 2)])), (.isC false (.bl false) (.call 76 [(.bin .add (.var 2) (.tup [(.tup [(.con (.str [97, 105])), (.con (.str [102, 108, 97, 103]))])]))]))]) [.ret (.con (.bl false))] [], .asg 1 true (.lst [(.con (.str [45, 45, 61, 120, 49])), (.con (.str [45, 45])), (.con (.str [45, 102, 111, 114, 99, 101])), (.con (.str [45, 45, 102, 111, 114, 99, 101, 61, 120])), (.con (.str [45, 45, 102, 111, 114, 109, 97, 116])), (.con (.str [45, 45, 102, 111, 114, 109, 97, 116, 61])), (.con (.str [45, 45, 102, 111, 114])), (.con (.str [45, 45, 70, 111, 114, 99, 101])), (.con .non), (.lst [(.con (.str [45, 45, 102, 111, 114, 99, 101]))])]), .for_ (.one 3) .val [(.bin .add (.bor 1) (.lst [(.con (.str [])), (.bin .add (.con (.str [45, 45, 102, 111, 114, 109, 97, 116, 61])) (.bin .mul (.con (.str [120])) (.con (.int 13))))]))] b156_0, .ife (.not (.callL 155 [(.lam 1064 []), (.con (.str [66, 97, 100, 76, 105, 110, 101]))])) [.ret (.con (.bl false))] [], .ret (.band [(.cmp .eq (.call 84 [(.var 0), (.con (.str [45, 45, 102, 111, 114, 99]))]) (.tup [(.con (.str [102, 111, 114, 99, 101])), (.con .non)])), (.cmp .eq (.call 84 [(.var 0), (.con (.str [45, 45, 102, 111, 114, 109, 61, 45]))]) (.tup [(.con (.str [102, 111, 114, 109, 97, 116])), (.con (.str [45]))]))])]
/-- _law_readings -/
def n157 : List Str := ["options", "spoilt", "numbers", "words", "one"]
def b157 : List Sm := [.asg 1 true (.lst [(.con .non), (.tup []), (.bin .add (.tup [(.tup []), (.tup [])]) (.tup [(.tup [])])), (.lst [(.tup []), (.tup [])]), (.tup [(.tup [(.con .non)]), (.tup [])]), (.tup [(.tup [(.tup [(.con (.str [97]))])]), (.tup [])])]), .ext 1 (.lst [(.tup [(.tup [(.tup [(.con (.str [97])), (.con .non), (.con (.int 1))])]), (.tup [])]), (.tup [(.tup [(.lst [])]), (.tup [])])]), .ext 1 (.lst [(.tup [(.tup [(.tup [(.con .non), (.con .non)])]), (.tup [])]), (.tup [(.tup [(.tup [(.con (.str [122])), (.con .non)])]), (.tup [])]), (.tup [(.tup [(.tup [(.con (.str [111])), (.con .non)])]), (.tup [])]), (.tup [(.tup [(.tup [(.con (.str [97])), (.con (.str [120]))])]), (.tup [])])]), .app 1 (.tup [(.tup []), (.tup [(.con (.str []))])]), .ext 1 (.lst [(.tup [(.tup [(.tup [(.con (.str [111])), (.con (.str []))])]), (.tup [])]), (.tup [(.tup []), (.tup [(.con .non)])]), (.tup [(.bin .mul (.tup [(.tup [(.con (.str [97])), (.con .non)])]) (.con (.int 7))), (.tup [])]), (.tup [(.tup []), (.bin .mul (.tup [(.con (.str [120]))]) (.con (.int 7)))])]), .ext 1 (.lst [(.tup [(.tup []), (.lst [(.con (.str [120]))])]), (.tup [(.lst [(.con (.str [97]))]), (.tup [])])]), .ife (.not (.bi .all [(.comp (.isC true (.bl false) (.call 60 [(.var 0), (.var 4)])) (.one 4) .val [(.bor 1)] [])])) [.ret (.con (.bl false))] [], .ife (.bor_ [(.isC false (.bl true) (.call 60 [(.var 0), (.tup [(.bin .mul (.tup [(.tup [(.con (.str [97])), (.con .non)])]) (.con (.int 6))), (.bin .mul (.tup [(.con (.str [120]))]) (.con (.int 6)))])])), (.isC false (.bl true) (.call 60 [(.var 0), (.tup [(.tup []), (.tup [])])]))]) [.ret (.con (.bl false))] [], .ife (.bor_ [(.cmp .ne (.call 46 [(.var 0), (.tup [(.con (.str [45, 109])), (.con (.str [45, 97]))])]) (.tup [(.con (.str [45, 109])), (.con (.str [45, 97]))])), (.cmp .ne (.call 46 [(.var 0), (.tup [(.con (.str [45, 97])), (.con (.str [45, 109]))])]) (.tup [(.con (.str [45, 97, 109]))]))]) [.ret (.con (.bl false))] [], .ife (.cmp .ne (.call 139 [(.var 0), (.tup [(.tup [(.tup [(.con (.str [109])), (.con .non)]), (.tup [(.con (.str [97])), (.con .non)])]), (.tup [])])]) (.tup [(.con (.str [45, 109])), (.con (.str [45, 97]))])) [.ret (.con (.bl false))] [], .asg 2 false (.comp (.call 70 [(.var 0), (.tup [(.tup []), (.var 3)])]) (.one 3) .val [(.tup [(.tup []), (.tup [(.con (.str [45]))]), (.tup [(.con (.str [120]))]), (.tup [(.con (.str [45, 120]))]), (.tup [(.con (.str [45, 45]))]), (.tup [(.con (.str [120])), (.con (.str [45, 121]))])])] []), .ret (.band [(.cmp .eq (.var 2) (.lst [(.con (.int 2)), (.con (.int 2)), (.con (.int 2)), (.con (.int 1)), (.con (.int 1)), (.con (.int 1))])), (.cmp .eq (.call 63 [(.var 0), (.tup [(.tup []), (.tup [(.con (.str [45]))])])]) (.con (.int 2)))])]
/-- _law_reports -/
def n158 : List Str := ["report", "spoilt", "some", "letters"]
def b158_0 : List Sm := [.ife (.not (.callL 155 [(.lam 1065 [2]), (.con (.str [73, 110, 118, 97, 108, 105, 100, 82, 101, 112, 111, 114, 116, 115]))])) [.ret (.con (.bl false))] []]
def b158_1 : List Sm := [.ife (.not (.callL 155 [(.lam 1066 [3]), (.con (.str [73, 110, 118, 97, 108, 105, 100, 76, 101, 116, 116, 101, 114]))])) [.ret (.con (.bl false))] []]
def b158 : List Sm := [.asg 0 false (.tup [(.tup [(.con (.str [45, 97])), (.con (.str [120]))]), (.tup [(.tup [(.tup [(.con (.str [97])), (.con (.str [120]))])]), (.tup [])])]), .ife (.bor_ [(.cmp .ne (.call 137 [(.con (.str [97])), (.bin .mul (.lst [(.var 0)]) (.con (.int 8)))]) (.lst [(.con (.str [118, 97, 108, 117, 101]))])), (.cmp .ne (.call 136 [(.con (.str [])), (.lst [])]) (.lst [(.tup [])]))]) [.ret (.con (.bl false))] [], .asg 1 true (.lst [(.con .non), (.tup [(.var 0)]), (.bin .mul (.lst [(.var 0)]) (.con (.int 9))), (.lst [(.con .non)]), (.lst [(.tup [(.tup [(.con (.str [45, 97]))])])]), (.lst [(.bin .add (.var 0) (.tup [(.con (.int 1))]))]), (.lst [(.tup [(.tup [(.con (.str [45, 97]))]), (.lst [])])])]), .ext 1 (.lst [(.lst [(.tup [(.con .non), (.tup [])])]), (.lst [(.lst [(.tup []), (.tup [])])])]), .frz 1, .for_ (.one 2) .val [(.var 1)] b158_0, .for_ (.one 3) .val [(.tup [(.con (.str [98, 97])), (.con (.str [97, 97])), (.con (.str [97, 98, 99, 100, 101])), (.con (.str [65])), (.con .non), (.lst [(.con (.str [97]))]), (.con (.int 1))])] b158_1, .ret (.cmp .eq (.bi .len [(.call 136 [(.con (.str [97, 98, 99, 100])), (.lst [])])]) (.con (.int 81)))]
/-- law -/
def n159 : List Str := ["script", "options", "looks", "turn", "part"]
def b159 : List Sm := [.asg 1 false (.tup [(.tup [(.con (.str [97])), (.con (.str [102, 108, 97, 103]))]), (.tup [(.con (.str [98])), (.con (.str [102, 108, 97, 103]))]), (.tup [(.con (.str [109])), (.con (.str [109, 97, 121, 98, 101]))]), (.tup [(.con (.str [111])), (.con (.str [118, 97, 108, 117, 101]))])]), .asg 2 true (.lst [(.lam 1067 [])]), .app 2 (.lam 1068 [1]), .app 2 (.lam 1069 []), .asg 3 false (.call 154 [(.var 0), (.con (.int 0)), (.con (.int 3))]), .ret (.bi .all [(.compM 4 (.bin .add (.cut (.bor 2) (some (.var 3)) none) (.cut (.bor 2) none (some (.var 3)))))])]
end Bd
end
section
set_option Elab.async false
set_option linter.all false
set_option maxRecDepth 100000
set_option maxHeartbeats 0
namespace Lw
open PySem PySem.Spec L2 O OS Bd
def top (i : Nat) : Stmt := PySem.Challenge.pw_optionlines_k74_bounds.main.body.getD i (.Pass ⟨0, 0, 0, 0⟩)
def W : Lw := { globs := [("LETTERS", (.str Bd.LET)), ("SIGNS", (.str Bd.SIG)), ("FLAG", (.str [102, 108, 97, 103])), ("MAYBE", (.str [109, 97, 121, 98, 101])), ("VALUE", (.str [118, 97, 108, 117, 101])), ("KINDS", (.tup [(.str [102, 108, 97, 103]), (.str [109, 97, 121, 98, 101]), (.str [118, 97, 108, 117, 101])])), ("MAX_OPTIONS", (.int 8)), ("MAX_WORD", (.int 12)), ("MAX_LINE", (.int 6)), ("END", (.str [45, 45])), ("LONE", (.str [45])), ("OPTIONS", (.str [111, 112, 116, 105, 111, 110, 115])), ("TAKEN", (.str [118, 97, 108, 117, 101])), ("CLOSED", (.str [101, 110, 100])), ("OPERAND", (.str [111, 112, 101, 114, 97, 110, 100])), ("MAX_NAMES", (.int 8)), ("LEAST_NAME", (.int 2)), ("MAX_NAME", (.int 8)), ("EQUAL", (.str [61])), ("MAX_LETTERS", (.int 4)), ("MAX_REPORTS", (.int 8)), ("MAX_PARTS", (.int 6))], excs := [(0, "OptionError"), (1, "InvalidOptions"), (2, "InvalidLetter"), (4, "InvalidLine"), (7, "BadLine"), (8, "InvalidReports"), (9, "InvalidReading"), (10, "InvalidNames")], tr := true, tabs := [], lams := ["_law_names", "_law_reports", "law"] }
def d0 : DefI := { num := 0, name := "is_letter", top := top 19, N := n0, ar := 1, ow := false, body := b0, mkr := false, hot := false, rl := false }
def d1 : DefI := { num := 1, name := "is_kind", top := top 20, N := n1, ar := 1, ow := false, body := b1, mkr := false, hot := false, rl := false }
def d2 : DefI := { num := 2, name := "is_option", top := top 21, N := n2, ar := 1, ow := false, body := b2, mkr := false, hot := false, rl := false }
def d3 : DefI := { num := 3, name := "are_options", top := top 22, N := n3, ar := 1, ow := false, body := b3, mkr := false, hot := false, rl := false }
def d4 : DefI := { num := 4, name := "is_word", top := top 23, N := n4, ar := 1, ow := false, body := b4, mkr := false, hot := false, rl := false }
def d5 : DefI := { num := 5, name := "is_line", top := top 24, N := n5, ar := 1, ow := false, body := b5, mkr := false, hot := false, rl := false }
def d6 : DefI := { num := 6, name := "check_options", top := top 25, N := n6, ar := 1, ow := false, body := b6, mkr := false, hot := false, rl := false }
def d7 : DefI := { num := 7, name := "check_line", top := top 26, N := n7, ar := 1, ow := false, body := b7, mkr := false, hot := false, rl := false }
def d9 : DefI := { num := 9, name := "find_kind", top := top 27, N := n9, ar := 2, ow := false, body := b9, mkr := false, hot := false, rl := false }
def d11 : DefI := { num := 11, name := "is_cluster", top := top 35, N := n11, ar := 1, ow := false, body := b11, mkr := false, hot := false, rl := false }
def d12 : DefI := { num := 12, name := "read_cluster", top := top 36, N := n12, ar := 2, ow := true, body := b12, mkr := false, hot := false, rl := false }
def d13 : DefI := { num := 13, name := "read_all", top := top 37, N := n13, ar := 2, ow := false, body := b13, mkr := false, hot := false, rl := false }
def d14 : DefI := { num := 14, name := "find_reading", top := top 38, N := n14, ar := 2, ow := false, body := b14, mkr := false, hot := false, rl := false }
def d15 : DefI := { num := 15, name := "check_both", top := top 39, N := n15, ar := 2, ow := false, body := b15, mkr := false, hot := false, rl := false }
def d36 : DefI := { num := 36, name := "need_reading", top := top 40, N := n36, ar := 2, ow := false, body := b36, mkr := false, hot := false, rl := false }
def d74 : DefI := { num := 74, name := "is_text", top := top 46, N := n74, ar := 2, ow := false, body := b74, mkr := false, hot := false, rl := false }
def d75 : DefI := { num := 75, name := "is_pair", top := top 47, N := n75, ar := 1, ow := false, body := b75, mkr := false, hot := false, rl := false }
def d76 : DefI := { num := 76, name := "are_long", top := top 48, N := n76, ar := 1, ow := false, body := b76, mkr := false, hot := false, rl := false }
def d77 : DefI := { num := 77, name := "check_names", top := top 49, N := n77, ar := 1, ow := false, body := b77, mkr := false, hot := false, rl := false }
def d78 : DefI := { num := 78, name := "find_name", top := top 50, N := n78, ar := 2, ow := false, body := b78, mkr := false, hot := false, rl := false }
def d79 : DefI := { num := 79, name := "names_of", top := top 51, N := n79, ar := 1, ow := false, body := b79, mkr := false, hot := false, rl := false }
def d84 : DefI := { num := 84, name := "read_long", top := top 52, N := n84, ar := 2, ow := false, body := b84, mkr := false, hot := false, rl := false }
def d133 : DefI := { num := 133, name := "check_letters", top := top 56, N := n133, ar := 1, ow := false, body := b133, mkr := false, hot := false, rl := false }
def d134 : DefI := { num := 134, name := "is_report", top := top 57, N := n134, ar := 1, ow := false, body := b134, mkr := false, hot := false, rl := false }
def d135 : DefI := { num := 135, name := "find_explaining", top := top 58, N := n135, ar := 2, ow := false, body := b135, mkr := false, hot := false, rl := false }
def d136 : DefI := { num := 136, name := "explaining", top := top 59, N := n136, ar := 2, ow := false, body := b136, mkr := false, hot := false, rl := false }
def d137 : DefI := { num := 137, name := "sure_kinds", top := top 60, N := n137, ar := 2, ow := false, body := b137, mkr := false, hot := false, rl := false }
def d37 : DefI := { num := 37, name := "text_of", top := top 62, N := n37, ar := 1, ow := false, body := b37, mkr := false, hot := false, rl := false }
def d38 : DefI := { num := 38, name := "needs_end", top := top 63, N := n38, ar := 1, ow := false, body := b38, mkr := false, hot := false, rl := false }
def d39 : DefI := { num := 39, name := "ending", top := top 64, N := n39, ar := 1, ow := false, body := b39, mkr := false, hot := false, rl := false }
def d40 : DefI := { num := 40, name := "find_packed", top := top 65, N := n40, ar := 2, ow := false, body := b40, mkr := false, hot := false, rl := false }
def d58 : DefI := { num := 58, name := "is_setting", top := top 68, N := n58, ar := 2, ow := false, body := b58, mkr := false, hot := false, rl := false }
def d59 : DefI := { num := 59, name := "has_reading", top := top 69, N := n59, ar := 2, ow := false, body := b59, mkr := false, hot := false, rl := false }
def d60 : DefI := { num := 60, name := "is_reading", top := top 70, N := n60, ar := 2, ow := false, body := b60, mkr := false, hot := false, rl := false }
def d61 : DefI := { num := 61, name := "check_reading", top := top 71, N := n61, ar := 2, ow := false, body := b61, mkr := false, hot := false, rl := false }
def d62 : DefI := { num := 62, name := "count_ways", top := top 72, N := n62, ar := 2, ow := false, body := b62, mkr := false, hot := false, rl := false }
def d63 : DefI := { num := 63, name := "count_plain", top := top 73, N := n63, ar := 2, ow := false, body := b63, mkr := false, hot := false, rl := false }
def d64 : DefI := { num := 64, name := "extended", top := top 74, N := n64, ar := 3, ow := false, body := b64, mkr := false, hot := false, rl := false }
def d65 : DefI := { num := 65, name := "find_plain", top := top 75, N := n65, ar := 2, ow := false, body := b65, mkr := false, hot := false, rl := false }
def d139 : DefI := { num := 139, name := "shortest_plain", top := top 76, N := n139, ar := 2, ow := false, body := b139, mkr := false, hot := false, rl := false }
def d69 : DefI := { num := 69, name := "joined", top := top 78, N := n69, ar := 3, ow := false, body := b69, mkr := false, hot := false, rl := false }
def d70 : DefI := { num := 70, name := "naive_count_plain", top := top 79, N := n70, ar := 2, ow := false, body := b70, mkr := false, hot := false, rl := false }
def d44 : DefI := { num := 44, name := "find_last", top := top 81, N := n44, ar := 1, ow := false, body := b44, mkr := false, hot := false, rl := false }
def d46 : DefI := { num := 46, name := "cleaned", top := top 82, N := n46, ar := 2, ow := false, body := b46, mkr := false, hot := false, rl := false }
def d154 : DefI := { num := 154, name := "_law_pick", top := top 84, N := n154, ar := 3, ow := false, body := b154, mkr := false, hot := false, rl := false }
def d155 : DefI := { num := 155, name := "_law_refused", top := top 85, N := n155, ar := 2, ow := false, body := b155, mkr := false, hot := false, rl := false }
def d156 : DefI := { num := 156, name := "_law_names", top := top 86, N := n156, ar := 0, ow := false, body := b156, mkr := true, hot := false, rl := false }
def d157 : DefI := { num := 157, name := "_law_readings", top := top 87, N := n157, ar := 1, ow := false, body := b157, mkr := false, hot := false, rl := false }
def d158 : DefI := { num := 158, name := "_law_reports", top := top 88, N := n158, ar := 0, ow := false, body := b158, mkr := true, hot := false, rl := false }
def d159 : DefI := { num := 159, name := "law", top := top 89, N := n159, ar := 1, ow := false, body := b159, mkr := true, hot := false, rl := false }
def l1063 : LamI := { num := 1063, N := n1063, e := e1063 }
def l1064 : LamI := { num := 1064, N := n1064, e := e1064 }
def l1065 : LamI := { num := 1065, N := n1065, e := e1065 }
def l1066 : LamI := { num := 1066, N := n1066, e := e1066 }
def l1067 : LamI := { num := 1067, N := n1067, e := e1067 }
def l1068 : LamI := { num := 1068, N := n1068, e := e1068 }
def l1069 : LamI := { num := 1069, N := n1069, e := e1069 }
def ls : List LamI := [l1063, l1064, l1065, l1066, l1067, l1068, l1069]
def ds : List DefI := [d159, d158, d157, d156, d155, d154, d46, d44, d70, d69, d139, d65, d64, d63, d62, d61, d60, d59, d58, d40, d39, d38, d37, d137, d136, d135, d134, d133, d84, d79, d78, d77, d76, d75, d74, d36, d15, d14, d13, d12, d11, d9, d7, d6, d5, d4, d3, d2, d1, d0]
def nmS : List String := ["OptionError", "InvalidOptions", "InvalidLetter", "InvalidLine", "BadLine", "InvalidReports", "InvalidReading", "InvalidNames", "LETTERS", "SIGNS", "FLAG", "MAYBE", "VALUE", "KINDS", "MAX_OPTIONS", "MAX_WORD", "MAX_LINE", "is_letter", "is_kind", "is_option", "are_options", "is_word", "is_line", "check_options", "check_line", "find_kind", "END", "LONE", "OPTIONS", "TAKEN", "CLOSED", "OPERAND", "is_cluster", "read_cluster", "read_all", "find_reading", "check_both", "need_reading", "MAX_NAMES", "LEAST_NAME", "MAX_NAME", "EQUAL", "is_text", "is_pair", "are_long", "check_names", "find_name", "names_of", "read_long", "MAX_LETTERS", "MAX_REPORTS", "check_letters", "is_report", "find_explaining", "explaining", "sure_kinds", "text_of", "needs_end", "ending", "find_packed", "MAX_PARTS", "is_setting", "has_reading", "is_reading", "check_reading", "count_ways", "count_plain", "extended", "find_plain", "shortest_plain", "joined", "naive_count_plain", "find_last", "cleaned", "_law_pick", "_law_refused", "_law_names", "_law_readings", "_law_reports"]
def nm : List Str := nmS.map Str.ofString
abbrev R : PySem.W.OpenRow := PySem.W.OpenLaw.row PySem.Challenge.rw_optionlines_k74_bounds
abbrev hk : PySem.W.Hook := He.hookX 5 (faOf W ds) (fnD ds) (tsOf W) (tfOf W) (exOf W)
def ob (s : PySem.W.SharedT) : He.AlX := He.obsX 5 (faOf W ds) (fnD ds) (tsOf W) (tfOf W) (exOf W) (HandSHeadRun.getT s)
theorem ob_eq (s : PySem.W.SharedT) : ob s = hk.obs s.abs := He.obsX_eq (HandSHeadRun.getT_eq s)
def RunB (w : World) : Prop := HandSHeadRun.RunEq R (PySem.W.view R.prog [89]) hk ob 8000 nm w
theorem run (w : World) : RunB w := by
  intro os
  kernel_rfl
end Lw
end
section
set_option Elab.async false
set_option linter.all false
set_option maxRecDepth 100000
namespace OS
open PySem O
/-! ### texts in order: there is one way -/
theorem insS_perm (x : List Nat) : ∀ l : List (List Nat), (insS x l).Perm (x :: l)
  | [] => .refl _
  | y :: r => by
    unfold insS
    split
    · exact ((insS_perm x r).cons y).trans (.swap x y r)
    · exact .refl _
theorem sortS_perm : ∀ l : List (List Nat), (sortS l).Perm l
  | [] => .refl _
  | x :: r => by
    unfold sortS
    exact (insS_perm x (sortS r)).trans ((sortS_perm r).cons x)
def SortedS (l : List (List Nat)) : Prop := l.Pairwise fun a b => ¬ b < a
theorem insS_sorted {x : List Nat} : ∀ {l : List (List Nat)}, SortedS l → SortedS (insS x l)
  | [], _ => List.pairwise_singleton _ _
  | y :: r, h => by
    obtain ⟨h1, h2⟩ := List.pairwise_cons.mp h
    unfold insS
    split
    · rename_i hyx
      refine List.pairwise_cons.mpr ⟨fun z hz => ?_, insS_sorted h2⟩
      rcases List.mem_cons.mp ((insS_perm x r).mem_iff.mp hz) with rfl | hz
      · exact fun q => List.lt_irrefl _ (List.lt_trans q hyx)
      · exact h1 z hz
    · rename_i hyx
      refine List.pairwise_cons.mpr ⟨fun z hz => ?_, h⟩
      rcases List.mem_cons.mp hz with rfl | hz
      · exact hyx
      · intro q
        have : ¬ z < y := h1 z hz
        exact hyx (List.lt_of_le_of_lt (List.not_lt.mp this) q)
theorem sortS_sorted : ∀ l : List (List Nat), SortedS (sortS l)
  | [] => .nil
  | x :: r => insS_sorted (sortS_sorted r)
theorem sortedS_uniq : ∀ {l m : List (List Nat)}, l.Perm m → SortedS l → SortedS m → l = m
  | [], m, p, _, _ => (List.perm_nil.mp p.symm).symm
  | x :: l, [], p, _, _ => absurd (List.perm_nil.mp p) (by simp)
  | x :: l, y :: m, p, h, k => by
    obtain ⟨h1, h2⟩ := List.pairwise_cons.mp h
    obtain ⟨k1, k2⟩ := List.pairwise_cons.mp k
    have e : x = y := by
      have hx : x ∈ y :: m := p.mem_iff.mp (List.mem_cons_self ..)
      have hy : y ∈ x :: l := p.symm.mem_iff.mp (List.mem_cons_self ..)
      rcases List.mem_cons.mp hx with e | hx
      · exact e
      · rcases List.mem_cons.mp hy with e | hy
        · exact e.symm
        · exact List.le_antisymm (List.not_lt.mp (h1 y hy)) (List.not_lt.mp (k1 x hx))
    subst e
    rw [sortedS_uniq (List.perm_cons x |>.mp p) h2 k2]
theorem nub_mem {x : List Nat} : ∀ {l : List (List Nat)}, x ∈ nub l ↔ x ∈ l
  | [] => by simp [nub]
  | y :: l => by
    unfold nub
    rw [List.mem_cons, List.mem_cons, List.mem_filter, nub_mem (l := l)]
    by_cases e : x = y
    · simp [e]
    · simp [e]
theorem nub_len : ∀ (l : List (List Nat)), (nub l).length ≤ l.length
  | [] => Nat.le_refl _
  | y :: l => by
    unfold nub
    have h1 := List.length_filter_le (fun z => decide (z ≠ y)) (nub l)
    have h2 := nub_len l
    simp only [List.length_cons]
    omega
theorem perm_nodup {α : Type} [DecidableEq α] : ∀ {l m : List α}, l.Nodup → m.Nodup → (∀ x, x ∈ l ↔ x ∈ m) → l.Perm m
  | [], m, _, _, h => by
    cases m with
    | nil => exact List.Perm.refl _
    | cons y m => exact absurd ((h y).mpr (List.mem_cons_self ..)) (by simp)
  | x :: l, m, nl, nm, h => by
    rw [List.nodup_cons] at nl
    have hx := (h x).mp (List.mem_cons_self ..)
    have p := List.perm_cons_erase hx
    have nd : (x :: m.erase x).Nodup := p.nodup_iff.mp nm
    rw [List.nodup_cons] at nd
    refine List.Perm.trans (List.Perm.cons x (perm_nodup nl.2 nd.2 fun y => ?_)) p.symm
    constructor
    · intro hy
      have : y ≠ x := fun z => nl.1 (by rw [← z]; exact hy)
      exact (List.mem_erase_of_ne this).mpr ((h y).mp (List.mem_cons_of_mem _ hy))
    · intro hy
      have : y ≠ x := fun z => by subst z; exact nd.1 hy
      have := (h y).mpr ((List.mem_erase_of_ne this).mp hy)
      rcases List.mem_cons.mp this with z | z
      · exact absurd z (by assumption)
      · exact z
theorem nub_nodup : ∀ (l : List (List Nat)), (nub l).Nodup
  | [] => List.nodup_nil
  | y :: l => by
    unfold nub
    rw [List.nodup_cons]
    exact ⟨fun z => by simpa using (List.mem_filter.mp z).2, (nub_nodup l).filter _⟩
end OS

end

section
set_option Elab.async false
set_option linter.all false
set_option maxRecDepth 100000
set_option maxHeartbeats 1000000
/-! tuples that are known to have no names of their own -/
namespace OS
open PySem PySem.Spec PyProof.Rows L2
/-- the object at a holds no dict of its own -/
def Pl (K : PySem.W.Frag) (H : Hp) (a : Addr) : Prop := (∃ o u, H a = some (.frz o u) ∧ o.dict = none) ∨ ∃ o, K.lookup a = some o ∧ o.dict = none
section
variable {X : Cx} {pins : List (Addr × Obj)} {σ : L2.St} {H : Hp} {s : Shared} {Q : VK}
/-- the way on behind a new tuple -/
def NewT (Q : VK) (H : Hp) (xs : List V) : Prop := ∀ p o, H p = none → o.dict = none → Q (.ref p) (upd H p (.frz o (.tup xs)))
theorem ep_tup (I : Inv X pins σ H s) {xs : List V} {its : List Value} (r : Vals xs its) (hz : xs.length ≤ sizeLine) (q : NewT Q H xs) :
    EP X pins σ Q (.ref s.heap.objs.size) { s with heap := s.heap.push { cls := .type "tuple", data := .seq its.toArray } } := by
  have fr : H s.heap.objs.size = none := I.hok.fresh (Nat.le_refl _)
  refine ⟨.ref s.heap.objs.size, _, I.laid (a := s.heap.objs.size) (o := .frz { cls := .type "tuple", data := .seq its.toArray } (.tup xs)) (t' := s.toks) (fun b ob e => Heap.get?_push_of_some _ e) (Nat.le_refl _) ?_, rfl, q _ _ fr rfl⟩
  have here := Heap.get?_push_size s.heap (o := { cls := .type "tuple", data := .seq its.toArray }) rfl
  exact ⟨here, hz, its, r, ⟨_, here, rfl, 0, rfl⟩⟩
end
section
variable {X : Cx} {es : List Expr} {t : TA} {pos : Pos}
def tTupP (t : TA) : TE := fun σ H Q => t σ H fun xs G => xs.length ≤ sizeLine ∧ NewT Q G xs
theorem pe_tupP {k : Nat} (h : PA X es t) : PE X (.Tuple es k pos) (tTupP t) :=
  ⟨fun pins s σ H Q I hq => wpAny_Tuple_spliced (thn (h.run pos pins s σ H _ I hq) fun us s1 ⟨xs, G, I1, r, z, q⟩ => ⟨by have := r.length; omega, ep_tup I1 r z q⟩)⟩
/-- tuple(xs) -/
theorem call_tuplePl : CallR X (.type "tuple") (fun xs H Q => ∃ p ys, xs = [.ref p] ∧ ((SqL X.K H p ys ∧ NewT Q H ys) ∨ (SqT X.K H p ys ∧ Q (.ref p) H))) := by
  intro pins s σ H xs us Q I r h
  obtain ⟨p, ys, e, h⟩ := h
  subst e
  obtain ⟨u, eu, ru⟩ := vals1 r
  subst eu
  cases ru
  cases h with
  | inl h =>
    obtain ⟨its, rv, pl, hz⟩ := I.list h.1
    have hn := rv.length
    refine call_tuple_list pl.isList (fun h' kp => ?_) (by rw [List.size_toArray]; omega)
    exact ep_tup (s := { s with heap := h' }) (I.kept (t' := s.toks) kp) rv hz h.2
  | inr h =>
    obtain ⟨its, rv, pl, hz⟩ := I.tuple h.1
    exact call_tuple_same pl ⟨.ref p, H, I, rfl, h.2⟩
/-- t + u -/
theorem op_catPl : OpR X (binaryOp .Add) (fun x y H Q => ∃ a b xs ys, x = .ref a ∧ y = .ref b ∧ SqT X.K H a xs ∧ SqT X.K H b ys ∧ xs.length + ys.length ≤ sizeLine ∧
    (xs = [] → Q (.ref b) H) ∧ (xs ≠ [] → ys = [] → Q (.ref a) H) ∧ (xs ≠ [] → ys ≠ [] → NewT Q H (xs ++ ys))) := by
  intro pins s σ H x y v u Q I rx ry h
  obtain ⟨a, b, xs, ys, e1, e2, ha, hb, hz, q0, q1, q2⟩ := h
  subst e1 e2
  cases rx
  cases ry
  obtain ⟨is1, r1, p1, _⟩ := I.tuple ha
  obtain ⟨is2, r2, p2, _⟩ := I.tuple hb
  by_cases hx : xs = []
  · subst hx
    cases r1
    exact cat_tup0 p1 p2 ⟨.ref b, H, I, rfl, q0 rfl⟩
  · refine HT.cat_tup p1 p2 (fun z => hx (r1.nil_iff.mp z)) (fun z => ⟨.ref a, H, I, rfl, q1 hx (r2.nil_iff.mp z)⟩) (fun z => ?_) (by have := r1.length; have := r2.length; omega)
    exact ep_tup I (r1.append r2) (by rw [List.length_append]; exact hz) (q2 hx fun w => z (r2.nil_iff.mpr w))
/-- t[lo:hi] -/
theorem sl_tupPl : SlR X (fun x lo hi H Q => ∃ a xs, x = .ref a ∧ SqT X.K H a xs ∧ (HT.sIx xs.length 0 lo = 0 ∧ HT.sIx xs.length xs.length hi = xs.length → Q (.ref a) H) ∧
    (¬ (HT.sIx xs.length 0 lo = 0 ∧ HT.sIx xs.length xs.length hi = xs.length) → NewT Q H (cutV xs lo hi))) := by
  intro pins s σ H x v vl vu lo hi sl Q I rx hs pl pu h
  obtain ⟨a, xs, e, hx, q1, q2⟩ := h
  subst e
  cases rx
  obtain ⟨its, r, ht, hz⟩ := I.tuple hx
  have hn : its.toArray.size = xs.length := by have := r.length; rw [List.size_toArray]; omega
  refine ⟨"tuple", _, PyProof.Rows.slot_tuple_getitem.lookup, ht.typeIs, ?_⟩
  by_cases hw : HT.sIx xs.length 0 lo = 0 ∧ HT.sIx xs.length xs.length hi = xs.length
  · exact getItem_tuple_whole ht hs pl pu (by rw [hn]; exact hw) ⟨.ref a, H, I, rfl, q1 hw⟩
  · refine HT.getItem_tuple_cut ht hs pl pu (by rw [hn]; exact hw) ?_ (by omega)
    rw [hn]
    exact ep_tup I ((r.drop _).take _) (Nat.le_trans (cutV_length xs lo hi) hz) (q2 hw)
/-- t * n -/
theorem op_repPl : OpR X (binaryOp .Mult) (fun x y H Q => ∃ l k xs, x = .ref l ∧ y = .int k ∧ SqT X.K H l xs ∧ xs ≠ [] ∧ 2 ≤ k ∧ k ≤ 1000 ∧ xs.length ≤ 1000 ∧ NewT Q H (List.replicate k.toNat xs).flatten) := by
  intro pins s σ H x y v u Q I rx ry h
  obtain ⟨l, k, xs, e1, e2, hT, hne, h1, h2, hz, q⟩ := h
  subst e1 e2
  cases rx
  obtain ⟨t, et⟩ := ry
  subst et
  obtain ⟨its, r, ⟨⟨cls, dd, data, sl⟩, ho, hc, n, hd⟩, hs⟩ := I.tuple hT
  cases hc
  cases hd
  have hle : its.length = xs.length := r.length.symm
  have hi : its.toArray.isEmpty = false := by
    cases its with
    | nil => exact absurd (List.eq_nil_of_length_eq_zero hle.symm) hne
    | cons a b => rfl
  have hm : ((its.toArray.size : Nat) : Int) * k ≤ 1000000 := by
    rw [List.size_toArray, hle]
    have := Int.mul_le_mul_of_nonneg_right (show ((xs.length : Nat) : Int) ≤ 1000 by omega) (show 0 ≤ k by omega)
    omega
  have hfl : k.toNat * xs.length ≤ sizeLine := by
    have := Nat.mul_le_mul (show k.toNat ≤ 1000 by omega) hz
    rw [sizeLine_eq]
    omega
  have fl : (List.replicate k.toNat its).flatten.length ≤ sizeLine := by
    rw [PyProof.Rows.lm_len_rep_flat, hle]; exact hfl
  have c1 : (its.toArray.isEmpty || k == 1) = false := by rw [hi]; simp; omega
  have c2 : (decide (k ≤ 0) || its.toArray.isEmpty) = false := by rw [hi]; simp; omega
  have c0 : (decide (k < -(2 ^ 63)) || decide (k ≥ 2 ^ 63)) = false := by simp; omega
  have c4 : Builtin.Tuple.tupleTooMany (((its.toArray.size : Nat) : Int) * k) = false := by
    unfold Builtin.Tuple.tupleTooMany
    rw [sizeLine_eq]
    exact decide_eq_false (by omega)
  have mul := tuple_mulW l its.toArray n dd sl k t c0 c1 c2 (by omega) c4 (by rw [size_rep, List.size_toArray]; exact fl)
  refine wpAny_binaryOp_repeat_ref (T := "tuple") (U := "int") (by decide) ⟨_, ho, rfl⟩ (fun s' => typeIs_int s' k t) noFill_tuple_mul F.fills_int_mul F.slot_int_rmul repeat_tuple F.slot_int_index.lookup ?_
  refine call_meets F.slot_int_rmul (typeIs_int s k t) F.entry_int_rmul (F.args_int_rmul_2 _ _) (int_rmul_tuple k t l its.toArray n dd sl) ⟨ho, rfl, ⟨_, ho, rfl⟩, ?_⟩
  refine call_meets F.slot_tuple_mul ⟨_, ho, rfl⟩ F.entry_tuple_mul (F.args_tuple_mul_2 _ _) mul ⟨ho, ?_⟩
  rw [size_rep]
  exact ep_tup I (r.rep k.toNat) (by rw [PyProof.Rows.lm_len_rep_flat]; exact hfl) q
end
end OS

end

section
set_option Elab.async false
set_option linter.all false
set_option maxRecDepth 100000
set_option maxHeartbeats 1000000
/-! What a tree says of the heap; what an expression of the language is worth there. -/
namespace OS
open PySem PySem.Spec PyProof.Rows L2 O
/-- what is fixed through a law: the addresses of the defs and of the classes, the tables of code objects -/
structure Zx where
  fad : Nat → Addr
  cad : Nat → Addr
  T : List (Addr × Str)
  xa : Option (Addr × Nat) := none
  /-- the lambdas: their text is as they say; the names that they take; the frame that makes them -/
  okl : Nat → Arguments → Scope → Expr → Bool := fun _ _ _ _ => false
  lN : Nat → List Str := fun _ => []
  fc : List (Str × Addr) := []
  fN : List Str := []
  fS : Option Scope := none
  /-- the objects -/
  ob : List Addr := []
def okS (s : List Nat) : Prop := ∀ c ∈ s, c < 1114112
def isTB : PV → Bool
  | .tup _ => true
  | _ => false
/-- a tuple; one of tuples alone has no names of its own -/
def SqQ (K : PySem.W.Frag) (H : Hp) (ps : List PV) (a : Addr) (vs : List V) : Prop := SqT K H a vs ∧ (ps.all isTB = true → Pl K H a)
/-- the object at a is o -/
abbrev ObE (a : Addr) (o : Obj) : HO := .ext fun h => h.get? a = some o
/-- a closure that lies in the heap with the cells that it took -/
def CloA (Z : Zx) (H : Hp) (k : Nat) (f : Addr) (vs : List V) : Prop :=
  ∃ (q : Str) (params : Arguments) (body : Expr) (scope : Scope) (cl : List (Str × Addr)) (pm ctv : Value) (c' : Addr),
    H f = some (ObE f (PySem.W.kla_obj "<lambda>" q params body scope cl pm c' ctv)) ∧ H c' = some (LamX.CodeO c' q) ∧ Z.okl k params scope body = true ∧
    (∀ x y c, cl.lookup x = some c → cl.lookup y = some c → x = y) ∧ (∀ y, scope.names.lookup y = some .free → ∃ c, cl.lookup y = some c) ∧
    (∀ x c, cl.lookup x = some c → ∃ o u, H c = some (ObE c o) ∧ o.data = .cell (some u) ∧ ∀ q, ObE c o ≠ LamX.CodeO c q) ∧
    vs.length = (Z.lN k).length ∧ ∀ (i : Nat) (x : Str) (v : V), (Z.lN k)[i]? = some x → vs[i]? = some v → ∃ c o u, cl.lookup x = some c ∧ H c = some (ObE c o) ∧ o.data = .cell (some u) ∧ RelV v u
/-- a lambda of this frame -/
def LamA (Z : Zx) (H : Hp) (k : Nat) (is : List Nat) (f : Addr) : Prop :=
  ∃ (q : Str) (params : Arguments) (body : Expr) (scope sc : Scope) (pm ctv : Value) (c' : Addr),
    H f = some (ObE f (PySem.W.kla_obj "<lambda>" q params body scope (cloFrom Z.fc scope.names []) pm c' ctv)) ∧ H c' = some (LamX.CodeO c' q) ∧ Z.okl k params scope body = true ∧ Z.fS = some sc ∧ LamX.LamS sc scope ∧
    (∀ y ∈ scope.names, y.2 = .free → y.1 ∈ Z.lN k) ∧ is.length = (Z.lN k).length ∧ ∀ (j : Nat) (x : Str), (Z.lN k)[j]? = some x → scope.names.lookup x = some .free ∧ ∃ i, is[j]? = some i ∧ Z.fN[i]? = some x
mutual
/-- the value v is the tree p -/
def Rep (Z : Zx) (K : PySem.W.Frag) (H : Hp) : PV → V → Prop
  | .non, v => v = .non
  | .bl b, v => v = .bl b
  | .int i, v => v = .int i
  | .str s, v => v = .str (cps s) ∧ okS s
  | .tup ps, v => ∃ a vs, v = .ref a ∧ SqQ K H ps a vs ∧ RepL Z K H ps vs
  | .lst ps, v => ∃ a vs, v = .ref a ∧ H a = some (.lst vs) ∧ RepL Z K H ps vs
  | .fn k, v => v = .ref (Z.fad k)
  | .exc k, v => ∃ a, v = .ref a ∧ Z.xa = some (a, k)
  | .scr ns, v => ∃ a, v = .ref a ∧ SqL K H a (ns.map V.int)
  | .clo k ps, v => ∃ f vs, v = .ref f ∧ (CloA Z H k f vs ∧ PV.cleanL ps = true) ∧ RepL Z K H ps vs
  | .lam k is, v => ∃ f, v = .ref f ∧ LamA Z H k is f
  | .obj j, v => ∃ a, v = .ref a ∧ Z.ob[j]? = some a
def RepL (Z : Zx) (K : PySem.W.Frag) (H : Hp) : List PV → List V → Prop
  | [], vs => vs = []
  | p :: ps, vs => ∃ v r, vs = v :: r ∧ Rep Z K H p v ∧ RepL Z K H ps r
end
def noTbl (o : HO) : Prop := ∀ ps, o ≠ .tbl ps
/-- all but the tables stay; the tables stay tables -/
structure Ext (T : List (Addr × Str)) (H H' : Hp) : Prop where
  keep : ∀ b o, H b = some o → noTbl o → H' b = some o
  tabs : LamX.Tabs T H → LamX.Tabs T H'
theorem Ext.refl {T : List (Addr × Str)} (H : Hp) : Ext T H H := ⟨fun _ _ h _ => h, fun h => h⟩
theorem Ext.trans {T : List (Addr × Str)} {H H1 H2 : Hp} (a : Ext T H H1) (b : Ext T H1 H2) : Ext T H H2 := ⟨fun c o h n => b.keep c o (a.keep c o h n) n, fun h => b.tabs (a.tabs h)⟩
theorem Ext.new {T : List (Addr × Str)} {H : Hp} {p : Addr} {o : HO} (h : H p = none) : Ext T H (upd H p o) :=
  ⟨fun b u e _ => by rw [upd_ne (ne_of_none e h)]; exact e, fun t => t.ext fun b u e => by rw [upd_ne (ne_of_none e h)]; exact e⟩
theorem noTbl.lst {xs : List V} : noTbl (.lst xs) := fun _ h => by cases h
theorem noTbl.tup {xs : List V} : noTbl (.tup xs) := fun _ h => by cases h
theorem noTbl.frz {o : Obj} {u : HO} : noTbl (.frz o u) := fun _ h => by cases h
theorem noTbl.dK {xs : List (Key × V)} : noTbl (.dK xs) := fun _ h => by cases h
theorem noTbl.ext {f : Heap → Prop} : noTbl (.ext f) := fun _ h => by cases h
theorem Rd.go {T : List (Addr × Str)} {H H' : Hp} {a : Addr} {u : HO} (e : Ext T H H') (n : noTbl u) (h : Rd H a u) : Rd H' a u := by
  rcases h with h | ⟨o, h⟩
  · exact .inl (e.keep _ _ h n)
  · exact .inr ⟨o, e.keep _ _ h noTbl.frz⟩
theorem SqT.go {K : PySem.W.Frag} {T : List (Addr × Str)} {H H' : Hp} {a : Addr} {xs : List V} (e : Ext T H H') (h : SqT K H a xs) : SqT K H' a xs := by
  rcases h with h | h
  · exact .inl (Rd.go e noTbl.tup h)
  · exact .inr h
theorem SqQ.go {K : PySem.W.Frag} {T : List (Addr × Str)} {H H' : Hp} {ps : List PV} {a : Addr} {xs : List V} (e : Ext T H H') (h : SqQ K H ps a xs) : SqQ K H' ps a xs :=
  ⟨SqT.go e h.1, fun z => (h.2 z).imp (fun ⟨o, u, h1, h2⟩ => ⟨o, u, e.keep _ _ h1 noTbl.frz, h2⟩) id⟩
theorem SqQ.of {K : PySem.W.Frag} {H : Hp} {ps : List PV} {a : Addr} {o : Obj} {xs : List V} (h : H a = some (.frz o (.tup xs))) (hd : o.dict = none) : SqQ K H ps a xs := ⟨.inl (.inr ⟨o, h⟩), fun _ => .inl ⟨o, _, h, hd⟩⟩
theorem SqQ.non {K : PySem.W.Frag} {H : Hp} {ps : List PV} {a : Addr} {xs : List V} (h : SqT K H a xs) (hn : ps.all isTB = false) : SqQ K H ps a xs := ⟨h, fun z => by rw [hn] at z; cases z⟩
theorem SqL.go {K : PySem.W.Frag} {T : List (Addr × Str)} {H H' : Hp} {a : Addr} {xs : List V} (e : Ext T H H') (h : SqL K H a xs) : SqL K H' a xs := by
  rcases h with h | h
  · exact .inl (Rd.go e noTbl.lst h)
  · exact .inr h
theorem CloA.go {Z : Zx} {T : List (Addr × Str)} {H H' : Hp} {k : Nat} {f : Addr} {vs : List V} (e : Ext T H H') (h : CloA Z H k f vs) : CloA Z H' k f vs := by
  obtain ⟨q, params, body, scope, cl, pm, ctv, c', h1, h2, h3, h4, h5, h6, h7, h8⟩ := h
  refine ⟨q, params, body, scope, cl, pm, ctv, c', e.keep _ _ h1 noTbl.ext, e.keep _ _ h2 noTbl.ext, h3, h4, h5, fun x c z => ?_, h7, fun i x v a b => ?_⟩
  · obtain ⟨o, u, z1, z2, z3⟩ := h6 x c z
    exact ⟨o, u, e.keep _ _ z1 noTbl.ext, z2, z3⟩
  · obtain ⟨c, o, u, z0, z1, z2, z3⟩ := h8 i x v a b
    exact ⟨c, o, u, z0, e.keep _ _ z1 noTbl.ext, z2, z3⟩
theorem LamA.go {Z : Zx} {T : List (Addr × Str)} {H H' : Hp} {k : Nat} {is : List Nat} {f : Addr} (e : Ext T H H') (h : LamA Z H k is f) : LamA Z H' k is f := by
  obtain ⟨q, params, body, scope, sc, pm, ctv, c', h1, h2, h3⟩ := h
  exact ⟨q, params, body, scope, sc, pm, ctv, c', e.keep _ _ h1 noTbl.ext, e.keep _ _ h2 noTbl.ext, h3⟩
section
variable {Z : Zx} {K : PySem.W.Frag} {T : List (Addr × Str)} {H H' : Hp}
mutual
theorem Rep.go (e : Ext T H H') : ∀ {p : PV} {v : V}, Rep Z K H p v → Rep Z K H' p v
  | .non, _, h => h
  | .bl _, _, h => h
  | .int _, _, h => h
  | .str _, _, h => h
  | .tup ps, _, ⟨a, vs, h1, h2, h3⟩ => ⟨a, vs, h1, SqQ.go e h2, RepL.go e h3⟩
  | .lst ps, _, ⟨a, vs, h1, h2, h3⟩ => ⟨a, vs, h1, e.keep _ _ h2 noTbl.lst, RepL.go e h3⟩
  | .fn _, _, h => h
  | .exc _, _, h => h
  | .scr _, _, ⟨a, h1, h2⟩ => ⟨a, h1, SqL.go e h2⟩
  | .clo _ _, _, ⟨f, vs, h1, h2, h3⟩ => ⟨f, vs, h1, ⟨CloA.go e h2.1, h2.2⟩, RepL.go e h3⟩
  | .lam _ _, _, ⟨f, h1, h2⟩ => ⟨f, h1, LamA.go e h2⟩
  | .obj _, _, h => h
theorem RepL.go (e : Ext T H H') : ∀ {ps : List PV} {vs : List V}, RepL Z K H ps vs → RepL Z K H' ps vs
  | [], _, h => h
  | _ :: _, _, ⟨v, r, h1, h2, h3⟩ => ⟨v, r, h1, Rep.go e h2, RepL.go e h3⟩
end
theorem RepL.length : ∀ {ps : List PV} {vs : List V}, RepL Z K H ps vs → ps.length = vs.length
  | [], _, h => by rw [show _ = [] from h]; rfl
  | _ :: _, _, ⟨v, r, h1, _, h3⟩ => by rw [h1, List.length_cons, List.length_cons, RepL.length h3]
theorem RepL.append : ∀ {ps qs : List PV} {vs us : List V}, RepL Z K H ps vs → RepL Z K H qs us → RepL Z K H (ps ++ qs) (vs ++ us)
  | [], _, _, _, h, h' => by rw [show _ = [] from h]; exact h'
  | _ :: _, _, _, _, ⟨v, r, h1, h2, h3⟩, h' => ⟨v, _, by rw [h1]; rfl, h2, RepL.append h3 h'⟩
theorem RepL.get : ∀ {ps : List PV} {vs : List V} {i : Nat} {p : PV}, RepL Z K H ps vs → ps[i]? = some p → ∃ v, vs[i]? = some v ∧ Rep Z K H p v
  | _ :: _, _, 0, p, ⟨v, r, h1, h2, _⟩, e => by
    rw [List.getElem?_cons_zero] at e
    cases e
    exact ⟨v, by rw [h1]; rfl, h2⟩
  | _ :: ps, _, i + 1, p, ⟨v, r, h1, _, h3⟩, e => by
    rw [List.getElem?_cons_succ] at e
    obtain ⟨u, a, b⟩ := RepL.get h3 e
    exact ⟨u, by rw [h1]; exact a, b⟩
  | [], _, _, _, _, e => by simp at e
theorem RepL.take : ∀ {ps : List PV} {vs : List V} (n : Nat), RepL Z K H ps vs → RepL Z K H (ps.take n) (vs.take n)
  | [], _, n, h => by rw [show _ = [] from h]; simp; rfl
  | _ :: _, _, 0, _ => rfl
  | _ :: _, _, n + 1, ⟨v, r, h1, h2, h3⟩ => ⟨v, r.take n, by rw [h1]; rfl, h2, RepL.take n h3⟩
theorem RepL.drop : ∀ {ps : List PV} {vs : List V} (n : Nat), RepL Z K H ps vs → RepL Z K H (ps.drop n) (vs.drop n)
  | [], _, n, h => by rw [show _ = [] from h]; simp; rfl
  | _ :: _, _, 0, h => h
  | _ :: _, _, n + 1, ⟨v, r, h1, h2, h3⟩ => by rw [h1]; exact RepL.drop n h3
theorem RepL.set {p : PV} {v : V} (hp : Rep Z K H p v) : ∀ {ps : List PV} {vs : List V} (n : Nat), RepL Z K H ps vs → RepL Z K H (ps.set n p) (vs.set n v)
  | [], _, n, h => by rw [show _ = [] from h]; rfl
  | _ :: _, _, 0, ⟨v', r, h1, h2, h3⟩ => ⟨v, r, by rw [h1]; rfl, hp, h3⟩
  | _ :: _, _, n + 1, ⟨v', r, h1, h2, h3⟩ => ⟨v', r.set n v, by rw [h1]; rfl, h2, RepL.set hp n h3⟩
theorem RepL.reverse : ∀ {ps : List PV} {vs : List V}, RepL Z K H ps vs → RepL Z K H ps.reverse vs.reverse
  | [], _, h => by rw [show _ = [] from h]; rfl
  | _ :: _, _, ⟨v, r, h1, h2, h3⟩ => by
    rw [h1, List.reverse_cons, List.reverse_cons]
    exact RepL.append (RepL.reverse h3) ⟨v, [], rfl, h2, rfl⟩
theorem RepL.rep {ps : List PV} {vs : List V} (h : RepL Z K H ps vs) : ∀ n : Nat, RepL Z K H (rep n ps) (List.replicate n vs).flatten
  | 0 => rfl
  | n + 1 => by
    unfold O.rep
    rw [List.replicate_succ, List.replicate_succ, List.flatten_cons, List.flatten_cons]
    exact RepL.append h (RepL.rep h n)
theorem RepL.cons {p : PV} {v : V} {ps : List PV} {vs : List V} (h : Rep Z K H p v) (h' : RepL Z K H ps vs) : RepL Z K H (p :: ps) (v :: vs) := ⟨v, vs, rfl, h, h'⟩
theorem RepL.nil : RepL Z K H [] [] := rfl

/-! ### the heap without what is owned -/
def Hm (H : Hp) (M : List Addr) : Hp := fun a => if a ∈ M then none else H a
theorem Hm.in {H : Hp} {M : List Addr} {a : Addr} {o : HO} (h : Hm H M a = some o) : H a = some o ∧ a ∉ M := by
  unfold Hm at h
  split at h
  · cases h
  · rename_i q
    exact ⟨h, q⟩
theorem Hm.of {H : Hp} {M : List Addr} {a : Addr} {o : HO} (h : H a = some o) (n : a ∉ M) : Hm H M a = some o := by
  unfold Hm
  rw [if_neg n]
  exact h
theorem Hm.nil {H : Hp} : Hm H [] = H := by
  funext a
  unfold Hm
  rw [if_neg (by simp)]
/-- owned things are tracked -/
def Own (H : Hp) (M : List Addr) : Prop := ∀ a ∈ M, (∃ xs, H a = some (.lst xs)) ∨ ∃ kvs, H a = some (.dK kvs)
theorem Own.go {M : List Addr} (o : Own H M) (e : Ext T H H') : Own H' M := fun a ha => (o a ha).imp (fun ⟨xs, h⟩ => ⟨xs, e.keep _ _ h noTbl.lst⟩) fun ⟨xs, h⟩ => ⟨xs, e.keep _ _ h noTbl.dK⟩
theorem Own.new {M : List Addr} (o : Own H M) {p : Addr} (h : H p = none) : p ∉ M := fun hp => by
  rcases o p hp with ⟨_, e⟩ | ⟨_, e⟩ <;> rw [h] at e <;> cases e
theorem tabs_Hm {M : List Addr} (o : Own H M) : LamX.Tabs T (Hm H M) ↔ LamX.Tabs T H := by
  have nT : ∀ a u, H a = some u → (∀ xs, u ≠ .lst xs) → (∀ xs, u ≠ .dK xs) → a ∉ M := fun a u h n1 n2 hm => by
    rcases o a hm with ⟨xs, e⟩ | ⟨xs, e⟩
    · rw [h] at e; exact n1 xs (Option.some.inj e)
    · rw [h] at e; exact n2 xs (Option.some.inj e)
  constructor
  · intro t p hp
    obtain ⟨ps, h1, h2, h3⟩ := t p hp
    refine ⟨ps, (Hm.in h1).1, h2, fun pos cv hc => ?_⟩
    obtain ⟨c, e1, e2⟩ := h3 pos cv hc
    exact ⟨c, e1, (Hm.in e2).1⟩
  · intro t p hp
    obtain ⟨ps, h1, h2, h3⟩ := t p hp
    refine ⟨ps, Hm.of h1 (nT _ _ h1 (fun _ z => by cases z) (fun _ z => by cases z)), h2, fun pos cv hc => ?_⟩
    obtain ⟨c, e1, e2⟩ := h3 pos cv hc
    exact ⟨c, e1, Hm.of e2 (nT _ _ e2 (fun _ z => by cases z) (fun _ z => by cases z))⟩
theorem Ext.Hm {M : List Addr} (o : Own H M) (e : Ext T H H') : Ext T (Hm H M) (Hm H' M) :=
  ⟨fun b u h n => by obtain ⟨h1, h2⟩ := Hm.in h; exact Hm.of (e.keep b u h1 n) h2, fun t => (tabs_Hm (o.go e)).mpr (e.tabs ((tabs_Hm o).mp t))⟩
theorem Ext.unHm {M : List Addr} (o : Own H M) : Ext T (OS.Hm H M) H := ⟨fun b u h _ => (Hm.in h).1, fun t => (tabs_Hm o).mp t⟩

/-! ### a view: the object itself may be owned, what it holds is not -/
def Vw (Z : Zx) (K : PySem.W.Frag) (M : List Addr) (H : Hp) : PV → V → Prop
  | .lst ps, v => ∃ a vs, v = .ref a ∧ H a = some (.lst vs) ∧ RepL Z K (Hm H M) ps vs
  | p, v => Rep Z K (Hm H M) p v
theorem Vw.of {M : List Addr} (o : Own H M) {p : PV} {v : V} (h : Rep Z K (Hm H M) p v) : Vw Z K M H p v := by
  cases p with
  | lst ps =>
    obtain ⟨a, vs, h1, h2, h3⟩ := h
    exact ⟨a, vs, h1, (Hm.in h2).1, h3⟩
  | _ => exact h
theorem Vw.go {M : List Addr} (o : Own H M) (e : Ext T H H') {p : PV} {v : V} (h : Vw Z K M H p v) : Vw Z K M H' p v := by
  cases p with
  | lst ps =>
    obtain ⟨a, vs, h1, h2, h3⟩ := h
    exact ⟨a, vs, h1, e.keep _ _ h2 noTbl.lst, RepL.go (e.Hm o) h3⟩
  | _ => exact Rep.go (e.Hm o) h
theorem Rep.up {M : List Addr} (o : Own H M) {p : PV} {v : V} (h : Rep Z K (Hm H M) p v) : Rep Z K H p v := Rep.go (T := []) (Ext.unHm o) h
theorem RepL.up {M : List Addr} (o : Own H M) {p : List PV} {v : List V} (h : RepL Z K (Hm H M) p v) : RepL Z K H p v := RepL.go (T := []) (Ext.unHm o) h
end

/-! ### slots -/
section
variable {Z : Zx} {K : PySem.W.Frag} {T : List (Addr × Str)} {H H' : Hp} {M : List Addr} {σ : L2.St} {ρ : O.St}
def KVs (Z : Zx) (K : PySem.W.Frag) (H : Hp) (kvs : List (List Nat × PV)) (vs : List (Key × V)) : Prop :=
  vs.map (·.1) = kvs.map (fun kv => Sum.inr (cps kv.1)) ∧ (∀ kv ∈ kvs, okS kv.1) ∧ RepL Z K H (kvs.map (·.2)) (vs.map (·.2))
def Held (ρ : O.St) (i : Nat) : Prop := (∃ xs, ρ[i]? = some (.ow xs)) ∨ ∃ kvs, ρ[i]? = some (.od kvs)
/-- the slots' values -/
structure SR (Z : Zx) (K : PySem.W.Frag) (M : List Addr) (H : Hp) (σ : L2.St) (ρ : O.St) : Prop where
  own : Own H M
  len : ρ.length ≤ σ.length
  fv : ∀ (i : Nat) (p : PV), ρ[i]? = some (.v p) → ∃ v, σ[i]? = some (some v) ∧ Rep Z K (Hm H M) p v
  fo : ∀ (i : Nat) (xs : List PV), ρ[i]? = some (.ow xs) → ∃ a vs, σ[i]? = some (some (.ref a)) ∧ a ∈ M ∧ H a = some (.lst vs) ∧ RepL Z K (Hm H M) xs vs
  fd : ∀ (i : Nat) (kvs : List (List Nat × PV)), ρ[i]? = some (.od kvs) → ∃ a vs, σ[i]? = some (some (.ref a)) ∧ a ∈ M ∧ H a = some (.dK vs) ∧ KVs Z K (Hm H M) kvs vs
  apart : ∀ (i j : Nat) (a : Addr), i ≠ j → Held ρ i → Held ρ j → σ[i]? = some (some (.ref a)) → σ[j]? ≠ some (some (.ref a))
  tabs : LamX.Tabs Z.T H
theorem SR.go (s : SR Z K M H σ ρ) (e : Ext Z.T H H') : SR Z K M H' σ ρ where
  own := s.own.go e
  len := s.len
  fv := fun i p h => let ⟨v, h1, h2⟩ := s.fv i p h; ⟨v, h1, Rep.go (e.Hm s.own) h2⟩
  fo := fun i p h => let ⟨a, vs, h1, h2, h3, h4⟩ := s.fo i p h; ⟨a, vs, h1, h2, e.keep _ _ h3 noTbl.lst, RepL.go (e.Hm s.own) h4⟩
  fd := fun i p h => let ⟨a, vs, h1, h2, h3, h4, h5, h6⟩ := s.fd i p h; ⟨a, vs, h1, h2, e.keep _ _ h3 noTbl.dK, h4, h5, RepL.go (e.Hm s.own) h6⟩
  apart := s.apart
  tabs := e.tabs s.tabs
end

/-! ### readings -/
/-- what must hold of a result -/
def Pk (Z : Zx) (K : PySem.W.Frag) (E : XK) (M : List Addr) (H : Hp) (Q : VK) : R PV → Prop
  | .ok p => ∀ v H', Ext Z.T H H' → Rep Z K (Hm H' M) p v → Q v H'
  | .exc k => ∀ H', Ext Z.T (Hm H M) H' → E (.ref (Z.cad k)) none H'
  | .bad => False
/-- .. where the object itself may be owned -/
def Pw (Z : Zx) (K : PySem.W.Frag) (E : XK) (M : List Addr) (H : Hp) (Q : VK) : R PV → Prop
  | .ok p => ∀ v H', Ext Z.T H H' → Vw Z K M H' p v → Q v H'
  | .exc k => ∀ H', Ext Z.T (Hm H M) H' → E (.ref (Z.cad k)) none H'
  | .bad => False
def PkL (Z : Zx) (K : PySem.W.Frag) (E : XK) (M : List Addr) (H : Hp) (Q : List V → Hp → Prop) : R (List PV) → Prop
  | .ok p => ∀ v H', Ext Z.T H H' → RepL Z K (Hm H' M) p v → Q v H'
  | .exc k => ∀ H', Ext Z.T (Hm H M) H' → E (.ref (Z.cad k)) none H'
  | .bad => False
def tM (Z : Zx) (K : PySem.W.Frag) (E : XK) (m : O.St → R PV) : TE := fun σ H Q => ∃ ρ M, SR Z K M H σ ρ ∧ Pk Z K E M H Q (m ρ)
def tO (Z : Zx) (K : PySem.W.Frag) (E : XK) (m : O.St → R PV) : TE := fun σ H Q => ∃ ρ M, SR Z K M H σ ρ ∧ Pw Z K E M H Q (m ρ)
def tL (Z : Zx) (K : PySem.W.Frag) (E : XK) (m : O.St → R (List PV)) : TA := fun σ H Q => ∃ ρ M, SR Z K M H σ ρ ∧ PkL Z K E M H Q (m ρ)
/-- a test -/
def tB (Z : Zx) (K : PySem.W.Frag) (E : XK) (m : O.St → R PV) : TT := fun σ H Q => ∃ ρ M, SR Z K M H σ ρ ∧ match m ρ with
  | .ok (.bl b) => ∀ H', Ext Z.T H H' → Q b H'
  | .exc k => ∀ H', Ext Z.T (Hm H M) H' → E (.ref (Z.cad k)) none H'
  | _ => False
theorem PE.imp {X : Cx} {e : Expr} {t t' : TE} (h : PE X e t) (i : ∀ σ H Q, t' σ H Q → t σ H Q) : PE X e t' := ⟨fun pins s σ H Q I q => h.run pins s σ H Q I (i σ H Q q)⟩
theorem PT.imp {X : Cx} {e : Expr} {t t' : TT} (h : PT X e t) (i : ∀ σ H Q, t' σ H Q → t σ H Q) : PT X e t' := ⟨fun pins s σ H Q I q => h.run pins s σ H Q I (i σ H Q q)⟩
theorem PA.imp {X : Cx} {e : List Expr} {t t' : TA} (h : PA X e t) (i : ∀ σ H Q, t' σ H Q → t σ H Q) : PA X e t' := ⟨fun pos pins s σ H Q I q => h.run pos pins s σ H Q I (i σ H Q q)⟩
theorem PW.imp {X : Cx} {e : Expr} {t t' : TT} (h : PW X e t) (i : ∀ σ H Q, t' σ H Q → t σ H Q) : PW X e t' := ⟨fun wh pins s σ H Q I q => h.run wh pins s σ H Q I (i σ H Q q)⟩
section
variable {Z : Zx} {K : PySem.W.Frag} {E : XK} {H H' : Hp} {M : List Addr} {σ : L2.St} {ρ : O.St} {Q : VK}
theorem Pk.go (o : Own H M) (e : Ext Z.T H H') : ∀ {r : R PV}, Pk Z K E M H Q r → Pk Z K E M H' Q r
  | .ok _, h => fun v H1 e1 => h v H1 (e.trans e1)
  | .exc _, h => fun H1 e1 => h H1 ((e.Hm o).trans e1)
  | .bad, h => h
theorem Pw.pk (o : Own H M) : ∀ {r : R PV}, Pw Z K E M H Q r → Pk Z K E M H Q r
  | .ok _, h => fun v H1 e1 q => h v H1 e1 (Vw.of (o.go e1) q)
  | .exc _, h => h
  | .bad, h => h
/-- a reading of frozen results serves where a view is asked -/
theorem tO.tM {m : O.St → R PV} : tO Z K E m σ H Q → tM Z K E m σ H Q := fun ⟨ρ, M, s, h⟩ => ⟨ρ, M, s, h.pk s.own⟩

/-! ### operators by values -/
/-- f of two views -/
def rP2 (Z : Zx) (K : PySem.W.Frag) (f : PV → PV → R PV) : R2 := fun x y H Q => ∃ M p q r, Own H M ∧ Vw Z K M H p x ∧ Vw Z K M H q y ∧ f p q = .ok r ∧ ∀ v H', Ext Z.T H H' → Rep Z K (Hm H' M) r v → Q v H'
def rP1 (Z : Zx) (K : PySem.W.Frag) (f : PV → R PV) : V → Hp → VK → Prop := fun x H Q => ∃ M p r, Own H M ∧ Vw Z K M H p x ∧ f p = .ok r ∧ ∀ v H', Ext Z.T H H' → Rep Z K (Hm H' M) r v → Q v H'
/-- no exception of its own -/
def Calm2 (f : PV → PV → R PV) : Prop := ∀ p q k, f p q ≠ .exc k
theorem bin_tM {f : PV → PV → R PV} (hf : Calm2 f) {ma mb : O.St → R PV} (h : tM Z K E (fun ρ => (ma ρ).bind fun p => (mb ρ).bind fun q => f p q) σ H Q) : tOp (rP2 Z K f) (tO Z K E ma) (tO Z K E mb) σ H Q := by
  obtain ⟨ρ, M, s, h⟩ := h
  dsimp only at h
  refine ⟨ρ, M, s, ?_⟩
  cases ea : ma ρ with
  | bad => rw [ea] at h; exact h
  | exc k => rw [ea] at h; exact h
  | ok p =>
    rw [ea] at h
    intro x H1 e1 w1
    refine ⟨ρ, M, s.go e1, ?_⟩
    have h : Pk Z K E M H Q ((mb ρ).bind fun q => f p q) := h
    cases eb : mb ρ with
    | bad => rw [eb] at h; exact h
    | exc k => rw [eb] at h; exact fun H2 e2 => h H2 ((e1.Hm s.own).trans e2)
    | ok q =>
      rw [eb] at h
      intro y H2 e2 w2
      have h : Pk Z K E M H Q (f p q) := h
      cases er : f p q with
      | bad => rw [er] at h; exact h.elim
      | exc k => exact (hf p q k er).elim
      | ok r =>
        rw [er] at h
        exact ⟨M, p, q, r, s.own.go (e1.trans e2), w1.go (s.own.go e1) e2, w2, er, fun v H3 e3 w3 => h v H3 ((e1.trans e2).trans e3) w3⟩
theorem un_tM {f : PV → R PV} (hf : ∀ p k, f p ≠ .exc k) {ma : O.St → R PV} (h : tM Z K E (fun ρ => (ma ρ).bind f) σ H Q) : tUn (rP1 Z K f) (tO Z K E ma) σ H Q := by
  obtain ⟨ρ, M, s, h⟩ := h
  dsimp only at h
  refine ⟨ρ, M, s, ?_⟩
  cases ea : ma ρ with
  | bad => rw [ea] at h; exact h
  | exc k => rw [ea] at h; exact h
  | ok p =>
    rw [ea] at h
    intro x H1 e1 w1
    have h : Pk Z K E M H Q (f p) := h
    cases er : f p with
    | bad => rw [er] at h; exact h.elim
    | exc k => exact (hf p k er).elim
    | ok r =>
      rw [er] at h
      exact ⟨M, p, r, s.own.go e1, w1, er, fun v H3 e3 w3 => h v H3 (e1.trans e3) w3⟩
end
end OS

end

section
set_option Elab.async false
set_option linter.all false
set_option maxRecDepth 100000
set_option maxHeartbeats 1000000
/-! The operators of the language keep what they say. -/
namespace OS
open PySem PySem.Spec PyProof.Rows L2 O
section
variable {Z : Zx} {K : PySem.W.Frag} {T : List (Addr × Str)} {H H' : Hp} {M : List Addr}
theorem Vw.up (o : Own H M) {p : PV} {v : V} (h : Vw Z K M H p v) : Rep Z K H p v := by
  cases p with
  | lst ps =>
    obtain ⟨a, vs, h1, h2, h3⟩ := h
    exact ⟨a, vs, h1, h2, RepL.up o h3⟩
  | _ => exact Rep.up o h
/-! ### data -/
mutual
def toD : PV → PyData
  | .non => .none
  | .bl b => .bool b
  | .int i => .int i
  | .str s => .str (cps s)
  | .tup ps => .tuple (toDs ps)
  | .lst ps => .list (toDs ps)
  | _ => .none
def toDs : List PV → List PyData
  | [] => []
  | p :: ps => toD p :: toDs ps
end
theorem toDs_map : ∀ ps : List PV, toDs ps = ps.map toD
  | [] => rfl
  | p :: ps => by rw [toDs, toDs_map ps]; rfl
theorem strOk_of {s : List Nat} (h : okS s) : PySem.PyData.canLay0 (.str (cps s)) = true := by
  show PyData.strOk (cps s) = true
  unfold PyData.strOk
  rw [Array.all_eq_true_iff_forall_mem]
  intro c hc
  exact decide_eq_true (h c (by simpa using hc))
/-- data of the fit: it may be laid, is not deep, is read -/
theorem fit_data : ∀ (n : Nat) (p : PV) (v : V), p.fit n = true → Rep Z K H p v → PyData.canLay0 (toD p) = true ∧ (toD p).depth ≤ n ∧ Dp K H v (toD p) := by
  intro n
  induction n with
  | zero =>
    intro p v hf hr
    cases p with
    | non => rw [show v = .non from hr]; exact ⟨rfl, Nat.le_refl _, .non⟩
    | bl b => rw [show v = .bl b from hr]; exact ⟨rfl, Nat.le_refl _, .bl b⟩
    | int i => rw [show v = .int i from hr]; exact ⟨rfl, Nat.le_refl _, .int i⟩
    | str s => obtain ⟨e, k⟩ := hr; rw [e]; exact ⟨strOk_of k, Nat.le_refl _, .str _⟩
    | tup ps => exact absurd hf Bool.false_ne_true
    | lst ps => exact absurd hf Bool.false_ne_true
    | fn k => exact absurd hf Bool.false_ne_true
    | exc k => exact absurd hf Bool.false_ne_true
    | scr k => exact absurd hf Bool.false_ne_true
    | clo k ps => exact absurd hf Bool.false_ne_true
    | lam k ps => exact absurd hf Bool.false_ne_true
    | obj k => exact absurd hf Bool.false_ne_true
  | succ n ih =>
    have hL : ∀ (ps : List PV) (vs : List V), ps.all (PV.fit n) = true → RepL Z K H ps vs → PyData.canLayAll0 (toDs ps) = true ∧ PyData.depthAll (toDs ps) ≤ n ∧ DpAll K H vs (toDs ps) := by
      intro ps
      induction ps with
      | nil => intro vs _ h; rw [show vs = [] from h]; exact ⟨rfl, Nat.zero_le _, .nil⟩
      | cons p ps ihp =>
        intro vs hf h
        obtain ⟨v, r, e, h1, h2⟩ := h
        rw [List.all_cons, Bool.and_eq_true] at hf
        obtain ⟨a1, a2, a3⟩ := ih p v hf.1 h1
        obtain ⟨b1, b2, b3⟩ := ihp r hf.2 h2
        rw [e]
        refine ⟨?_, ?_, .cons a3 b3⟩
        · show (PyData.canLay0 (toD p) && PyData.canLayAll0 (toDs ps)) = true
          rw [a1, b1]
          rfl
        · show max (PyData.depth (toD p)) (PyData.depthAll (toDs ps)) ≤ n
          exact Nat.max_le.mpr ⟨a2, b2⟩
    intro p v hf hr
    cases p with
    | non => rw [show v = .non from hr]; exact ⟨rfl, Nat.zero_le _, .non⟩
    | bl b => rw [show v = .bl b from hr]; exact ⟨rfl, Nat.zero_le _, .bl b⟩
    | int i => rw [show v = .int i from hr]; exact ⟨rfl, Nat.zero_le _, .int i⟩
    | str s => obtain ⟨e, k⟩ := hr; rw [e]; exact ⟨strOk_of k, Nat.zero_le _, .str _⟩
    | tup ps =>
      obtain ⟨a, vs, e, h1, h2⟩ := hr
      obtain ⟨b1, b2, b3⟩ := hL ps vs hf h2
      rw [e]
      exact ⟨b1, Nat.succ_le_succ b2, .tup h1.1 b3⟩
    | lst ps =>
      obtain ⟨a, vs, e, h1, h2⟩ := hr
      obtain ⟨b1, b2, b3⟩ := hL ps vs hf h2
      rw [e]
      exact ⟨b1, Nat.succ_le_succ b2, .lst (SqL.of h1) b3⟩
    | fn k => exact absurd hf Bool.false_ne_true
    | exc k => exact absurd hf Bool.false_ne_true
    | scr k => exact absurd hf Bool.false_ne_true
    | clo k ps => exact absurd hf Bool.false_ne_true
    | lam k ps => exact absurd hf Bool.false_ne_true
    | obj k => exact absurd hf Bool.false_ne_true
theorem fits_shaped {p : PV} {v : V} (hf : fits p = true) (hr : Rep Z K H p v) : SeqAt.shaped (toD p) = true ∧ Dp K H v (toD p) := by
  obtain ⟨a, b, c⟩ := fit_data 12 p v hf hr
  refine ⟨?_, c⟩
  unfold SeqAt.shaped
  rw [a, Bool.true_and]
  exact decide_eq_true (by omega)
theorem cps_beq (x y : List Nat) : (cps x == cps y) = (x == y) := by
  rw [Bool.eq_iff_iff, beq_iff_eq, beq_iff_eq]
  constructor
  · intro h
    have := congrArg (fun z : Str => z.cps.toList) h
    simpa using this
  · intro h; rw [h]
theorem eqv_beq : ∀ (n : Nat) (p q : PV), p.fit n = true → q.fit n = true → PyData.eqv (toD p) (toD q) = PV.beq p q := by
  intro n
  induction n with
  | zero =>
    intro p q hp hq
    cases p <;> cases q <;> first | rfl | exact cps_beq _ _ | exact absurd hp Bool.false_ne_true | exact absurd hq Bool.false_ne_true
  | succ n ih =>
    have hL : ∀ (ps qs : List PV), ps.all (PV.fit n) = true → qs.all (PV.fit n) = true → PyData.eqvAll (toDs ps) (toDs qs) = PV.beqL ps qs := by
      intro ps
      induction ps with
      | nil => intro qs _ _; cases qs <;> rfl
      | cons p ps ihp =>
        intro qs hp hq
        cases qs with
        | nil => rfl
        | cons q qs =>
          rw [List.all_cons, Bool.and_eq_true] at hp hq
          show (PyData.eqv (toD p) (toD q) && PyData.eqvAll (toDs ps) (toDs qs)) = (PV.beq p q && PV.beqL ps qs)
          rw [ih p q hp.1 hq.1, ihp qs hp.2 hq.2]
    intro p q hp hq
    cases p <;> cases q <;> first | rfl | exact cps_beq _ _ | exact hL _ _ hp hq | exact absurd hp Bool.false_ne_true | exact absurd hq Bool.false_ne_true
theorem lim_size {n : Nat} (h : lim n = true) : n ≤ sizeLine := by
  have : n ≤ 1000000 := of_decide_eq_true h
  rw [sizeLine_eq]
  omega
theorem lim_lt {n : Nat} (h : lim n = true) : n < sizeLine := by
  have : n ≤ 1000000 := of_decide_eq_true h
  rw [sizeLine_eq]
  omega
theorem sized_inv {n : Nat} {p r : PV} (h : sized n p = .ok r) : lim n = true ∧ p = r := by
  unfold sized at h
  split at h
  · rename_i q
    cases h
    exact ⟨q, rfl⟩
  · cases h
theorem cps_append (x y : List Nat) : cps x ++ cps y = cps (x ++ y) := by
  show (⟨x.toArray ++ y.toArray⟩ : Str) = _
  simp
theorem cps_length (x : List Nat) : (cps x).length = x.length := by simp [Str.length]
theorem okS_append {x y : List Nat} (a : okS x) (b : okS y) : okS (x ++ y) := fun c hc => (List.mem_append.mp hc).elim (a c) (b c)
/-- a new thing laid: it is seen, all else as it was -/
theorem fin_new {p : Addr} {o : HO} {Q : VK} {r : PV} (hp : H p = none) (ow : Own H M) (h : ∀ v H', Ext Z.T H H' → Rep Z K (Hm H' M) r v → Q v H') (hr : Hm (upd H p o) M p = some o → Ext Z.T (Hm H M) (Hm (upd H p o) M) → Rep Z K (Hm (upd H p o) M) r (.ref p)) : Q (.ref p) (upd H p o) := by
  have e : Ext Z.T H (upd H p o) := Ext.new hp
  exact h _ _ e (hr (Hm.of upd_same (ow.new hp)) (e.Hm ow))
end

section
variable {X : Cx} {Z : Zx}
theorem op_addP : OpR X (binaryOp .Add) (rP2 Z X.K addP) := by
  intro pins s σ H x y v u Q I rx ry h
  obtain ⟨M, p, q, r, ow, hx, hy, hf, h⟩ := h
  unfold addP at hf
  split at hf
  · cases hf
    cases (show x = _ from hx)
    cases (show y = _ from hy)
    exact op_add pins s σ H _ _ v u Q I rx ry ⟨_, _, rfl, rfl, h _ _ (Ext.refl H) rfl⟩
  · obtain ⟨l, e⟩ := sized_inv hf
    subst e
    obtain ⟨rfl, k1⟩ := hx
    obtain ⟨rfl, k2⟩ := hy
    refine op_add_str pins s σ H _ _ v u Q I rx ry ⟨_, _, rfl, rfl, ?_, h _ _ (Ext.refl H) ⟨?_, okS_append k1 k2⟩⟩
    · rw [cps_length, cps_length]; exact lim_size l
    · rw [cps_append]
  · obtain ⟨l, e⟩ := sized_inv hf
    subst e
    obtain ⟨a, vs, rfl, h1, h2⟩ := hx
    obtain ⟨b, us, rfl, h3, h4⟩ := hy
    rename_i x1 x2
    have ux : ∀ {a : Addr} {vs : List V}, SqT X.K (Hm H M) a vs → SqT X.K H a vs := fun q => SqT.go (Ext.unHm (T := []) ow) q
    refine op_catPl pins s σ H _ _ v u Q I rx ry ⟨a, b, vs, us, rfl, rfl, ux h1.1, ux h3.1, ?_, fun e => ?_, fun n e => ?_, fun n1 n2 t o ht hd => ?_⟩
    · rw [← h2.length, ← h4.length]; exact lim_size l
    · subst e
      cases x1
      · exact h _ _ (Ext.refl H) ⟨b, us, rfl, h3, h4⟩
      · obtain ⟨_, _, z, _⟩ := h2; cases z
    · subst e
      cases x2
      · rw [List.append_nil] at h; exact h _ _ (Ext.refl H) ⟨a, vs, rfl, h1, h2⟩
      · obtain ⟨_, _, z, _⟩ := h4; cases z
    · exact fin_new ht ow h fun hs e => ⟨t, _, rfl, SqQ.of hs hd, RepL.append (RepL.go e h2) (RepL.go e h4)⟩
  · obtain ⟨l, e⟩ := sized_inv hf
    subst e
    obtain ⟨a, vs, rfl, h1, h2⟩ := hx
    obtain ⟨b, us, rfl, h3, h4⟩ := hy
    refine op_cat pins s σ H _ _ v u Q I rx ry ⟨a, b, vs, us, rfl, rfl, h1, h3, ?_, fun t ht => ?_⟩
    · rw [← h2.length, ← h4.length]; exact lim_size l
    · exact fin_new ht ow h fun hs e => ⟨t, _, rfl, hs, RepL.append (RepL.go e h2) (RepL.go e h4)⟩
  · cases hf
end
end OS

end

section
set_option Elab.async false
set_option linter.all false
set_option maxRecDepth 100000
set_option maxHeartbeats 1000000
namespace OS
open PySem PySem.Spec PyProof.Rows L2 O
section
variable {X : Cx} {Z : Zx}
theorem op_subP : OpR X (binaryOp .Sub) (rP2 Z X.K subP) := by
  intro pins s σ H x y v u Q I rx ry h
  obtain ⟨M, p, q, r, ow, hx, hy, hf, h⟩ := h
  unfold subP at hf
  split at hf
  · cases hf
    cases (show x = _ from hx)
    cases (show y = _ from hy)
    exact op_sub pins s σ H _ _ v u Q I rx ry ⟨_, _, rfl, rfl, h _ _ (Ext.refl H) rfl⟩
  · cases hf
theorem if_inv {c : Prop} [Decidable c] {r r' : PV} (h : (if c then R.ok r else .bad) = .ok r') : c ∧ r = r' := by
  split at h
  · rename_i q
    cases h
    exact ⟨q, rfl⟩
  · cases h
theorem op_fdivP : OpR X (binaryOp .FloorDiv) (rP2 Z X.K fdivP) := by
  intro pins s σ H x y v u Q I rx ry h
  obtain ⟨M, p, q, r, ow, hx, hy, hf, h⟩ := h
  unfold fdivP at hf
  split at hf
  · obtain ⟨⟨c1, c2⟩, rfl⟩ := if_inv hf
    cases (show x = _ from hx)
    cases (show y = _ from hy)
    refine op_fdivW pins s σ H _ _ v u Q I rx ry ⟨_, _, rfl, rfl, wide_div (b := 64) c1 ?_ (by decide) (by decide), h _ _ (Ext.refl H) rfl⟩
    omega
  · cases hf
theorem op_modP : OpR X (binaryOp .Mod) (rP2 Z X.K modP) := by
  intro pins s σ H x y v u Q I rx ry h
  obtain ⟨M, p, q, r, ow, hx, hy, hf, h⟩ := h
  unfold modP at hf
  split at hf
  · obtain ⟨c1, rfl⟩ := if_inv hf
    cases (show x = _ from hx)
    cases (show y = _ from hy)
    exact op_mod pins s σ H _ _ v u Q I rx ry ⟨_, _, rfl, rfl, c1, h _ _ (Ext.refl H) rfl⟩
  · cases hf
theorem op_powP : OpR X (binaryOp .Pow) (rP2 Z X.K powP) := by
  intro pins s σ H x y v u Q I rx ry h
  obtain ⟨M, p, q, r, ow, hx, hy, hf, h⟩ := h
  unfold powP at hf
  split at hf
  · obtain ⟨⟨c1, c2, c3⟩, rfl⟩ := if_inv hf
    cases (show x = _ from hx)
    cases (show y = _ from hy)
    exact op_pow pins s σ H _ _ v u Q I rx ry ⟨_, _, rfl, rfl, ⟨c1, by omega, c3⟩, h _ _ (Ext.refl H) rfl⟩
  · cases hf
theorem op_shlP : OpR X (binaryOp .LShift) (rP2 Z X.K shlP) := by
  intro pins s σ H x y v u Q I rx ry h
  obtain ⟨M, p, q, r, ow, hx, hy, hf, h⟩ := h
  unfold shlP at hf
  split at hf
  · obtain ⟨⟨c1, c2, c3⟩, rfl⟩ := if_inv hf
    cases (show x = _ from hx)
    cases (show y = _ from hy)
    exact op_shl pins s σ H _ _ v u Q I rx ry ⟨_, _, rfl, rfl, ⟨c1, by omega, c3⟩, h _ _ (Ext.refl H) rfl⟩
  · cases hf
theorem okS_rep {x : List Nat} (a : okS x) (n : Nat) : okS (rep n x) := by
  induction n with
  | zero => intro c hc; simp [O.rep] at hc
  | succ n ih =>
    unfold O.rep at ih ⊢
    rw [List.replicate_succ, List.flatten_cons]
    exact okS_append a ih
theorem fold_reps (x : List Nat) : ∀ (n : Nat) (acc : Array Nat), (List.replicate n x.toArray).foldl (· ++ ·) acc = acc ++ (rep n x).toArray
  | 0, acc => by simp [O.rep]
  | n + 1, acc => by
    rw [List.replicate_succ, List.foldl_cons, fold_reps x n]
    unfold O.rep
    rw [List.replicate_succ, List.flatten_cons]
    simp
theorem mul_cps {x : List Nat} {n : Int} (h : 1 ≤ n) : Txt.mul (cps x) n = cps (rep n.toNat x) := by
  unfold Txt.mul
  rw [if_neg (by omega)]
  split
  · rename_i c
    rw [Bool.or_eq_true] at c
    rcases c with c | c
    · have : n = 1 := by simpa using c
      subst this
      show cps x = cps (rep 1 x)
      simp [O.rep]
    · have : x = [] := by
        have : (cps x).length = 0 := by simpa using c
        rw [cps_length] at this
        exact List.eq_nil_of_length_eq_zero this
      subst this
      show cps [] = cps (rep n.toNat [])
      have : rep n.toNat ([] : List Nat) = [] := by
        unfold O.rep
        rw [List.flatten_eq_nil_iff]
        intro l hl
        exact (List.mem_replicate.mp hl).2
      rw [this]
  · show (⟨(List.replicate n.toNat x.toArray).foldl (· ++ ·) #[]⟩ : Str) = _
    rw [fold_reps]
    simp
theorem op_mulP : OpR X (binaryOp .Mult) (rP2 Z X.K mulP) := by
  intro pins s σ H x y v u Q I rx ry h
  obtain ⟨M, p, q, r, ow, hx, hy, hf, h⟩ := h
  unfold mulP at hf
  split at hf
  · obtain ⟨c, rfl⟩ := if_inv hf
    cases (show x = _ from hx)
    cases (show y = _ from hy)
    refine op_mul pins s σ H _ _ v u Q I rx ry ⟨_, _, rfl, rfl, ?_, h _ _ (Ext.refl H) rfl⟩
    unfold b64 at c
    rw [Bool.or_eq_true, Bool.and_eq_true, Bool.and_eq_true, decide_eq_true_eq, decide_eq_true_eq, decide_eq_true_eq, decide_eq_true_eq] at c
    exact c
  · obtain ⟨c, rfl⟩ := if_inv hf
    rename_i xs j
    rw [Bool.and_eq_true, Bool.and_eq_true, decide_eq_true_eq, decide_eq_true_eq, decide_eq_true_eq] at c
    obtain ⟨⟨c1, c2⟩, c3⟩ := c
    obtain ⟨rfl, k⟩ := hx
    cases (show y = _ from hy)
    obtain ⟨t, rfl⟩ := rx
    obtain ⟨t', rfl⟩ := ry
    refine PySem.SB.mul ⟨?_, fun h1 h2 => ?_, fun h1 h2 => ?_⟩ fun t1 k1 => ⟨.str (cps (rep j.toNat xs)), H, I.tok k1, ⟨t1, by rw [mul_cps c1]⟩, h _ _ (Ext.refl H) ⟨rfl, okS_rep k _⟩⟩
    · rw [Bool.or_eq_false_iff]
      exact ⟨decide_eq_false (by omega), decide_eq_false (by omega)⟩
    · rw [cps_length]
      have h0 : (1000 : Int) ≤ (2 ^ 63 - 1) / j := by
        apply Int.le_ediv_of_mul_le (by omega)
        omega
      omega
    · rw [cps_length]
      have h0 : xs.length * j.toNat ≤ 1000 * 1000 := Nat.mul_le_mul c3 (by omega)
      unfold Builtin.Str.tooLong
      have h1 := sizeLine_eq
      simp
      omega
  · obtain ⟨c, rfl⟩ := if_inv hf
    rename_i xs j
    rw [Bool.and_eq_true, Bool.and_eq_true, Bool.and_eq_true, decide_eq_true_eq, decide_eq_true_eq, decide_eq_true_eq] at c
    obtain ⟨⟨⟨c0, c1⟩, c2⟩, c3⟩ := c
    obtain ⟨a, vs, rfl, h1, h2⟩ := hx
    cases (show y = _ from hy)
    have hl := h2.length
    refine op_repPl pins s σ H _ _ v u Q I rx ry ⟨a, j, vs, rfl, rfl, SqT.go (Ext.unHm (T := []) ow) h1.1, ?_, c1, c2, by omega, fun t o ht hd => ?_⟩
    · intro e
      rw [e] at hl
      have : xs = [] := List.eq_nil_of_length_eq_zero hl
      rw [this] at c0
      cases c0
    · exact fin_new ht ow h fun hs e => ⟨t, _, rfl, SqQ.of hs hd, RepL.rep (RepL.go e h2) _⟩
  · obtain ⟨c, rfl⟩ := if_inv hf
    rename_i xs j
    rw [Bool.and_eq_true] at c
    obtain ⟨c1, c2⟩ := c
    unfold small at c1
    rw [Bool.and_eq_true, decide_eq_true_eq, decide_eq_true_eq] at c1
    obtain ⟨a, vs, rfl, h1, h2⟩ := hx
    cases (show y = _ from hy)
    refine op_rep pins s σ H _ _ v u Q I rx ry ⟨a, j, vs, rfl, rfl, h1, by omega, by omega, by rw [← h2.length]; exact lim_size c2, fun t ht => ?_⟩
    exact fin_new ht ow h fun hs e => ⟨t, _, rfl, hs, RepL.rep (RepL.go e h2) _⟩
  · cases hf
/-! ### comparisons -/
theorem bind_bl {r : R Bool} {f : Bool → Bool} {p : PV} (h : (r.bind fun b => .ok (.bl (f b))) = .ok p) : ∃ b, r = .ok b ∧ p = .bl (f b) := by
  cases r with
  | ok b => cases h; exact ⟨b, rfl, rfl⟩
  | exc k => cases h
  | bad => cases h
theorem eqP_data {K : PySem.W.Frag} {H : Hp} {M : List Addr} {p q : PV} {x y : V} {b : Bool} (ow : Own H M) (hx : Vw Z K M H p x) (hy : Vw Z K M H q y) (h : eqP p q = .ok b) :
    ∃ d e, Dp K H x d ∧ Dp K H y e ∧ SeqAt.shaped d = true ∧ SeqAt.shaped e = true ∧ PyData.eqv d e = b := by
  unfold eqP at h
  split at h
  · rename_i ns
    cases h
    obtain ⟨a, rfl, h1⟩ := hx
    obtain ⟨c, vs, rfl, h2, h3⟩ := hy
    rw [show vs = [] from h3] at h2
    have hd : ∀ ns : List Int, DpAll K H (ns.map V.int) (ns.map PyData.int) := by
      intro ns
      induction ns with
      | nil => exact .nil
      | cons n ns ih => exact .cons (.int n) ih
    have hz : ∀ ns : List Int, PyData.canLayAll0 (ns.map PyData.int) = true ∧ PyData.depthAll (ns.map PyData.int) = 0 := by
      intro ns
      induction ns with
      | nil => exact ⟨rfl, rfl⟩
      | cons n ns ih =>
        refine ⟨?_, ?_⟩
        · show (PyData.canLay0 (.int n) && PyData.canLayAll0 (ns.map PyData.int)) = true
          rw [ih.1]
          rfl
        · show max (PyData.depth (.int n)) (PyData.depthAll (ns.map PyData.int)) = 0
          rw [ih.2]
          rfl
    refine ⟨.list (ns.map .int), .list [], .lst (SqL.go (Ext.unHm (T := []) ow) h1) (hd ns), .lst (SqL.of h2) .nil, ?_, rfl, ?_⟩
    · unfold SeqAt.shaped
      rw [show PyData.canLay0 (.list (ns.map PyData.int)) = true from (hz ns).1, Bool.true_and]
      refine decide_eq_true ?_
      show PyData.depthAll (ns.map PyData.int) + 1 ≤ 64
      rw [(hz ns).2]
      omega
    · cases ns <;> rfl
  · split at h
    · rename_i c
      cases h
      rw [Bool.and_eq_true] at c
      obtain ⟨a1, a2⟩ := fits_shaped c.1 (Vw.up ow hx)
      obtain ⟨b1, b2⟩ := fits_shaped c.2 (Vw.up ow hy)
      exact ⟨_, _, a2, b2, a1, b1, eqv_beq 12 p q c.1 c.2⟩
    · cases h
theorem op_eqP (hu : X.A.units + 65 < cLine) : OpR X (compareOp .Eq) (rP2 Z X.K (cop .eq)) := by
  intro pins s σ H x y v u Q I rx ry h
  obtain ⟨M, p, q, r, ow, hx, hy, hf, h⟩ := h
  obtain ⟨b, e1, rfl⟩ := bind_bl (f := fun b => b) hf
  obtain ⟨d, e, a1, a2, a3, a4, a5⟩ := eqP_data ow hx hy e1
  exact op_eqD (by omega) pins s σ H _ _ v u Q I rx ry ⟨d, e, a1, a2, a3, a4, by rw [a5]; exact h _ _ (Ext.refl H) rfl⟩
theorem op_neP (hu : X.A.units + 65 < cLine) : OpR X (compareOp .NotEq) (rP2 Z X.K (cop .ne)) := by
  intro pins s σ H x y v u Q I rx ry h
  obtain ⟨M, p, q, r, ow, hx, hy, hf, h⟩ := h
  obtain ⟨b, e1, rfl⟩ := bind_bl (f := fun b => !b) hf
  obtain ⟨d, e, a1, a2, a3, a4, a5⟩ := eqP_data ow hx hy e1
  exact op_neD (by omega) pins s σ H _ _ v u Q I rx ry ⟨d, e, a1, a2, a3, a4, by rw [a5]; exact h _ _ (Ext.refl H) rfl⟩
theorem op_ltP : OpR X (compareOp .Lt) (rP2 Z X.K ltP) := by
  intro pins s σ H x y v u Q I rx ry h
  obtain ⟨M, p, q, r, ow, hx, hy, hf, h⟩ := h
  unfold ltP at hf
  split at hf
  · cases hf
    cases (show x = _ from hx)
    cases (show y = _ from hy)
    exact op_lt pins s σ H _ _ v u Q I rx ry ⟨_, _, rfl, rfl, h _ _ (Ext.refl H) rfl⟩
  · cases hf
    obtain ⟨rfl, _⟩ := hx
    obtain ⟨rfl, _⟩ := hy
    exact op_lt_str pins s σ H _ _ v u Q I rx ry ⟨_, _, rfl, rfl, h _ _ (Ext.refl H) rfl⟩
  · cases hf
theorem op_leP : OpR X (compareOp .LtE) (rP2 Z X.K leP) := by
  intro pins s σ H x y v u Q I rx ry h
  obtain ⟨M, p, q, r, ow, hx, hy, hf, h⟩ := h
  unfold leP at hf
  split at hf
  · cases hf
    cases (show x = _ from hx)
    cases (show y = _ from hy)
    exact op_le pins s σ H _ _ v u Q I rx ry ⟨_, _, rfl, rfl, h _ _ (Ext.refl H) rfl⟩
  · cases hf
theorem op_gtP : OpR X (compareOp .Gt) (rP2 Z X.K gtP) := by
  intro pins s σ H x y v u Q I rx ry h
  obtain ⟨M, p, q, r, ow, hx, hy, hf, h⟩ := h
  unfold gtP at hf
  split at hf
  · cases hf
    cases (show x = _ from hx)
    cases (show y = _ from hy)
    exact op_gt pins s σ H _ _ v u Q I rx ry ⟨_, _, rfl, rfl, h _ _ (Ext.refl H) rfl⟩
  · cases hf
theorem op_geP : OpR X (compareOp .GtE) (rP2 Z X.K geP) := by
  intro pins s σ H x y v u Q I rx ry h
  obtain ⟨M, p, q, r, ow, hx, hy, hf, h⟩ := h
  unfold geP at hf
  split at hf
  · cases hf
    cases (show x = _ from hx)
    cases (show y = _ from hy)
    exact op_ge pins s σ H _ _ v u Q I rx ry ⟨_, _, rfl, rfl, h _ _ (Ext.refl H) rfl⟩
  · cases hf
theorem all_fit {ys : List PV} (h : ys.all fits = true) : (PV.tup ys).fit 13 = true ∧ (PV.lst ys).fit 13 = true := ⟨h, h⟩
theorem isIn_data {K : PySem.W.Frag} {H : Hp} {M : List Addr} {p q : PV} {x y : V} {b : Bool} (ow : Own H M) (hx : Vw Z K M H p x) (hy : Vw Z K M H q y) (h : isIn p q = .ok b) :
    (∃ c t, p = .str [c] ∧ q = .str t ∧ b = decide (c ∈ t)) ∨ ∃ d ds, Dp K H x d ∧ (Dp K H y (.list ds) ∨ Dp K H y (.tuple ds)) ∧ SeqAt.shaped d = true ∧ PyData.canLayAll0 ds = true ∧ (ds.any fun z => PyData.eqv z d) = b := by
  have key : ∀ ys : List PV, fits p = true → ys.all fits = true → ((toDs ys).any fun z => PyData.eqv z (toD p)) = ys.any fun y => PV.beq y p := by
    intro ys hp
    induction ys with
    | nil => intro _; rfl
    | cons y ys ih =>
      intro ha
      rw [List.all_cons, Bool.and_eq_true] at ha
      show (PyData.eqv (toD y) (toD p) || (toDs ys).any fun z => PyData.eqv z (toD p)) = _
      rw [ih ha.2, eqv_beq 12 y p ha.1 hp]
      rfl
  unfold isIn at h
  split at h
  · rename_i c t
    cases h
    exact .inl ⟨c, t, rfl, rfl, rfl⟩
  · rename_i ys _
    split at h
    · rename_i c
      cases h
      rw [Bool.and_eq_true] at c
      obtain ⟨a1, a2⟩ := fits_shaped c.1 (Vw.up ow hx)
      obtain ⟨b1, b2, b3⟩ := fit_data 13 _ y (all_fit c.2).1 (Vw.up ow hy)
      exact .inr ⟨_, _, a2, .inr b3, a1, b1, key _ c.1 c.2⟩
    · cases h
  · rename_i ys _
    split at h
    · rename_i c
      cases h
      rw [Bool.and_eq_true] at c
      obtain ⟨a1, a2⟩ := fits_shaped c.1 (Vw.up ow hx)
      obtain ⟨b1, b2, b3⟩ := fit_data 13 _ y (all_fit c.2).2 (Vw.up ow hy)
      exact .inr ⟨_, _, a2, .inl b3, a1, b1, key _ c.1 c.2⟩
    · cases h
  · cases h
theorem op_inP (hu : X.A.units + 65 < cLine) : OpR X (compareOp .In) (rP2 Z X.K (cop .isin)) := by
  intro pins s σ H x y v u Q I rx ry h
  obtain ⟨M, p, q, r, ow, hx, hy, hf, h⟩ := h
  obtain ⟨b, e1, rfl⟩ := bind_bl (f := fun b => b) hf
  rcases isIn_data ow hx hy e1 with ⟨c, t, rfl, rfl, rfl⟩ | ⟨d, ds, a1, a2, a3, a4, rfl⟩
  · obtain ⟨rfl, _⟩ := hx
    obtain ⟨rfl, _⟩ := hy
    exact op_in_sign pins s σ H _ _ v u Q I rx ry ⟨_, _, rfl, rfl, h _ _ (Ext.refl H) rfl⟩
  · obtain ⟨as, r1⟩ := Dp.reads I d x v a1 rx
    rcases a2 with a2 | a2
    · obtain ⟨bs, r2⟩ := Dp.reads I _ y u a2 ry
      exact SeqAt.in_list_reads r2 r1 a4 (SeqAt.canLay_of_shaped a3) (room_in_shaped a3 hu) ⟨.bl _, H, I, rfl, h _ _ (Ext.refl H) rfl⟩
    · obtain ⟨bs, r2⟩ := Dp.reads I _ y u a2 ry
      exact SeqAt.in_tuple_reads r2 r1 a4 (SeqAt.canLay_of_shaped a3) (room_in_shaped a3 hu) ⟨.bl _, H, I, rfl, h _ _ (Ext.refl H) rfl⟩
theorem op_notinP (hu : X.A.units + 65 < cLine) : OpR X (compareOp .NotIn) (rP2 Z X.K (cop .notin)) := by
  intro pins s σ H x y v u Q I rx ry h
  obtain ⟨M, p, q, r, ow, hx, hy, hf, h⟩ := h
  obtain ⟨b, e1, rfl⟩ := bind_bl (f := fun b => !b) hf
  rcases isIn_data ow hx hy e1 with ⟨c, t, rfl, rfl, rfl⟩ | ⟨d, ds, a1, a2, a3, a4, rfl⟩
  · obtain ⟨rfl, _⟩ := hx
    obtain ⟨rfl, _⟩ := hy
    exact op_notIn_sign pins s σ H _ _ v u Q I rx ry ⟨_, _, rfl, rfl, h _ _ (Ext.refl H) rfl⟩
  · obtain ⟨as, r1⟩ := Dp.reads I d x v a1 rx
    rcases a2 with a2 | a2
    · obtain ⟨bs, r2⟩ := Dp.reads I _ y u a2 ry
      exact SeqAt.notIn_list_reads r2 r1 a4 (SeqAt.canLay_of_shaped a3) (room_in_shaped a3 hu) ⟨.bl _, H, I, rfl, h _ _ (Ext.refl H) rfl⟩
    · obtain ⟨bs, r2⟩ := Dp.reads I _ y u a2 ry
      exact SeqAt.notIn_tuple_reads r2 r1 a4 (SeqAt.canLay_of_shaped a3) (room_in_shaped a3 hu) ⟨.bl _, H, I, rfl, h _ _ (Ext.refl H) rfl⟩
end
def astB : Bop → Operator
  | .add => .Add | .sub => .Sub | .mul => .Mult | .fdiv => .FloorDiv | .mod => .Mod | .pow => .Pow | .shl => .LShift
def astC : Cop → CmpOp
  | .eq => .Eq | .ne => .NotEq | .lt => .Lt | .le => .LtE | .gt => .Gt | .ge => .GtE | .isin => .In | .notin => .NotIn
theorem op_bop {X : Cx} {Z : Zx} (o : Bop) : OpR X (binaryOp (astB o)) (rP2 Z X.K (bop o)) := by
  cases o
  · exact op_addP
  · exact op_subP
  · exact op_mulP
  · exact op_fdivP
  · exact op_modP
  · exact op_powP
  · exact op_shlP
theorem op_cop {X : Cx} {Z : Zx} (hu : X.A.units + 65 < cLine) (o : Cop) : OpR X (compareOp (astC o)) (rP2 Z X.K (cop o)) := by
  cases o
  · exact op_eqP hu
  · exact op_neP hu
  · exact op_ltP
  · exact op_leP
  · exact op_gtP
  · exact op_geP
  · exact op_inP hu
  · exact op_notinP hu
end OS

end

section
set_option Elab.async false
set_option linter.all false
set_option maxRecDepth 100000
set_option maxHeartbeats 1000000
namespace OS
open PySem PySem.Spec PyProof.Rows L2 O
/-- several views -/
def VwL (Z : Zx) (K : PySem.W.Frag) (M : List Addr) (H : Hp) : List PV → List V → Prop
  | [], vs => vs = []
  | p :: ps, vs => ∃ v r, vs = v :: r ∧ Vw Z K M H p v ∧ VwL Z K M H ps r
section
variable {Z : Zx} {K : PySem.W.Frag} {T : List (Addr × Str)} {H H' : Hp} {M : List Addr}
theorem VwL.go (o : Own H M) (e : Ext T H H') : ∀ {ps : List PV} {vs : List V}, VwL Z K M H ps vs → VwL Z K M H' ps vs
  | [], _, h => h
  | _ :: _, _, ⟨v, r, h1, h2, h3⟩ => ⟨v, r, h1, h2.go o e, VwL.go o e h3⟩
theorem VwL.of (o : Own H M) : ∀ {ps : List PV} {vs : List V}, RepL Z K (Hm H M) ps vs → VwL Z K M H ps vs
  | [], _, h => h
  | _ :: _, _, ⟨v, r, h1, h2, h3⟩ => ⟨v, r, h1, Vw.of o h2, VwL.of o h3⟩
theorem atI_eq {A : Type} (xs : List A) (i : Int) : L2.atI xs i = O.atI xs i := rfl
theorem atI_rep {ps : List PV} {vs : List V} {i : Int} {p : PV} (h : RepL Z K H ps vs) (e : O.atI ps i = some p) : ∃ v, L2.atI vs i = some v ∧ Rep Z K H p v := by
  unfold O.atI at e
  cases q : O.ixN ps.length i with
  | none => rw [q] at e; cases e
  | some j =>
    rw [q] at e
    obtain ⟨v, a, b⟩ := h.get (show ps[j]? = some p from e)
    refine ⟨v, ?_, b⟩
    show (O.ixN vs.length i).bind _ = _
    rw [← h.length, q]
    exact a
/-- n-ary -/
def rPn (Z : Zx) (K : PySem.W.Frag) (f : List PV → R PV) : List V → Hp → VK → Prop := fun xs H Q => ∃ M ps r, Own H M ∧ VwL Z K M H ps xs ∧ f ps = .ok r ∧ ∀ v H', Ext Z.T H H' → Rep Z K (Hm H' M) r v → Q v H'
def rPm (Z : Zx) (K : PySem.W.Frag) (f : PV → List PV → R PV) : V → List V → Hp → VK → Prop := fun x xs H Q => ∃ M p ps r, Own H M ∧ Vw Z K M H p x ∧ VwL Z K M H ps xs ∧ f p ps = .ok r ∧ ∀ v H', Ext Z.T H H' → Rep Z K (Hm H' M) r v → Q v H'
def rPs (Z : Zx) (K : PySem.W.Frag) : V → Option Int → Option Int → Hp → VK → Prop := fun x lo hi H Q => ∃ M p r, Own H M ∧ Vw Z K M H p x ∧ cut p lo hi = .ok r ∧ ∀ v H', Ext Z.T H H' → Rep Z K (Hm H' M) r v → Q v H'
theorem sIx_eq (n d : Nat) (o : Option Int) : HT.sIx n d o = O.sIx n d o := rfl
theorem cut_rep {ps : List PV} {vs : List V} (h : RepL Z K H ps vs) (lo hi : Option Int) : RepL Z K H (cutL ps lo hi) (cutV vs lo hi) := by
  unfold cutL cutV
  rw [h.length]
  exact RepL.take _ (RepL.drop _ h)
theorem cut_cps (s : List Nat) (lo hi : Option Int) : cutS (cps s) lo hi = cps (cutL s lo hi) := by
  unfold cutS cutL
  rw [cps_length]
  rfl
theorem okS_cut {s : List Nat} (h : okS s) (lo hi : Option Int) : okS (cutL s lo hi) := fun c hc => h c (List.mem_of_mem_drop (List.mem_of_mem_take hc))
theorem sqT_up (o : Own H M) {ps : List PV} {a : Addr} {vs : List V} (h : SqQ K (Hm H M) ps a vs) : SqT K H a vs := SqT.go (Ext.unHm (T := []) o) h.1
theorem sqL_up (o : Own H M) {a : Addr} {vs : List V} (h : SqL K (Hm H M) a vs) : SqL K H a vs := SqL.go (Ext.unHm (T := []) o) h
theorem bools_rep : ∀ {ps : List PV} {vs : List V} {bs : List Bool}, RepL Z K H ps vs → boolsP ps = some bs → vs = bs.map V.bl
  | [], vs, bs, h, e => by cases e; exact h
  | p :: ps, vs, bs, h, e => by
    obtain ⟨v, r, h1, h2, h3⟩ := h
    cases p with
    | bl b =>
      have e : (boolsP ps).map (b :: ·) = some bs := e
      cases q : boolsP ps with
      | none => rw [q] at e; cases e
      | some cs =>
        rw [q] at e
        cases e
        rw [h1, bools_rep h3 q, show v = .bl b from h2]
        rfl
    | _ => cases e
theorem ints_rep : ∀ {ps : List PV} {vs : List V} {bs : List Int}, RepL Z K H ps vs → intsP ps = some bs → vs = bs.map V.int
  | [], vs, bs, h, e => by cases e; exact h
  | p :: ps, vs, bs, h, e => by
    obtain ⟨v, r, h1, h2, h3⟩ := h
    cases p with
    | int b =>
      have e : (intsP ps).map (b :: ·) = some bs := e
      cases q : intsP ps with
      | none => rw [q] at e; cases e
      | some cs =>
        rw [q] at e
        cases e
        rw [h1, ints_rep h3 q, show v = .int b from h2]
        rfl
    | _ => cases e
theorem strs_rep : ∀ {ps : List PV} {vs : List V} {bs : List (List Nat)}, RepL Z K H ps vs → strsP ps = some bs → vs = (bs.map cps).map V.str ∧ ∀ s ∈ bs, okS s
  | [], vs, bs, h, e => by cases e; exact ⟨h, fun _ z => nomatch z⟩
  | p :: ps, vs, bs, h, e => by
    obtain ⟨v, r, h1, h2, h3⟩ := h
    cases p with
    | str b =>
      have e : (strsP ps).map (b :: ·) = some bs := e
      cases q : strsP ps with
      | none => rw [q] at e; cases e
      | some cs =>
        rw [q] at e
        cases e
        obtain ⟨a1, a2⟩ := strs_rep h3 q
        obtain ⟨h2, k⟩ := h2
        rw [h1, a1, h2]
        exact ⟨rfl, fun s hs => (List.mem_cons.mp hs).elim (fun z => by rw [z]; exact k) (a2 s)⟩
    | _ => cases e
end
section
variable {X : Cx} {Z : Zx}
theorem ix_idx : IxR X (rP2 Z X.K idx) := by
  intro value slice pins s σ H x y v u Q I rx ry h hs
  obtain ⟨M, p, q, r, ow, hx, hy, hf, h⟩ := h
  unfold idx at hf
  split at hf
  · rename_i ns i
    obtain ⟨a, rfl, h1⟩ := hx
    cases (show y = _ from hy)
    split at hf
    · rename_i n e
      cases hf
      refine ix_list value slice pins s σ H _ _ v u Q I rx ry ⟨a, _, i, .int n, rfl, rfl, sqL_up ow h1, ?_, h _ _ (Ext.refl H) rfl⟩ hs
      unfold O.atI at e
      show (O.ixN (ns.map V.int).length i).bind _ = _
      rw [List.length_map]
      cases q : O.ixN ns.length i with
      | none => rw [q] at e; cases e
      | some j =>
        rw [q] at e
        show (ns.map V.int)[j]? = _
        rw [List.getElem?_map, show ns[j]? = some n from e]
        rfl
    · cases hf
  · rename_i ps i
    obtain ⟨a, vs, rfl, h1, h2⟩ := hx
    cases (show y = _ from hy)
    split at hf
    · rename_i p e
      cases hf
      obtain ⟨w, e1, e2⟩ := atI_rep h2 e
      exact ix_tup value slice pins s σ H _ _ v u Q I rx ry ⟨a, _, i, w, rfl, rfl, sqT_up ow h1, e1, h _ _ (Ext.refl H) e2⟩ hs
    · cases hf
  · rename_i ps i
    obtain ⟨a, vs, rfl, h1, h2⟩ := hx
    cases (show y = _ from hy)
    split at hf
    · rename_i p e
      cases hf
      obtain ⟨w, e1, e2⟩ := atI_rep h2 e
      exact ix_list value slice pins s σ H _ _ v u Q I rx ry ⟨a, _, i, w, rfl, rfl, SqL.of h1, e1, h _ _ (Ext.refl H) e2⟩ hs
    · cases hf
  · rename_i ps i
    obtain ⟨rfl, k⟩ := hx
    cases (show y = _ from hy)
    split at hf
    · rename_i c e
      split at hf
      · rename_i l
        cases hf
        refine ix_str value slice pins s σ H _ _ v u Q I rx ry ⟨_, i, c, rfl, rfl, by rw [cps_length]; exact lim_size l, e, h _ _ (Ext.refl H) ⟨rfl, ?_⟩⟩ hs
        intro d hd
        have hd : d = c := by simpa using hd
        subst hd
        unfold O.atI at e
        cases q : O.ixN ps.length i with
        | none => rw [q] at e; cases e
        | some j =>
          rw [q] at e
          exact k d (List.mem_of_getElem? (show ps[j]? = some d from e))
      · cases hf
    · cases hf
  · cases hf
theorem sl_cut : SlR X (rPs Z X.K) := by
  intro pins s σ H x v vl vu lo hi sl Q I rx hs pl pu h
  obtain ⟨M, p, r, ow, hx, hf, h⟩ := h
  unfold cut at hf
  split at hf
  · cases hf
    obtain ⟨a, vs, rfl, h1, h2⟩ := hx
    refine sl_tupPl pins s σ H _ v vl vu lo hi sl Q I rx hs pl pu ⟨a, vs, rfl, sqT_up ow h1, fun e => ?_, fun _ t o ht hd => ?_⟩
    · rename_i xs0
      have e3 : cutL xs0 lo hi = xs0 := by
        have h1 := e.1
        have h2' := e.2
        rw [sIx_eq, ← h2.length] at h1 h2'
        unfold cutL
        rw [h1, h2']
        simp
      rw [e3] at h
      exact h _ _ (Ext.refl H) ⟨a, vs, rfl, h1, h2⟩
    · exact fin_new ht ow h fun hs e => ⟨t, _, rfl, SqQ.of hs hd, cut_rep (RepL.go e h2) lo hi⟩
  · cases hf
    obtain ⟨a, vs, rfl, h1, h2⟩ := hx
    refine sl_list pins s σ H _ v vl vu lo hi sl Q I rx hs pl pu ⟨a, vs, rfl, SqL.of h1, fun t ht => ?_⟩
    exact fin_new ht ow h fun hs e => ⟨t, _, rfl, hs, cut_rep (RepL.go e h2) lo hi⟩
  · split at hf
    · rename_i l
      cases hf
      obtain ⟨rfl, k⟩ := hx
      exact sl_str pins s σ H _ v vl vu lo hi sl Q I rx hs pl pu ⟨_, rfl, by rw [cps_length]; exact lim_size l, h _ _ (Ext.refl H) ⟨by rw [cut_cps], okS_cut k lo hi⟩⟩
    · cases hf
  · cases hf
/-! ### built-in functions -/
theorem call_lenP : CallR X (.builtin "len") (rPn Z X.K (bi .len)) := by
  intro pins s σ H xs us Q I rv h
  obtain ⟨M, ps, r, ow, hx, hf, h⟩ := h
  have hf : lenP ps = .ok r := hf
  unfold lenP at hf
  split at hf
  · obtain ⟨v, _, rfl, ⟨rfl, k⟩, rfl⟩ := hx
    obtain ⟨c, rfl⟩ := if_inv hf
    exact call_len pins s σ H _ us Q I rv ⟨_, _, rfl, ⟨by rw [cps_length]; exact lim_size c, rfl⟩, by rw [cps_length]; exact h _ _ (Ext.refl H) rfl⟩
  · cases hf
    obtain ⟨v, _, rfl, ⟨a, vs, rfl, h1, h2⟩, rfl⟩ := hx
    exact call_len pins s σ H _ us Q I rv ⟨_, _, rfl, .inr ⟨_, sqT_up ow h1, rfl⟩, by rw [← h2.length]; exact h _ _ (Ext.refl H) rfl⟩
  · cases hf
    obtain ⟨v, _, rfl, ⟨a, vs, rfl, h1, h2⟩, rfl⟩ := hx
    exact call_len pins s σ H _ us Q I rv ⟨_, _, rfl, .inl ⟨_, SqL.of h1, rfl⟩, by rw [← h2.length]; exact h _ _ (Ext.refl H) rfl⟩
  · cases hf
    obtain ⟨v, _, rfl, ⟨a, rfl, h1⟩, rfl⟩ := hx
    exact call_len pins s σ H _ us Q I rv ⟨_, _, rfl, .inl ⟨_, sqL_up ow h1, rfl⟩, by rw [List.length_map]; exact h _ _ (Ext.refl H) rfl⟩
  · cases hf
end
end OS

end

section
set_option Elab.async false
set_option linter.all false
set_option maxRecDepth 100000
set_option maxHeartbeats 1000000
namespace OS
open PySem PySem.Spec PyProof.Rows L2 O
section
variable {X : Cx} {Z : Zx}
theorem call_allP (hc : X.calm = true) : CallR X (.builtin "all") (rPn Z X.K (bi .all)) := by
  intro pins s σ H xs us Q I rv h
  obtain ⟨M, ps, r, ow, hx, hf, h⟩ := h
  have hf : allP ps = .ok r := hf
  unfold allP at hf
  split at hf
  · split at hf
    · rename_i bs e
      cases hf
      obtain ⟨v, _, rfl, ⟨a, vs, rfl, h1, h2⟩, rfl⟩ := hx
      rw [bools_rep h2 e] at h1
      exact cr_all hc pins s σ H _ us Q I rv ⟨a, bs, rfl, SqL.of h1, h _ _ (Ext.refl H) rfl⟩
    · cases hf
  · cases hf
theorem call_anyP (hc : X.calm = true) : CallR X (.builtin "any") (rPn Z X.K (bi .any)) := by
  intro pins s σ H xs us Q I rv h
  obtain ⟨M, ps, r, ow, hx, hf, h⟩ := h
  have hf : anyP ps = .ok r := hf
  unfold anyP at hf
  split at hf
  · split at hf
    · rename_i bs e
      cases hf
      obtain ⟨v, _, rfl, ⟨a, vs, rfl, h1, h2⟩, rfl⟩ := hx
      rw [bools_rep h2 e] at h1
      exact cr_any hc pins s σ H _ us Q I rv ⟨a, bs, rfl, SqL.of h1, h _ _ (Ext.refl H) rfl⟩
    · cases hf
  · cases hf
theorem call_tupP : CallR X (.type "tuple") (rPn Z X.K (bi .tup)) := by
  intro pins s σ H xs us Q I rv h
  obtain ⟨M, ps, r, ow, hx, hf, h⟩ := h
  have hf : tupP ps = .ok r := hf
  unfold tupP at hf
  split at hf
  · cases hf
    obtain ⟨v, _, rfl, ⟨a, vs, rfl, h1, h2⟩, rfl⟩ := hx
    exact call_tuplePl pins s σ H _ us Q I rv ⟨a, vs, rfl, .inr ⟨sqT_up ow h1, h _ _ (Ext.refl H) ⟨a, vs, rfl, h1, h2⟩⟩⟩
  · cases hf
    obtain ⟨v, _, rfl, ⟨a, vs, rfl, h1, h2⟩, rfl⟩ := hx
    exact call_tuplePl pins s σ H _ us Q I rv ⟨a, vs, rfl, .inl ⟨SqL.of h1, fun t o ht hd => fin_new ht ow h fun hs e => ⟨t, _, rfl, SqQ.of hs hd, RepL.go e h2⟩⟩⟩
  · cases hf
theorem call_lstP : CallR X (.type "list") (rPn Z X.K (bi .lst)) := by
  intro pins s σ H xs us Q I rv h
  obtain ⟨M, ps, r, ow, hx, hf, h⟩ := h
  have hf : lstP ps = .ok r := hf
  unfold lstP at hf
  split at hf
  · cases hf
    obtain ⟨v, _, rfl, ⟨a, vs, rfl, h1, h2⟩, rfl⟩ := hx
    exact call_list_of pins s σ H _ us Q I rv ⟨a, vs, rfl, .inr (sqT_up ow h1), fun t ht => fin_new ht ow h fun hs e => ⟨t, _, rfl, hs, RepL.go e h2⟩⟩
  · cases hf
    obtain ⟨v, _, rfl, ⟨a, vs, rfl, h1, h2⟩, rfl⟩ := hx
    exact call_list_of pins s σ H _ us Q I rv ⟨a, vs, rfl, .inl (SqL.of h1), fun t ht => fin_new ht ow h fun hs e => ⟨t, _, rfl, hs, RepL.go e h2⟩⟩
  · cases hf
theorem call_max2P (hc : X.calm = true) : CallR X (.builtin "max") (rPn Z X.K (bi .max2)) := by
  intro pins s σ H xs us Q I rv h
  obtain ⟨M, ps, r, ow, hx, hf, h⟩ := h
  have hf : max2P ps = .ok r := hf
  unfold max2P at hf
  split at hf
  · cases hf
    obtain ⟨v, _, rfl, h1, w, _, rfl, h2, rfl⟩ := hx
    cases (show v = _ from h1)
    cases (show w = _ from h2)
    exact call_max2 hc pins s σ H _ us Q I rv ⟨_, _, rfl, h _ _ (Ext.refl H) rfl⟩
  · cases hf
theorem call_int1P : CallR X (.type "int") (rPn Z X.K (bi .int1)) := by
  intro pins s σ H xs us Q I rv h
  obtain ⟨M, ps, r, ow, hx, hf, h⟩ := h
  have hf : int1P ps = .ok r := hf
  unfold int1P at hf
  split at hf
  · cases hf
    obtain ⟨v, _, rfl, h1, rfl⟩ := hx
    cases (show v = _ from h1)
    exact call_int1 pins s σ H _ us Q I rv (.inl ⟨_, rfl, h _ _ (Ext.refl H) rfl⟩)
  · cases hf
theorem call_sumP (hc : X.calm = true) : CallR X (.builtin "sum") (rPn Z X.K (bi .sum)) := by
  intro pins s σ H xs us Q I rv h
  obtain ⟨M, ps, r, ow, hx, hf, h⟩ := h
  have hf : sumP ps = .ok r := hf
  unfold sumP at hf
  split at hf
  · split at hf
    · rename_i bs e
      cases hf
      obtain ⟨v, _, rfl, ⟨a, vs, rfl, h1, h2⟩, rfl⟩ := hx
      rw [ints_rep h2 e] at h1
      exact cr_sum hc pins s σ H _ us Q I rv ⟨a, bs, rfl, SqL.of h1, h _ _ (Ext.refl H) rfl⟩
    · cases hf
  · cases hf
theorem foldl_pick {f : Int → Int → Bool} : ∀ (r : List Int) (x : Int), r.foldl (fun a b => if f a b then b else a) x ∈ x :: r
  | [], x => by simp
  | y :: r, x => by
    rw [List.foldl_cons]
    have := foldl_pick (f := f) r (if f x y then y else x)
    rcases List.mem_cons.mp this with h | h
    · rw [h]; split <;> simp
    · exact List.mem_cons_of_mem _ (List.mem_cons_of_mem _ h)
theorem foldl_min : ∀ (r : List Int) (x m : Int), (∀ y ∈ x :: r, m ≤ y) → m ∈ x :: r → r.foldl (fun a b => if b < a then b else a) x = m
  | [], x, m, h, hm => by simp at hm; simp [hm]
  | y :: r, x, m, h, hm => by
    rw [List.foldl_cons]
    refine foldl_min r _ m (fun z hz => ?_) ?_
    · rcases List.mem_cons.mp hz with e | hz
      · rw [e]; split <;> (apply h; simp)
      · exact h z (by simp [hz])
    · have h1 := h x (by simp)
      have h2 := h y (by simp)
      rcases List.mem_cons.mp hm with e | hm
      · subst e
        have : ¬ y < m := by omega
        rw [if_neg this]; simp
      · rcases List.mem_cons.mp hm with e | hm
        · subst e
          split
          · simp
          · have : x = m := by omega
            simp [this]
        · exact List.mem_cons_of_mem _ hm
theorem foldl_max : ∀ (r : List Int) (x m : Int), (∀ y ∈ x :: r, y ≤ m) → m ∈ x :: r → r.foldl (fun a b => if a < b then b else a) x = m
  | [], x, m, h, hm => by simp at hm; simp [hm]
  | y :: r, x, m, h, hm => by
    rw [List.foldl_cons]
    refine foldl_max r _ m (fun z hz => ?_) ?_
    · rcases List.mem_cons.mp hz with e | hz
      · rw [e]; split <;> (apply h; simp)
      · exact h z (by simp [hz])
    · have h1 := h x (by simp)
      have h2 := h y (by simp)
      rcases List.mem_cons.mp hm with e | hm
      · subst e
        have : ¬ m < y := by omega
        rw [if_neg this]; simp
      · rcases List.mem_cons.mp hm with e | hm
        · subst e
          split
          · simp
          · have : x = m := by omega
            simp [this]
        · exact List.mem_cons_of_mem _ hm
theorem call_maxIP (hc : X.calm = true) : CallR X (.builtin "max") (rPn Z X.K (bi .max)) := by
  intro pins s σ H xs us Q I rv h
  obtain ⟨M, ps, r, ow, hx, hf, h⟩ := h
  have hf : maxLP ps = .ok r := hf
  unfold maxLP at hf
  split at hf
  · split at hf
    · rename_i ns e
      cases ns with
      | nil => cases hf
      | cons n ns =>
        cases hf
        obtain ⟨v, _, rfl, ⟨a, vs, rfl, h1, h2⟩, rfl⟩ := hx
        rw [ints_rep h2 e] at h1
        refine cr_max hc pins s σ H _ us Q I rv ⟨a, _, rfl, SqL.of h1, by simp, fun m hm hle => ?_⟩
        rw [← foldl_max ns n m hle hm]
        exact h _ _ (Ext.refl H) rfl
    · cases hf
  · cases hf
/-! ### isinstance -/
def tyName : Ty → String
  | .str => "str" | .tuple => "tuple" | .list => "list" | .int => "int" | .bool => "bool"
def ofTy : PV → String
  | .non => "NoneType" | .bl _ => "bool" | .int _ => "int" | .str _ => "str" | .tup _ => "tuple" | _ => "list"
theorem isTy_kit {t : Ty} {p : PV} {b : Bool} (h : isTy t p = some b) : kitB (ofTy p) (tyName t) = some b := by
  have key : ∀ (c : PV), isTy t c = some b → (match c with | .fn _ => False | .exc _ => False | .scr _ => False | .clo _ _ => False | .lam _ _ => False | .obj _ => False | _ => True) → kitB (ofTy c) (tyName t) = some b := by
    intro c hc _
    cases c with
    | non => revert hc; cases t <;> cases b <;> decide +kernel
    | bl k => revert hc; show (isTy t (.bl k) = some b → kitB "bool" (tyName t) = some b); cases k <;> cases t <;> cases b <;> decide +kernel
    | int i =>
      have e : isTy t (.int i) = isTy t (.int 0) := by cases t <;> rfl
      rw [e] at hc
      revert hc; show (isTy t (.int 0) = some b → kitB "int" (tyName t) = some b); cases t <;> cases b <;> decide +kernel
    | str i =>
      have e : isTy t (.str i) = isTy t (.str []) := by cases t <;> rfl
      rw [e] at hc
      revert hc; show (isTy t (.str []) = some b → kitB "str" (tyName t) = some b); cases t <;> cases b <;> decide +kernel
    | tup i =>
      have e : isTy t (.tup i) = isTy t (.tup []) := by cases t <;> rfl
      rw [e] at hc
      revert hc; show (isTy t (.tup []) = some b → kitB "tuple" (tyName t) = some b); cases t <;> cases b <;> decide +kernel
    | lst i =>
      have e : isTy t (.lst i) = isTy t (.lst []) := by cases t <;> rfl
      rw [e] at hc
      revert hc; show (isTy t (.lst []) = some b → kitB "list" (tyName t) = some b); cases t <;> cases b <;> decide +kernel
    | fn k => contradiction
    | exc k => contradiction
    | scr k => contradiction
    | clo k ps => contradiction
    | lam k ps => contradiction
    | obj k => contradiction
  cases p with
  | fn k => cases t <;> cases h
  | exc k => cases t <;> cases h
  | scr k => cases t <;> cases h
  | clo k ps => cases t <;> cases h
  | lam k ps => cases t <;> cases h
  | obj k => cases t <;> cases h
  | _ => exact key _ h True.intro
theorem tyX_of {K : PySem.W.Frag} {H : Hp} {p : PV} {v : V} {t : Ty} {b : Bool} (hb : isTy t p = some b) (h : Rep Z K H p v) : TyX K H v (.type (ofTy p)) := by
  cases p with
  | non => cases (show v = _ from h); exact .base .non
  | bl k => cases (show v = _ from h); exact .base (.bl k)
  | int k => cases (show v = _ from h); exact .base (.int k)
  | str k => obtain ⟨rfl, _⟩ := h; exact .base (.str _)
  | tup ps =>
    obtain ⟨a, vs, rfl, h1, _⟩ := h
    rcases h1 with (h1 | ⟨o, h1⟩) | ⟨o, its, n, h1, h2, _⟩
    · exact .base (.tup h1)
    · exact .fTuple h1
    · exact .kTuple h1 h2
  | lst ps =>
    obtain ⟨a, vs, rfl, h1, _⟩ := h
    exact .base (.lst h1)
  | fn k => cases t <;> cases hb
  | exc k => cases t <;> cases hb
  | scr k => cases t <;> cases hb
  | clo k ps => cases t <;> cases hb
  | lam k ps => cases t <;> cases hb
  | obj k => cases t <;> cases hb
theorem call_isiP (t : Ty) : CallR X (.builtin "isinstance") (fun xs H Q => ∃ x, xs = [x, .ty (tyName t)] ∧ rPn Z X.K (bi (.isi t)) [x] H Q) := by
  intro pins s σ H xs us Q I rv h
  obtain ⟨x, rfl, M, ps, r, ow, hx, hf, h⟩ := h
  have hf : isiP t ps = .ok r := hf
  unfold isiP at hf
  split at hf
  · rename_i p
    split at hf
    · rename_i b e
      cases hf
      obtain ⟨v, _, e1, h1, e2⟩ := hx
      cases e1
      exact call_isi pins s σ H _ us Q I rv ⟨x, _, _, _, b, rfl, .ty _, tyX_of e (Vw.up ow h1), kit_ty (isTy_kit e), h _ _ (Ext.refl H) rfl⟩
    · cases hf
  · cases hf
/-! ### methods -/
theorem join_cps (sep : List Nat) : ∀ ss : List (List Nat), Str.join (cps sep) (ss.map cps) = cps (joinC sep ss)
  | [] => rfl
  | [x] => rfl
  | x :: y :: r => by
    have ih := join_cps sep (y :: r)
    show cps x ++ cps sep ++ Str.join (cps sep) ((y :: r).map cps) = cps (x ++ sep ++ joinC sep (y :: r))
    rw [ih, cps_append, cps_append]
theorem okS_join {sep : List Nat} (h : okS sep) : ∀ {ss : List (List Nat)}, (∀ s ∈ ss, okS s) → okS (joinC sep ss)
  | [], _ => fun c hc => nomatch hc
  | [x], hs => hs x (by simp)
  | x :: y :: r, hs => okS_append (okS_append (hs x (by simp)) h) (okS_join h fun s z => hs s (List.mem_cons_of_mem _ z))
theorem mt_joinP : MtR X "str.join" (rPm Z X.K (mt .join)) := by
  intro pins s σ H x xs v us Q I rx rv h
  obtain ⟨M, p, ps, r, ow, hx, hxs, hf, h⟩ := h
  have hf : joinP p ps = .ok r := hf
  unfold joinP at hf
  split at hf
  · rename_i sep q _
    obtain ⟨rfl, k⟩ := hx
    obtain ⟨w, _, rfl, h1, rfl⟩ := hxs
    split at hf
    · rename_i ys e
      split at hf
      · rename_i ss e2
        obtain ⟨l, rfl⟩ := sized_inv hf
        have fin : ∀ (a : Addr) (vs : List V), w = .ref a → (SqL X.K H a vs ∨ SqT X.K H a vs) → RepL Z X.K (Hm H M) ys vs → wpAny (model X.prog X.w) X.A (call (.builtin "str.join") (v :: us)) (EP X pins σ Q) X.xe s := by
          intro a vs ew hq hr
          obtain ⟨e3, e4⟩ := strs_rep hr e2
          rw [e3] at hq
          refine mt_join pins s σ H _ _ v us Q I rx rv ⟨_, a, ss.map cps, rfl, by rw [ew], hq, ?_, ?_⟩
          · rw [List.map_map, List.length_map, cps_length]
            have hm : (List.map ((fun x : Str => x.length) ∘ cps) ss) = ss.map List.length := List.map_congr_left fun s _ => cps_length s
            rw [hm]
            have : (ss.map List.length).sum + ss.length * sep.length ≤ 1000000 := of_decide_eq_true l
            omega
          · rw [TL.join_eq, join_cps]
            exact h _ _ (Ext.refl H) ⟨rfl, okS_join k e4⟩
        cases q with
        | tup zs =>
          cases e
          obtain ⟨a, vs, rfl, h1, h2⟩ := h1
          exact fin a vs rfl (.inr (sqT_up ow h1)) h2
        | lst zs =>
          cases e
          obtain ⟨a, vs, rfl, h1, h2⟩ := h1
          exact fin a vs rfl (.inl (SqL.of h1)) h2
        | _ => cases e
      · cases hf
    · cases hf
  · cases hf
end
end OS

end

section
set_option Elab.async false
set_option linter.all false
set_option maxRecDepth 100000
set_option maxHeartbeats 1000000
/-! sorted(..) of tuples of data -/
namespace OS
open PySem PySem.Spec PyProof.Rows L2 O
mutual
theorem keyT_eq : ∀ p : PV, keyT p = PySem.W.keyToks (toD p)
  | .non => rfl
  | .bl b => rfl
  | .int i => rfl
  | .str s => by show [Sum.inr s] = [Sum.inr (cps s).cps.toList]; simp
  | .tup ps => keyTs_eq ps
  | .lst ps => keyTs_eq ps
  | .fn _ => rfl
  | .exc _ => rfl
  | .scr _ => rfl
  | .clo _ _ => rfl
  | .lam _ _ => rfl
  | .obj _ => rfl
theorem keyTs_eq : ∀ ps : List PV, keyTs ps = PySem.W.keyToksAll (toDs ps)
  | [] => rfl
  | p :: ps => by
    show Sum.inl 1 :: (keyT p ++ keyTs ps) = PySem.W.keyToksAll (toD p :: toDs ps)
    rw [PySem.W.keyToksAll, keyT_eq p, keyTs_eq ps]
end
theorem ordI_eq : ∀ a b : Int ⊕ List Nat, ordI a b = itemLt a b
  | .inl _, .inl _ => rfl
  | .inl _, .inr _ => rfl
  | .inr _, .inl _ => rfl
  | .inr a, .inr b => by
    have := PySem.W.dataLt_str (cps a) (cps b)
    unfold PySem.W.dataLt at this
    have e : lexLt itemOrd (PySem.W.keyToks (.str (cps a))) (PySem.W.keyToks (.str (cps b))) = itemLt (.inr a) (.inr b) := PySem.W.lex_one _ _
    rw [e] at this
    rw [this]
    rfl
theorem lexI_eq : ∀ a b : List (Int ⊕ List Nat), lexI a b = lexLt itemOrd a b
  | [], [] => rfl
  | [], _ :: _ => rfl
  | _ :: _, [] => rfl
  | x :: r, y :: t => by
    show (ordI x y || (!ordI y x && lexI r t)) = (itemLt x y || (!itemLt y x && lexLt itemOrd r t))
    rw [ordI_eq, ordI_eq, lexI_eq]
theorem ltD_eq (x y : PV) : ltD x y = PySem.W.dataLt (toD x) (toD y) := by
  unfold ltD PySem.W.dataLt
  rw [lexI_eq, keyT_eq, keyT_eq]
theorem le_eq : (PySem.W.dataLe false toD) = fun a b => !ltD b a := by
  rw [PySem.W.dataLe_eq]
  funext a b
  show (!PySem.W.dataLt (toD b) (toD a)) = _
  rw [ltD_eq]
mutual
theorem alike_eq : ∀ {p q : PV}, alikeP p q = true → PySem.W.alike (toD p) (toD q) = true
  | .bl _, .bl _, _ => rfl
  | .int _, .int _, _ => rfl
  | .str _, .str _, _ => rfl
  | .lst xs, .lst ys, h => alikes_eq h
  | .tup xs, .tup ys, h => alikes_eq h
  | .non, q, h => by cases q <;> cases h
  | .fn _, q, h => by cases q <;> cases h
  | .exc _, q, h => by cases q <;> cases h
  | .scr _, q, h => by cases q <;> cases h
  | .clo _ _, q, h => by cases q <;> cases h
  | .lam _ _, q, h => by cases q <;> cases h
  | .obj _, q, h => by cases q <;> cases h
  | .bl _, .non, h => by cases h
  | .bl _, .int _, h => by cases h
  | .bl _, .str _, h => by cases h
  | .bl _, .tup _, h => by cases h
  | .bl _, .lst _, h => by cases h
  | .bl _, .fn _, h => by cases h
  | .bl _, .exc _, h => by cases h
  | .bl _, .scr _, h => by cases h
  | .bl _, .clo _ _, h => by cases h
  | .bl _, .lam _ _, h => by cases h
  | .bl _, .obj _, h => by cases h
  | .int _, .non, h => by cases h
  | .int _, .bl _, h => by cases h
  | .int _, .str _, h => by cases h
  | .int _, .tup _, h => by cases h
  | .int _, .lst _, h => by cases h
  | .int _, .fn _, h => by cases h
  | .int _, .exc _, h => by cases h
  | .int _, .scr _, h => by cases h
  | .int _, .clo _ _, h => by cases h
  | .int _, .lam _ _, h => by cases h
  | .int _, .obj _, h => by cases h
  | .str _, .non, h => by cases h
  | .str _, .bl _, h => by cases h
  | .str _, .int _, h => by cases h
  | .str _, .tup _, h => by cases h
  | .str _, .lst _, h => by cases h
  | .str _, .fn _, h => by cases h
  | .str _, .exc _, h => by cases h
  | .str _, .scr _, h => by cases h
  | .str _, .clo _ _, h => by cases h
  | .str _, .lam _ _, h => by cases h
  | .str _, .obj _, h => by cases h
  | .tup _, .non, h => by cases h
  | .tup _, .bl _, h => by cases h
  | .tup _, .int _, h => by cases h
  | .tup _, .str _, h => by cases h
  | .tup _, .lst _, h => by cases h
  | .tup _, .fn _, h => by cases h
  | .tup _, .exc _, h => by cases h
  | .tup _, .scr _, h => by cases h
  | .tup _, .clo _ _, h => by cases h
  | .tup _, .lam _ _, h => by cases h
  | .tup _, .obj _, h => by cases h
  | .lst _, .non, h => by cases h
  | .lst _, .bl _, h => by cases h
  | .lst _, .int _, h => by cases h
  | .lst _, .str _, h => by cases h
  | .lst _, .tup _, h => by cases h
  | .lst _, .fn _, h => by cases h
  | .lst _, .exc _, h => by cases h
  | .lst _, .scr _, h => by cases h
  | .lst _, .clo _ _, h => by cases h
  | .lst _, .lam _ _, h => by cases h
  | .lst _, .obj _, h => by cases h
theorem alikes_eq : ∀ {ps qs : List PV}, alikePs ps qs = true → PySem.W.alikeAll (toDs ps) (toDs qs) = true
  | [], qs, _ => by cases qs <;> rfl
  | _ :: _, [], _ => rfl
  | p :: ps, q :: qs, h => by
    have h : (alikeP p q && alikePs ps qs) = true := h
    rw [Bool.and_eq_true] at h
    show PySem.W.alikeAll (toD p :: toDs ps) (toD q :: toDs qs) = true
    rw [PySem.W.alikeAll, alike_eq h.1, alikes_eq h.2]; rfl
end
section
variable {prog : Program} {w : World} {A : Around} {E : Value → Shared → Prop} {s : Shared} {β : Type} {R : Value → β → Prop} {enc : β → PyData} {bs : List β}
/-- sorted(v), v anything that is collected to data -/
theorem sorted_dataC {v : Value} {Q : Value → Shared → Prop} (hal : PySem.W.AllAlike (bs.map enc)) (hk : PySem.W.Sortable (bs.map enc)) (hL : bs.length ≤ sizeLine) (hu : ∀ b, b ∈ bs → A.units + 2 + (enc b).depth < cLine)
    (hc : ∀ R' : List Value → Shared → Prop, (∀ vs h1, PySem.W.EachIs R vs bs → PySem.W.EachIs (fun v b => ∃ as, Reads h1 v (enc b) as ∧ h1.objs.size ∉ as) vs bs → (∀ b o, s.heap.get? b = some o → h1.get? b = some o) → R' vs { s with heap := h1 }) → wpAny (model prog w) A.in1 (collect v) R' E s)
    (h : ∀ (h1 h' : Heap) (out : List Value) (n : Nat), (∀ b o, s.heap.get? b = some o → h1.get? b = some o) → (∀ b o, h1.get? b = some o → h'.get? b = some o) → h'.get? h1.objs.size = some (seqObj "list" out.toArray n) → PySem.W.EachIs R out (bs.mergeSort (PySem.W.dataLe false enc)) → Q (.ref h1.objs.size) { s with heap := h' }) :
    wpAny (model prog w) A (call (.builtin "sorted") [v]) Q E s := by
  refine Calls.call_function_entry kind_sorted plain_sorted entry_sorted (args_sorted1 _) ?_
  unfold Builtin.«sorted»
  refine wpAny_bind (m := checkCount "sorted" 1 1 _) (wpAny_pure ?_)
  refine wpAny_bind (hc _ fun vs h1 e er keep => ?_)
  have hl : vs.length = bs.length := e.length
  refine wpAny_bind (wpAny_newList ?_ (by rw [hl]; exact hL))
  have hoL : (h1.push (seqObj "list" vs.toArray 0)).get? h1.objs.size = some (seqObj "list" vs.toArray 0) := Heap.get?_push_size _ rfl
  refine wpAny_bind (wpAny_holding (PySem.W.list_sort_data (s := { s with heap := h1.push (seqObj "list" vs.toArray 0) }) (R := R) (enc := enc) hoL e (er.mono fun v b ⟨as, r, n⟩ => ⟨as, PyProof.Rows.Reads.keeps (fun _ _ z => Heap.get?_push_of_some _ z) r, n⟩) hal hk hL (fun b hb => ?_) fun out ho hout => ?_))
  · have := hu b hb
    have e : A.in1.units = A.units + 1 := rfl
    omega
  · obtain ⟨ep, hat⟩ := sortedHeap_at (out := List.toArray out) hoL
    refine wpAny_pure ⟨_, rfl, h h1 _ out ep keep (fun b o hb => ?_) hat hout⟩
    have hlt := Heap.lt_size hb
    rw [sortedHeap_old (Nat.ne_of_lt hlt) (by rw [Heap.size_push]; exact Nat.lt_succ_of_lt hlt)]
    exact Heap.get?_push_of_some _ hb
end
mutual
theorem reads_lt {h : Heap} : ∀ {v : Value} {d : PyData} {as : List Addr}, Reads h v d as → ∀ a ∈ as, a < h.objs.size
  | _, _, _, .none, a, ha => by cases ha
  | _, _, _, .bool _, a, ha => by cases ha
  | _, _, _, .int _ _, a, ha => by cases ha
  | _, _, _, .str _ _, a, ha => by cases ha
  | _, _, _, .list ho _ _ r, a, ha => by
    rcases List.mem_cons.mp ha with rfl | ha
    · exact Heap.lt_size ho
    · exact readsAll_lt r a ha
  | _, _, _, .tuple _ _ _ r, a, ha => readsAll_lt r a ha
  | _, _, _, .dict ho _ _ r1 r2, a, ha => by
    rcases List.mem_append.mp ha with ha | ha
    · rcases List.mem_cons.mp ha with rfl | ha
      · exact Heap.lt_size ho
      · exact readsAll_lt r1 a ha
    · exact readsAll_lt r2 a ha
theorem readsAll_lt {h : Heap} : ∀ {vs : List Value} {ds : List PyData} {as : List Addr}, ReadsAll h vs ds as → ∀ a ∈ as, a < h.objs.size
  | _, _, _, .nil, a, ha => by cases ha
  | _, _, _, .cons r1 r2, a, ha => by
    rcases List.mem_append.mp ha with ha | ha
    · exact reads_lt r1 a ha
    · exact readsAll_lt r2 a ha
end
section
variable {Z : Zx} {X : Cx}
theorem each_rel {K : PySem.W.Frag} {G : Hp} : ∀ {xs : List PV} {vs : List V} {us : List Value}, RepL Z K G xs vs → Vals vs us → PySem.W.EachIs (fun u p => ∃ v, Rep Z K G p v ∧ RelV v u) us xs
  | [], _, _, h, r => by
    cases (show _ = [] from h)
    cases r
    exact .nil
  | p :: xs, _, _, ⟨v, vs, e, h1, h2⟩, r => by
    subst e
    cases r with
    | cons r1 r2 => exact .cons ⟨v, h1, r1⟩ (each_rel h2 r2)
theorem each_rep {K : PySem.W.Frag} {G : Hp} : ∀ {us : List Value} {xs : List PV}, PySem.W.EachIs (fun u p => ∃ v, Rep Z K G p v ∧ RelV v u) us xs → ∃ vs, RepL Z K G xs vs ∧ Vals vs us
  | _, _, .nil => ⟨[], rfl, .nil⟩
  | _, _, .cons ⟨v, h1, r1⟩ r => by
    obtain ⟨vs, h2, r2⟩ := each_rep r
    exact ⟨v :: vs, ⟨v, vs, rfl, h1, h2⟩, .cons r1 r2⟩
theorem call_srtD (hu : X.A.units + 65 < cLine) {pins : List (Addr × Obj)} {s : Shared} {σ : L2.St} {H : Hp} {M : List Addr} {p : PV} {x : V} {us : List Value} {xs : List PV} {Q : VK} (I : Inv X pins σ H s) (r : Vals [x] us) (ow : Own H M) (hx : Vw Z X.K M H p x) (ei : items p = some xs) (hok : (isSeq p && srtOk xs) = true)
    (h : ∀ v H', Ext Z.T H H' → Rep Z X.K (Hm H' M) (.lst (sortD xs)) v → Q v H') : wpAny (model X.prog X.w) X.A (call (.builtin "sorted") us) (EP X pins σ Q) X.xe s := by
  rw [Bool.and_eq_true] at hok
  obtain ⟨hseq, hok⟩ := hok
  unfold srtOk at hok
  rw [Bool.and_eq_true, Bool.and_eq_true, Bool.and_eq_true] at hok
  obtain ⟨k1, k2, k3, k4⟩ := hok
  have hlen : xs.length ≤ 1000000 := of_decide_eq_true k4
  obtain ⟨u, rfl, ru⟩ : ∃ u, us = [u] ∧ RelV x u := by
    cases r with
    | cons a b => cases b; exact ⟨_, rfl, a⟩
  have hal : PySem.W.AllAlike (xs.map toD) := by
    intro d hd d' hd'
    obtain ⟨a, ha, rfl⟩ := List.mem_map.mp hd
    obtain ⟨b, hb, rfl⟩ := List.mem_map.mp hd'
    exact alike_eq (List.all_eq_true.mp (List.all_eq_true.mp k2 a ha) b hb)
  have hk : PySem.W.Sortable (xs.map toD) := .inl fun d hd => by
    obtain ⟨a, ha, rfl⟩ := List.mem_map.mp hd
    have := List.all_eq_true.mp k1 a ha
    unfold neTup at this
    split at this
    · exact ⟨_, _, rfl⟩
    · cases this
  have core : ∀ (vs : List V) (its : List Value), RepL Z X.K (Hm H M) xs vs → Vals vs its → (∀ R' : List Value → Shared → Prop, (∀ h1, (∀ b o, s.heap.get? b = some o → h1.get? b = some o) → R' its { s with heap := h1 }) → wpAny (model X.prog X.w) X.A.in1 (collect u) R' X.xe s) → wpAny (model X.prog X.w) X.A (call (.builtin "sorted") [u]) (EP X pins σ Q) X.xe s := by
    intro vs its hr rv hc
    have dd : ∀ p ∈ xs, ∀ v, Rep Z X.K (Hm H M) p v → PyData.canLay0 (toD p) = true ∧ (toD p).depth ≤ 12 ∧ Dp X.K H v (toD p) := fun p hp v hv => fit_data 12 p v (List.all_eq_true.mp k3 p hp) (Rep.up ow hv)
    have hdep : ∀ b, b ∈ xs → (toD b).depth ≤ 12 := by
      intro b hb
      obtain ⟨i, hi⟩ := List.getElem?_of_mem hb
      obtain ⟨v, _, hv⟩ := RepL.get hr hi
      exact (dd b hb v hv).2.1
    refine sorted_dataC (R := fun u p => ∃ v, Rep Z X.K (Hm H M) p v ∧ RelV v u) (enc := toD) (bs := xs) hal hk (by rw [sizeLine_eq]; omega) (fun b hb => by have := hdep b hb; omega) (fun R' hR => hc R' fun h1 keep => hR its h1 (each_rel hr rv) ?_ keep) (fun h1 h' out n keep keep' hat hout => ?_)
    · have go : ∀ {zs : List PV} {vs : List V} {its : List Value}, (∀ p ∈ zs, p ∈ xs) → RepL Z X.K (Hm H M) zs vs → Vals vs its → PySem.W.EachIs (fun v b => ∃ as, Reads h1 v (toD b) as ∧ h1.objs.size ∉ as) its zs := by
        intro zs
        induction zs with
        | nil =>
          intro vs its _ h1 r1
          cases (show vs = [] from h1)
          cases r1
          exact .nil
        | cons z zs ih =>
          intro vs its hm h1' r1
          obtain ⟨v, vs', e, g1, g2⟩ := h1'
          subst e
          cases r1 with
          | cons r1 r2 =>
            obtain ⟨as, ra⟩ := Dp.reads I _ _ _ (dd z (hm z (List.mem_cons_self ..)) v g1).2.2 r1
            have ra' := PyProof.Rows.Reads.keeps keep ra
            exact .cons ⟨as, ra', fun z => absurd (reads_lt ra' _ z) (Nat.lt_irrefl _)⟩ (ih (fun p hp => hm p (List.mem_cons_of_mem _ hp)) g2 r2)
      exact go (fun p hp => hp) hr rv
    · obtain ⟨ovs, g1, g2⟩ := each_rep hout
      have I1 : Inv X pins σ H { s with heap := h1 } := I.kept (t' := s.toks) keep
      have hfr : H h1.objs.size = none := I1.hok.fresh (Nat.le_refl _)
      have hl2 : ovs.length = xs.length := by rw [← g1.length, List.length_mergeSort]
      refine ⟨.ref h1.objs.size, upd H h1.objs.size (.lst ovs), I1.laid (t' := s.toks) keep' (Nat.le_refl _) ⟨?_, out, n, g2, hat⟩, rfl, ?_⟩
      · rw [hl2, sizeLine_eq]; omega
      · refine fin_new hfr ow h fun q1 q2 => ⟨_, _, rfl, q1, ?_⟩
        have e : sortD xs = xs.mergeSort (PySem.W.dataLe false toD) := by rw [le_eq]; rfl
        rw [e]
        exact RepL.go q2 g1
  cases p with
  | lst ys =>
    cases ei
    obtain ⟨a, vs, rfl, h1, h2⟩ := hx
    cases ru
    obtain ⟨its, rv, pl, hz⟩ := I.list (SqL.of (K := X.K) h1)
    obtain ⟨o, no, e1, e2, e3, e4⟩ := pl
    refine core vs its h2 rv fun R' hR => ?_
    exact wpAny_collect_seq a (.inl rfl) e1 e2 e4 (fun h' k => hR h' k) (by rw [List.size_toArray, ← rv.length]; exact hz)
  | tup ys =>
    cases ei
    obtain ⟨a, vs, rfl, h1, h2⟩ := hx
    cases ru
    obtain ⟨its, rv, ⟨o, e1, e2, no, e4⟩, hz⟩ := I.tuple (sqT_up ow h1)
    refine core vs its h2 rv fun R' hR => ?_
    exact wpAny_collect_seq a (.inr rfl) e1 e2 e4 (fun h' k => hR h' k) (by rw [List.size_toArray, ← rv.length]; exact hz)
  | _ => cases hseq
end
end OS

end

section
set_option Elab.async false
set_option linter.all false
set_option maxRecDepth 100000
set_option maxHeartbeats 1000000
/-! sorted(..) of a tuple and the empty one behind it -/
namespace OS
open PySem PySem.Spec PyProof.Rows L2 O
section
variable {prog : Program} {w : World} {A : Around} {E : Value → Shared → Prop} {s : Shared}
theorem dlt_self (d : PyData) : PySem.W.dataLt d d = false := lex_irrefl _
theorem keyLt_gen (x y : Value) : keyLt' general' x y = oneLt' false x y := rfl
theorem first_tup {M : Model} {a : Addr} {o : Obj} {vs : Array Value} {n : Nat} {Q : Option Value → Shared → Prop} (ho : s.heap.get? a = some o) (hc : o.cls = .type "tuple") (hd : o.data = .seq vs n) (h : Q vs[0]? s) : wpAny M A (firstOfTuple' (.ref a)) Q E s := by
  rw [PySem.W.kas_first_eq]
  refine wpAny_bind (PySem.W.Looks.here (show PySem.W.Looks M s.heap (typeOf (.ref a)) o.cls from (PySem.W.Looks.ld ho).andThen .now) ?_)
  rw [hc, if_neg (by first | decide | simp)]
  exact wpAny_bind (listItems_at ho hd (wpAny_pure h))
def rk (v2 v : Value) : Nat := if v = v2 then 0 else 1
theorem rk_swo (v2 : Value) : SrtO.Swo fun a b => decide (rk v2 a < rk v2 b) := by
  refine ⟨fun x y h => ?_, fun x y z h1 h2 => ?_⟩
  · simp only [decide_eq_true_eq, decide_eq_false_iff_not] at *; omega
  · simp only [decide_eq_false_iff_not] at *; omega
theorem two_sortable {a b c : Addr} {d : PyData} {ds : List PyData} {as bs : List Addr} (hne : (Value.ref b) ≠ .ref c) (hal : PySem.W.alikeAll (d :: ds) (d :: ds) = true) (hdep : A.units + (PyData.tuple (d :: ds)).depth < cLine)
    (hb : ∀ h' : Heap, (∀ b o, b ≠ a → s.heap.get? b = some o → h'.get? b = some o) → ∃ as bs, Reads h' (.ref b) (.tuple (d :: ds)) as ∧ Reads h' (.ref c) (.tuple []) bs) :
    SrtO.SortableO prog w A s a [.ref b, .ref c] fun x y => decide (rk (.ref c) x < rk (.ref c) y) := by
  intro h' keep
  obtain ⟨as, bs, r1, r2⟩ := hb h' keep
  refine ⟨general', fun Q E' hq => ?_, ?_⟩
  · cases r1 with
    | tuple ho hc hd hr =>
      cases r2 with
      | tuple ho2 hc2 hd2 hr2 =>
        rename_i o vs n o2 vs2 n2
        have e1 : vs[0]?.isSome = true := by
          have := SeqAt.ReadsAll.length _ _ _ hr
          have hz : 0 < vs.size := by rw [← Array.length_toList, this]; simp
          rw [Array.getElem?_eq_getElem hz]; rfl
        have e2 : vs2[0]? = none := by
          have := SeqAt.ReadsAll.length _ _ _ hr2
          have hz : vs2.size = 0 := by rw [← Array.length_toList, this]; rfl
          rw [Array.getElem?_eq_none (by omega)]
        rw [kat_kind_eq, List.mapM_toArray, map_eq_pure_bind]
        refine wpAny_bind (wpAny_bind ?_)
        rw [List.mapM_cons, List.mapM_cons, List.mapM_nil]
        refine wpAny_bind (first_tup (s := { s with heap := h' }) ho hc hd (wpAny_bind (wpAny_bind (first_tup (s := { s with heap := h' }) ho2 hc2 hd2 (wpAny_bind (wpAny_pure (wpAny_pure (wpAny_pure (wpAny_pure ?_)))))))))
        rw [e2]
        obtain ⟨f, hf⟩ := Option.isSome_iff_exists.mp e1
        rw [hf]
        rw [if_neg (by simp), if_pos (by simp)]
        exact wpAny_pure hq
  · intro p q hp hq
    have cmp : ∀ x y dx dy, (∃ as, Reads h' x dx as) → (∃ bs, Reads h' y dy bs) → PySem.W.alike dx dy = true → dx ≠ .none → A.units + min dx.depth dy.depth < cLine → PySem.W.dataLt dx dy = decide (rk (.ref c) x < rk (.ref c) y) → wpAny (model prog w) A (keyLt' general' x y) (fun r s' => s' = { s with heap := h' } ∧ r = decide (rk (.ref c) x < rk (.ref c) y)) (fun _ _ => False) { s with heap := h' } := by
      intro x y dx dy ⟨as, ra⟩ ⟨bs, rb⟩ hal hn hdp e
      rw [keyLt_gen]
      refine PySem.W.kat_one x y ?_
      refine PySem.W.rcLt_alike dx dy A { s with heap := h' } x y as bs ra rb hal hn hdp prog w _ _ ?_
      exact ⟨rfl, e⟩
    have mm : ∀ v : Value, v ∈ [Value.ref b, .ref c] → v = .ref b ∨ v = .ref c := fun v hv => by simpa using hv
    have z0 : rk (.ref c) (.ref c) = 0 := by unfold rk; rw [if_pos rfl]
    have z1 : rk (.ref c) (.ref b) = 1 := by unfold rk; rw [if_neg hne]
    have al2 : PySem.W.alikeAll [] (d :: ds) = true := by simp [PySem.W.alikeAll]
    have al3 : PySem.W.alikeAll (d :: ds) [] = true := by simp [PySem.W.alikeAll]
    have al4 : PySem.W.alikeAll [] [] = true := by simp [PySem.W.alikeAll]
    show wpAny (model prog w) A (keyLt' general' p.1 q.1) (fun r s' => s' = { s with heap := h' } ∧ r = decide (rk (.ref c) p.1 < rk (.ref c) q.1)) (fun _ _ => False) { s with heap := h' }
    have dmin : ∀ k : Nat, A.units + min (PyData.tuple (d :: ds)).depth k < cLine := fun k => Nat.lt_of_le_of_lt (Nat.add_le_add_left (Nat.min_le_left _ _) _) hdep
    have dmin2 : ∀ k : Nat, A.units + min k (PyData.tuple (d :: ds)).depth < cLine := fun k => Nat.lt_of_le_of_lt (Nat.add_le_add_left (Nat.min_le_right _ _) _) hdep
    have dmin3 : A.units + min (PyData.tuple []).depth (PyData.tuple []).depth < cLine := by
      have : (PyData.tuple []).depth ≤ (PyData.tuple (d :: ds)).depth := by simp [PyData.depth, PyData.depthAll]
      have : min (PyData.tuple []).depth (PyData.tuple []).depth ≤ (PyData.tuple (d :: ds)).depth := Nat.le_trans (Nat.min_le_left _ _) this
      omega
    rcases mm _ hp with e1 | e1 <;> rcases mm _ hq with e2 | e2 <;> rw [e1, e2]
    · exact cmp _ _ _ _ ⟨as, r1⟩ ⟨as, r1⟩ hal (by simp) (dmin _) (by rw [dlt_self]; simp)
    · refine cmp _ _ _ _ ⟨as, r1⟩ ⟨bs, r2⟩ al3 (by simp) (dmin _) ?_
      rw [z0, z1]
      rfl
    · refine cmp _ _ _ _ ⟨bs, r2⟩ ⟨as, r1⟩ al2 (by simp) (dmin2 _) ?_
      rw [z0, z1]
      rfl
    · exact cmp _ _ _ _ ⟨bs, r2⟩ ⟨bs, r2⟩ al4 (by simp) dmin3 (by rw [dlt_self]; simp)
/-- sorted(v) of two, the second one empty -/
theorem sorted_two {v : Value} {b c : Addr} {d : PyData} {ds : List PyData} {Q : Value → Shared → Prop} (hne : (Value.ref b) ≠ .ref c) (hal : PySem.W.alikeAll (d :: ds) (d :: ds) = true) (hdep : A.units + 2 + (PyData.tuple (d :: ds)).depth < cLine) (rb : ∃ as, Reads s.heap (.ref b) (.tuple (d :: ds)) as) (rc : ∃ as, Reads s.heap (.ref c) (.tuple []) as)
    (hc : ∀ R' : List Value → Shared → Prop, (∀ h1, (∀ b o, s.heap.get? b = some o → h1.get? b = some o) → R' [.ref b, .ref c] { s with heap := h1 }) → wpAny (model prog w) A.in1 (collect v) R' E s)
    (h : ∀ (h1 h' : Heap) (n : Nat), (∀ b o, s.heap.get? b = some o → h1.get? b = some o) → (∀ b o, h1.get? b = some o → h'.get? b = some o) → h'.get? h1.objs.size = some (seqObj "list" #[.ref c, .ref b] n) → Q (.ref h1.objs.size) { s with heap := h' }) :
    wpAny (model prog w) A (call (.builtin "sorted") [v]) Q E s := by
  refine Calls.call_function_entry kind_sorted plain_sorted entry_sorted (args_sorted1 _) ?_
  unfold Builtin.«sorted»
  refine wpAny_bind (m := checkCount "sorted" 1 1 _) (wpAny_pure ?_)
  refine wpAny_bind (hc _ fun h1 keep => ?_)
  refine wpAny_bind (wpAny_newList ?_ (by rw [sizeLine_eq]; simp))
  have hoL : (h1.push (seqObj "list" [Value.ref b, .ref c].toArray 0)).get? h1.objs.size = some (seqObj "list" [Value.ref b, .ref c].toArray 0) := Heap.get?_push_size _ rfl
  obtain ⟨as, rb⟩ := rb
  obtain ⟨bs, rc⟩ := rc
  have rb1 := PyProof.Rows.Reads.keeps keep rb
  have rc1 := PyProof.Rows.Reads.keeps keep rc
  refine wpAny_bind (wpAny_holding (wpAny_call_entry slot_list_sort ⟨_, hoL, rfl⟩ entry_list_sort (SrtO.list_sort_ord (s := { s with heap := h1.push (seqObj "list" [Value.ref b, .ref c].toArray 0) }) (rk_swo (.ref c)) hoL (by rw [sizeLine_eq]; simp) (fun _ => two_sortable (a := h1.objs.size) (d := d) (ds := ds) (as := as) (bs := bs) hne hal (by show A.units + 1 + 1 + _ < cLine; omega) fun h2 k2 => ?_) fun out hs hb => ⟨_, rfl, ?_⟩) (args_list_sort _)))
  · refine ⟨as, bs, ?_, ?_⟩
    · exact PySem.W.Reads.keepBut (h := h1.push (seqObj "list" [Value.ref b, .ref c].toArray 0)) (fun b o hb e => k2 b o hb e) (fun o e => by rw [show _ = some o from e] at hoL; cases hoL; rfl) _ _ _ hal (PyProof.Rows.Reads.keeps (fun _ _ z => Heap.get?_push_of_some _ z) rb1) (fun z => absurd (reads_lt rb1 _ z) (Nat.lt_irrefl _))
    · exact PySem.W.Reads.keepBut (h := h1.push (seqObj "list" [Value.ref b, .ref c].toArray 0)) (fun b o hb e => k2 b o hb e) (fun o e => by rw [show _ = some o from e] at hoL; cases hoL; rfl) _ _ _ (by simp [PySem.W.alike, PySem.W.alikeAll]) (PyProof.Rows.Reads.keeps (fun _ _ z => Heap.get?_push_of_some _ z) rc1) (fun z => absurd (reads_lt rc1 _ z) (Nat.lt_irrefl _))
  · have eo : out = [.ref c, .ref b] := by
      have hp := hb.perm
      have hl := hp.length_eq
      match out, hl, hp, hs with
      | [x, y], _, hp, hs =>
        have hx : x = .ref b ∨ x = .ref c := by simpa using hp.mem_iff.mp (List.mem_cons_self ..)
        have hy : y = .ref b ∨ y = .ref c := by simpa using hp.mem_iff.mp (List.mem_cons_of_mem _ (List.mem_cons_self ..))
        have hmb : (Value.ref b) ∈ [x, y] := hp.mem_iff.mpr (List.mem_cons_self ..)
        have hmc : (Value.ref c) ∈ [x, y] := hp.mem_iff.mpr (List.mem_cons_of_mem _ (List.mem_cons_self ..))
        have z0 : rk (.ref c) (.ref c) = 0 := by unfold rk; rw [if_pos rfl]
        have z1 : rk (.ref c) (.ref b) = 1 := by unfold rk; rw [if_neg hne]
        have hs' : decide (rk (.ref c) y < rk (.ref c) x) = false := by simpa using hs
        rcases hx with rfl | rfl
        · rcases hy with rfl | rfl
          · simp at hmc; exact absurd hmc.symm (by intro z; exact hne (by rw [z]))
          · rw [z0, z1] at hs'; cases hs'
        · rcases hy with rfl | rfl
          · rfl
          · simp at hmb; exact absurd hmb (by intro z; exact hne (by rw [z]))
    subst eo
    obtain ⟨ep, hat⟩ := sortedHeap_at (out := List.toArray [Value.ref c, .ref b]) hoL
    refine wpAny_pure ⟨_, rfl, h h1 _ ep keep (fun b' o hb' => ?_) hat⟩
    have hlt := Heap.lt_size hb'
    rw [sortedHeap_old (Nat.ne_of_lt hlt) (by rw [Heap.size_push]; exact Nat.lt_succ_of_lt hlt)]
    exact Heap.get?_push_of_some _ hb'
end
section
variable {Z : Zx} {X : Cx}
theorem call_srt2 (hu : X.A.units + 65 < cLine) {pins : List (Addr × Obj)} {s : Shared} {σ : L2.St} {H : Hp} {M : List Addr} {p : PV} {x : V} {us : List Value} {xs : List PV} {Q : VK} (I : Inv X pins σ H s) (r : Vals [x] us) (ow : Own H M) (hx : Vw Z X.K M H p x) (ei : items p = some xs) (hok : (isSeq p && srt2 xs) = true)
    (h : ∀ v H', Ext Z.T H H' → Rep Z X.K (Hm H' M) (.lst xs.reverse) v → Q v H') : wpAny (model X.prog X.w) X.A (call (.builtin "sorted") us) (EP X pins σ Q) X.xe s := by
  rw [Bool.and_eq_true] at hok
  obtain ⟨hseq, hok⟩ := hok
  unfold srt2 at hok
  split at hok
  · rename_i y rr
    rw [Bool.and_eq_true] at hok
    obtain ⟨k1, k2⟩ := hok
    obtain ⟨u, rfl, ru⟩ : ∃ u, us = [u] ∧ RelV x u := by
      cases r with
      | cons a b => cases b; exact ⟨_, rfl, a⟩
    have core : ∀ (vs : List V) (its : List Value), RepL Z X.K (Hm H M) [.tup (y :: rr), .tup []] vs → Vals vs its → (∀ R' : List Value → Shared → Prop, (∀ h1, (∀ b o, s.heap.get? b = some o → h1.get? b = some o) → R' its { s with heap := h1 }) → wpAny (model X.prog X.w) X.A.in1 (collect u) R' X.xe s) → wpAny (model X.prog X.w) X.A (call (.builtin "sorted") [u]) (EP X pins σ Q) X.xe s := by
      intro vs its hr rv hc
      obtain ⟨v1, _, e1, h1, v2, _, e2, h2, e3⟩ := hr
      cases (show _ = [] from e3)
      subst e2 e1
      obtain ⟨_, d2, d3⟩ := fit_data 12 _ v1 k2 (Rep.up ow h1)
      obtain ⟨_, _, d4⟩ := fit_data 12 (.tup []) v2 rfl (Rep.up ow h2)
      have h1' := h1
      have h2' := h2
      obtain ⟨b, ws, rfl, _, _⟩ := h1'
      obtain ⟨c, ws2, rfl, _, _⟩ := h2'
      cases rv with
      | cons r1 r2 =>
        cases r2 with
        | cons r2 r3 =>
          cases r3
          cases r1
          cases r2
          have ra := Dp.reads I _ _ _ d3 (show RelV (.ref b) (.ref b) from rfl)
          have rb := Dp.reads I _ _ _ d4 (show RelV (.ref c) (.ref c) from rfl)
          have hne : (Value.ref b) ≠ .ref c := by
            intro z
            obtain ⟨as, ra⟩ := ra
            obtain ⟨bs, rb⟩ := rb
            rw [z] at ra
            have := (Reads.unique ra _ _ rb).1
            cases this
          refine sorted_two (d := toD y) (ds := toDs rr) hne (alikes_eq (ps := y :: rr) (qs := y :: rr) k1) (by have : (PyData.tuple (toD y :: toDs rr)).depth ≤ 12 := d2; omega) ra rb hc (fun hh1 h' n keep keep' hat => ?_)
          have I1 : Inv X pins σ H { s with heap := hh1 } := I.kept (t' := s.toks) keep
          have hfr : H hh1.objs.size = none := I1.hok.fresh (Nat.le_refl _)
          refine ⟨.ref hh1.objs.size, upd H hh1.objs.size (.lst [.ref c, .ref b]), I1.laid (t' := s.toks) keep' (Nat.le_refl _) ⟨?_, [.ref c, .ref b], n, .cons rfl (.cons rfl .nil), hat⟩, rfl, ?_⟩
          · rw [sizeLine_eq]; simp
          · refine fin_new hfr ow h fun q1 q2 => ⟨_, _, rfl, q1, ?_⟩
            exact RepL.go q2 ⟨.ref c, _, rfl, h2, .ref b, _, rfl, h1, rfl⟩
    cases p with
    | lst ys =>
      cases ei
      obtain ⟨a, vs, rfl, h1, h2⟩ := hx
      cases ru
      obtain ⟨its, rv, pl, hz⟩ := I.list (SqL.of (K := X.K) h1)
      obtain ⟨o, no, e1, e2, e3, e4⟩ := pl
      refine core vs its h2 rv fun R' hR => ?_
      exact wpAny_collect_seq a (.inl rfl) e1 e2 e4 (fun h' k => hR h' k) (by rw [List.size_toArray, ← rv.length]; exact hz)
    | tup ys =>
      cases ei
      obtain ⟨a, vs, rfl, h1, h2⟩ := hx
      cases ru
      obtain ⟨its, rv, ⟨o, e1, e2, no, e4⟩, hz⟩ := I.tuple (sqT_up ow h1)
      refine core vs its h2 rv fun R' hR => ?_
      exact wpAny_collect_seq a (.inr rfl) e1 e2 e4 (fun h' k => hR h' k) (by rw [List.size_toArray, ← rv.length]; exact hz)
    | _ => cases hseq
  · cases hok
end
end OS

end

section
set_option Elab.async false
set_option linter.all false
set_option maxRecDepth 100000
set_option maxHeartbeats 1000000
namespace OS
open PySem PySem.Spec PyProof.Rows L2 O
theorem rising_pw : ∀ (p : Str) (l : List Str), risingS p l = true → (p :: l).Pairwise (fun a b => ltCps b.cps.toList a.cps.toList = false)
  | p, [], _ => List.pairwise_singleton _ _
  | p, x :: r, h => by
    have h : (!ltCps x.cps.toList p.cps.toList && risingS x r) = true := h
    rw [Bool.and_eq_true] at h
    obtain ⟨h1, h2⟩ := h
    have ih := rising_pw x r h2
    refine List.pairwise_cons.mpr ⟨fun y hy => ?_, ih⟩
    have h1' : ltCps x.cps.toList p.cps.toList = false := by simpa using h1
    rcases List.mem_cons.mp hy with rfl | hy
    · exact h1'
    · have h3 := (List.pairwise_cons.mp ih).1 y hy
      rw [ltCps_eq, decide_eq_false_iff_not] at h1' h3 ⊢
      exact List.not_lt.mpr (List.le_trans (List.not_lt.mp h1') (List.not_lt.mp h3))
theorem sorted_pw : ∀ {l : List Str}, sortedS l = true → l.Pairwise (fun a b => ltCps b.cps.toList a.cps.toList = false)
  | [], _ => .nil
  | x :: r, h => rising_pw x r h
theorem sorted_is {ss : List (List Nat)} {ys : List Str} (p : ys.Perm (ss.map cps)) (h : sortedS ys = true) : ys = (sortS ss).map cps := by
  have p2 : (ys.map fun y => y.cps.toList).Perm ss := by
    have := p.map fun y : Str => y.cps.toList
    rw [List.map_map] at this
    have e : (fun y : Str => y.cps.toList) ∘ cps = id := by funext l; simp
    rw [e, List.map_id] at this
    exact this
  have h2 : SortedS (ys.map fun y => y.cps.toList) := by
    refine List.pairwise_map.mpr ((sorted_pw h).imp fun {a b} q => ?_)
    rw [ltCps_eq, decide_eq_false_iff_not] at q
    exact q
  have e := sortedS_uniq (p2.trans (sortS_perm ss).symm) h2 (sortS_sorted ss)
  rw [← e, List.map_map]
  have : cps ∘ (fun y : Str => y.cps.toList) = id := by funext y; simp
  rw [this, List.map_id]
section
variable {prog : Program} {w : World} {A : Around} {E : Value → Shared → Prop} {s : Shared}
/-- sorted(v) of texts, v anything that is collected -/
theorem sorted_texts {v : Value} {ss : List Str} {Q : Value → Shared → Prop} (hlen : ss.length ≤ 1000000)
    (hc : ∀ R : List Value → Shared → Prop, (∀ vs s1, StrsAre vs ss → (∀ b o, s.heap.get? b = some o → s1.heap.get? b = some o) → s1.gens = s.gens → s1.drawn = s.drawn → s1.os = s.os → R vs s1) → wpAny (model prog w) A.in1 (collect v) R E s)
    (h : ∀ (vs : List Value) (s1 : Shared) (h' : Heap) (out : Array Value) (n : Nat) (ss' : List Str), (∀ b o, s.heap.get? b = some o → s1.heap.get? b = some o) → s1.gens = s.gens → s1.drawn = s.drawn → s1.os = s.os → (∀ b o, s1.heap.get? b = some o → h'.get? b = some o) → h'.get? s1.heap.objs.size = some (seqObj "list" out n) →
      StrsAre out.toList ss' → ss'.Perm ss → sortedS ss' = true → Q (.ref s1.heap.objs.size) { s1 with heap := h' }) :
    wpAny (model prog w) A (call (.builtin "sorted") [v]) Q E s := by
  refine Calls.call_function_entry kind_sorted plain_sorted entry_sorted (args_sorted1 _) ?_
  unfold Builtin.«sorted»
  refine wpAny_bind (m := checkCount "sorted" 1 1 _) (wpAny_pure ?_)
  refine wpAny_bind (hc _ fun vs s1 hS keep e1 e2 e3 => ?_)
  have hl : vs.length = ss.length := hS.length
  have hL : vs.length ≤ sizeLine := by rw [hl, sizeLine_eq]; omega
  refine wpAny_bind (wpAny_newList ?_ hL)
  have hoL : (s1.heap.push (seqObj "list" vs.toArray 0)).get? s1.heap.objs.size = some (seqObj "list" vs.toArray 0) := Heap.get?_push_size _ rfl
  refine wpAny_bind (wpAny_holding (wpAny_call_entry slot_list_sort ⟨_, hoL, rfl⟩ entry_list_sort (list_sort_treeKAny strKind_oneLt hoL hS.keysOf (fun v₁ v₂ rest e => keyKind_strs (by rw [← e]; exact hS)) hL fun st' a1 a2 => ⟨_, rfl, ?_⟩) (args_list_sort _)))
  obtain ⟨ss', h1, h2, h3⟩ := sorted_out_str hS a1 a2
  obtain ⟨ep, hat⟩ := sortedHeap_at (out := (arrOf st').map (·.2)) hoL
  refine wpAny_pure ⟨_, rfl, h vs s1 _ _ ep ss' keep e1 e2 e3 (fun b o hb => ?_) hat h1 h2 h3⟩
  have hlt := Heap.lt_size hb
  rw [sortedHeap_old (Nat.ne_of_lt hlt) (by rw [Heap.size_push]; exact Nat.lt_succ_of_lt hlt)]
  exact Heap.get?_push_of_some _ hb
end
theorem strsAre_signs {x : Str} {acc : Array Value} (h : ItemsOf (SignAt x) acc x.cps.size) : StrsAre acc.toList (x.cps.toList.map fun c => (⟨#[c]⟩ : Str)) := by
  obtain ⟨h1, h2⟩ := h
  have go : ∀ (l : List Value) (cs : List Nat), l.length = cs.length → (∀ (j : Nat) (v : Value), l[j]? = some v → ∃ (c : Nat) (u : Tok), cs[j]? = some c ∧ v = Value.str ⟨#[c]⟩ u) → StrsAre l (cs.map fun c => (⟨#[c]⟩ : Str)) := by
    intro l
    induction l with
    | nil => intro cs hl _; cases cs with | nil => exact .nil | cons => simp at hl
    | cons v l ih =>
      intro cs hl h
      cases cs with
      | nil => simp at hl
      | cons c cs =>
        obtain ⟨c', u, e1, e2⟩ := h 0 v rfl
        cases e1
        subst e2
        exact .cons _ u (ih cs (by simpa using hl) fun j w hw => h (j + 1) w hw)
  refine go acc.toList x.cps.toList (by simpa using h1) fun j v hv => ?_
  obtain ⟨c, u, e1, e2⟩ := h2 j v (by simpa using hv)
  exact ⟨c, u, by simpa using e1, e2⟩
theorem vals_strsAre : ∀ {ss : List Str} {us : List Value}, Vals (ss.map V.str) us → StrsAre us ss
  | [], _, .nil => .nil
  | z :: ss, _, .cons r t => by
    obtain ⟨k, rfl⟩ := r
    exact .cons z k (vals_strsAre t)
theorem strsAre_vals : ∀ {us : List Value} {ss : List Str}, StrsAre us ss → Vals (ss.map V.str) us
  | _, _, .nil => .nil
  | _, _, .cons z k t => .cons ⟨k, rfl⟩ (strsAre_vals t)
section
variable {Z : Zx} {X : Cx}
theorem strsP_len : ∀ {ps : List PV} {ss : List (List Nat)}, strsP ps = some ss → ps.length = ss.length
  | [], ss, h => by cases h; rfl
  | .str b :: r, ss, h => by
    unfold strsP at h
    cases e : strsP r with
    | none => rw [e] at h; cases h
    | some q => rw [e] at h; cases h; rw [List.length_cons, List.length_cons, strsP_len e]
  | .non :: _, _, h => by cases h
  | .bl _ :: _, _, h => by cases h
  | .int _ :: _, _, h => by cases h
  | .tup _ :: _, _, h => by cases h
  | .lst _ :: _, _, h => by cases h
  | .fn _ :: _, _, h => by cases h
  | .obj _ :: _, _, h => by cases h
  | .exc _ :: _, _, h => by cases h
  | .scr _ :: _, _, h => by cases h
theorem call_srtP (hu : X.A.units + 65 < cLine) (hcm : X.calm = true) : CallR X (.builtin "sorted") (rPn Z X.K (bi .srt)) := by
  intro pins s σ H vs us Q I r h
  obtain ⟨M, ps, rr, ow, hv, hf, h⟩ := h
  have hf : srtP ps = .ok rr := hf
  match ps, hf, hv with
  | [p], hf, hv =>
    obtain ⟨x, _, rfl, hx, rfl⟩ := hv
    have hf : (match items p with
      | some xs => (match strsP xs with | some ss => if lim ss.length then R.ok (PV.lst ((sortS ss).map PV.str)) else .bad | none => if isSeq p && srtOk xs then .ok (.lst (sortD xs)) else if isSeq p && srt2 xs then .ok (.lst xs.reverse) else .bad)
      | none => .bad) = .ok rr := hf
    cases ei : items p with
    | none => rw [ei] at hf; cases hf
    | some xs =>
      rw [ei] at hf
      cases es : strsP xs with
      | none =>
        simp only [es] at hf
        by_cases hd : (isSeq p && srtOk xs) = true
        · rw [if_pos hd] at hf
          cases hf
          exact call_srtD hu I r ow hx ei hd h
        · rw [if_neg hd] at hf
          obtain ⟨hd2, rfl⟩ := if_inv hf
          exact call_srt2 hu I r ow hx ei hd2 h
      | some ss =>
        simp only [es] at hf
        obtain ⟨hl, rfl⟩ := if_inv hf
        have hlen := of_decide_eq_true hl
        obtain ⟨u, rfl, ru⟩ : ∃ u, us = [u] ∧ RelV x u := by
          cases r with
          | cons a b => cases b; exact ⟨_, rfl, a⟩
        -- behind the sort
        have fin : ∀ (okk : ∀ z ∈ ss, okS z) (vs : List Value) (s1 : Shared) (h' : Heap) (out : Array Value) (n : Nat) (ss' : List Str), (∀ b o, s.heap.get? b = some o → s1.heap.get? b = some o) → s1.gens = s.gens → s1.drawn = s.drawn → s1.os = s.os → (∀ b o, s1.heap.get? b = some o → h'.get? b = some o) → h'.get? s1.heap.objs.size = some (seqObj "list" out n) →
            StrsAre out.toList ss' → ss'.Perm (ss.map cps) → sortedS ss' = true → EP X pins σ Q (.ref s1.heap.objs.size) { s1 with heap := h' } := by
          intro okk vs s1 h' out n ss' keep e1 e2 e3 keep' hat hS hp hsrt
          obtain ⟨hh, g, dr, tk, os⟩ := s1
          cases e1; cases e2; cases e3
          have I1 : Inv X pins σ H { s with heap := hh, toks := tk } := I.kept (t' := tk) keep
          have e := sorted_is hp hsrt
          subst e
          have hfr : H hh.objs.size = none := I1.hok.fresh (Nat.le_refl _)
          refine ⟨.ref hh.objs.size, upd H hh.objs.size (.lst (((sortS ss).map cps).map V.str)), I1.laid (t' := tk) keep' (Nat.le_refl _) ⟨?_, out.toList, n, strsAre_vals hS, by simpa using hat⟩, rfl, ?_⟩
          · rw [List.length_map, List.length_map, (sortS_perm ss).length_eq, sizeLine_eq]; omega
          · refine fin_new hfr ow h fun q1 q2 => ⟨_, _, rfl, q1, ?_⟩
            have go : ∀ l : List (List Nat), (∀ z ∈ l, okS z) → ∀ G : Hp, RepL Z X.K G (l.map PV.str) ((l.map cps).map V.str) := by
              intro l
              induction l with
              | nil => intro _ _; rfl
              | cons z l ih => intro k G; exact ⟨_, _, rfl, ⟨rfl, k z (List.mem_cons_self ..)⟩, ih (fun y hy => k y (List.mem_cons_of_mem _ hy)) G⟩
            exact go _ (fun z hz => okk z ((sortS_perm ss).mem_iff.mp hz)) _
        cases p with
        | lst ys =>
          cases ei
          obtain ⟨a, vs, rfl, h1, h2⟩ := hx
          obtain ⟨ev, okk⟩ := strs_rep h2 es
          subst ev
          cases ru
          obtain ⟨its, rv, pl, hz⟩ := I.list (SqL.of (K := X.K) h1)
          obtain ⟨o, no, e1, e2, e3, e4⟩ := pl
          refine sorted_texts (ss := ss.map cps) (by rw [List.length_map]; exact hlen) (fun R hR => ?_) (fin okk)
          refine wpAny_collect_seq a (.inl rfl) e1 e2 e4 (fun h' k => ?_) (by rw [List.size_toArray, ← rv.length]; exact hz)
          exact hR _ { s with heap := h' } (vals_strsAre rv) k rfl rfl rfl
        | tup ys =>
          cases ei
          obtain ⟨a, vs, rfl, h1, h2⟩ := hx
          obtain ⟨ev, okk⟩ := strs_rep h2 es
          subst ev
          cases ru
          obtain ⟨its, rv, ⟨o, e1, e2, no, e4⟩, hz⟩ := I.tuple (sqT_up ow h1)
          refine sorted_texts (ss := ss.map cps) (by rw [List.length_map]; exact hlen) (fun R hR => ?_) (fin okk)
          refine wpAny_collect_seq a (.inr rfl) e1 e2 e4 (fun h' k => ?_) (by rw [List.size_toArray, ← rv.length]; exact hz)
          exact hR _ { s with heap := h' } (vals_strsAre rv) k rfl rfl rfl
        | str z =>
          cases ei
          obtain ⟨rfl, kz⟩ := hx
          obtain ⟨t, rfl⟩ := ru
          have e : ss = z.map fun c => [c] := by
            have go : ∀ (l : List Nat) (ss : List (List Nat)), strsP (l.map fun c => PV.str [c]) = some ss → ss = l.map fun c => [c] := by
              intro l
              induction l with
              | nil => intro ss h; cases h; rfl
              | cons c l ih =>
                intro ss h
                rw [List.map_cons] at h
                unfold strsP at h
                cases e : strsP (l.map fun c => PV.str [c]) with
                | none => rw [e] at h; cases h
                | some q => rw [e] at h; cases h; rw [ih q e]; rfl
            exact go z ss es
          subst e
          have hl2 : z.length ≤ 1000000 := by simpa using hlen
          have ez : (z.map fun c => [c]).map cps = (cps z).cps.toList.map fun c => (⟨#[c]⟩ : Str) := by
            rw [List.map_map]; rfl
          refine sorted_texts (ss := (z.map fun c => [c]).map cps) (by rw [List.length_map, List.length_map]; exact hl2) (fun R hR => ?_) (fin fun y hy => ?_)
          · refine wpAny_collect_str (show X.A.in1.handled = none from I.ok.hd hcm) (cps z) t (fun s' acc k g d o it => ?_) (by show (z.toArray).size ≤ sizeLine; rw [List.size_toArray, sizeLine_eq]; omega)
            refine hR _ s' ?_ k g d o
            rw [ez]
            exact strsAre_signs it
          · obtain ⟨c, hc, rfl⟩ := List.mem_map.mp hy
            intro d hd
            rw [List.mem_singleton.mp hd]
            exact kz c hc
        | _ => cases ei
  | [], hf, _ => cases hf
  | _ :: _ :: _, hf, _ => cases hf
end
end OS

end

section
set_option Elab.async false
set_option linter.all false
set_option maxRecDepth 100000
set_option maxHeartbeats 1000000
/-! min(xs), xs tuples of data -/
namespace OS
open PySem PySem.Spec PyProof.Rows L2 O
section
variable {prog : Program} {w : World} {A : Around} {R : Result → Shared → Prop} {J : Addr} {fp wr : List Addr} {n : Nat} {P : Nat → Value → Prop} {St : Nat → Heap → Prop}
/-- vi < vj is told wherever what was there stands -/
def CmpW (prog : Program) (w : World) (A : Around) (Od : Heap → Prop) (P : Nat → Value → Prop) (bt : Nat → Nat → Bool) : Prop :=
  ∀ i j x y (s : Shared) (Q : Value → Shared → Prop) (E : Value → Shared → Prop), Od s.heap → P i x → P j y → Q (.bool (bt i j)) s → wpAny (model prog w) A (richCompare .Lt x y) Q E s
theorem mn_name : (toString "min" ++ toString ".loop" : String) = "min.loop" := by decide
theorem mn_loop (W : Walks prog w A.in1 J fp wr n P St) (bt : Nat → Nat → Bool) {Od : Heap → Prop} {T : Addr} (hold : ∀ g g' : Heap, Od g → (∀ b o, b ∉ wr → b ≠ T → g.get? b = some o → g'.get? b = some o) → Od g') (cmp : CmpW prog w A.in1 Od P bt) (nT : T ∉ fp) (nw : T ∉ wr) :
    ∀ (d j : Nat) (s : Shared) (x : Value) (c : Nat), n - (j + 1) = d → j + 1 ≤ n → St (j + 1) s.heap → Od s.heap → P (argBest bt j) x → s.heap.get? T = some { cls := .type "list", dict := none, data := .seq #[x, x] c, slots := #[] } →
    (∀ y g tk, P (argBest bt (n - 1)) y → (∀ b o, b ∉ wr → b ≠ T → s.heap.get? b = some o → g.get? b = some o) → R (.ok (.ret y)) { s with heap := g, toks := tk }) → codeAny (model prog w) A (.builtin "min.loop" ⟨[.ref J, .none, .ref T], []⟩) R s
  | d, j, s, x, c, hd, hj, st, od, px, hT, hR => by
    refine codeAny_builtin F.entry_min_loop (by
      rw [Around.under_plainId F.plain_min_loop _]
      show wpAny _ A.in1 (seqItems? (.ref T) >>= _) _ _ s
      refine wpAny_bind (wpAny_seqItems hT rfl ?_)
      show wpAny _ A.in1 (tryCatch (pyNext (.ref J)) _ >>= _) _ _ s
      by_cases last : j + 1 = n
      · refine wpAny_bind (wpAny_tryCatch (W.done s _ _ (last ▸ st) fun g tk kp => ?_))
        have hT2 := kp T _ nw hT
        show wpAny _ A.in1 (updateSeq T (fun _ => #[]) >>= _) _ _ _
        refine wpAny_bind (wpAny_updateSeq hT2 rfl (wpAny_bind (wpAny_letGo (wpAny_pure ?_))))
        exact hR x _ tk (by rw [← last]; exact px) fun b o h1 h2 e => (Heap.get?_update_other _ _ (Ne.symm h2)).trans (kp b o h1 e)
      · have more : j + 1 < n := by omega
        refine wpAny_bind (wpAny_tryCatch (W.item (j + 1) s _ _ more st fun y g tk py st2 kp => ?_))
        have hT2 := kp T _ nw hT
        have od2 : Od g := hold _ _ od fun b o h1 _ e => kp b o h1 e
        show wpAny _ A.in1 (tryCatch (holding [y, y] (richCompare .Lt y x >>= _)) _ >>= _) _ _ _
        refine wpAny_bind (wpAny_tryCatch (wpAny_holding (wpAny_bind (cmp (j + 1) (argBest bt j) y x _ _ _ od2 py px ?_))))
        refine wpAny_bind (wpAny_holding (wpAny_truthy_bool (wpAny_bind (wpAny_letGo (wpAny_pure ?_)))))
        cases hb : bt (j + 1) (argBest bt j) with
        | true =>
          rw [if_pos rfl]
          refine wpAny_bind (wpAny_updateSeq hT2 rfl (wpAny_bind (wpAny_letGo ?_)))
          rw [mn_name]
          refine wpAny_pure ⟨plainId_quiet F.plain_min_loop _, mn_loop W bt hold cmp nT nw (d - 1) (j + 1) _ y _ (by omega) more (W.frame _ _ _ st2 fun b hb' o e => ?_) (hold _ _ od2 fun b o _ h2 e => (Heap.get?_update_other _ _ (Ne.symm h2)).trans e) (by rw [argBest, if_pos hb]; exact py) (Heap.get?_update_self _ hT2 rfl) fun z g2 tk2 pz kp2 => ?_⟩
          · exact (Heap.get?_update_other _ _ (fun z : T = b => nT (z ▸ hb'))).trans e
          · exact hR z g2 tk2 pz fun b o h1 h2 e => kp2 b o h1 h2 ((Heap.get?_update_other _ _ (Ne.symm h2)).trans (kp b o h1 e))
        | false =>
          rw [if_neg Bool.false_ne_true]
          refine wpAny_bind (wpAny_letGo ?_)
          rw [mn_name]
          refine wpAny_pure ⟨plainId_quiet F.plain_min_loop _, mn_loop W bt hold cmp nT nw (d - 1) (j + 1) _ x c (by omega) more st2 od2 (by rw [argBest, hb]; exact px) hT2 fun z g2 tk2 pz kp2 => ?_⟩
          exact hR z g2 tk2 pz fun b o h1 h2 e => kp2 b o h1 h2 (kp b o h1 e))
termination_by d j => n - j
theorem mn_first (W : Walks prog w A.in1 J fp wr n P St) (bt : Nat → Nat → Bool) {Od : Heap → Prop} {T : Addr} (hold : ∀ g g' : Heap, Od g → (∀ b o, b ∉ wr → b ≠ T → g.get? b = some o → g'.get? b = some o) → Od g') (cmp : CmpW prog w A.in1 Od P bt) (nT : T ∉ fp) (hn : 0 < n) {s : Shared} {c : Nat} (st : St 0 s.heap) (od : Od s.heap)
    (hT : s.heap.get? T = some { cls := .type "list", dict := none, data := .seq #[] c, slots := #[] })
    (hR : ∀ y g tk, P (argBest bt (n - 1)) y → (∀ b o, b ∉ wr → b ≠ T → s.heap.get? b = some o → g.get? b = some o) → R (.ok (.ret y)) { s with heap := g, toks := tk }) : codeAny (model prog w) A (.builtin "min.loop" ⟨[.ref J, .none, .ref T], []⟩) R s := by
  have nw : T ∉ wr := fun z => nT (W.sub _ z)
  refine codeAny_builtin F.entry_min_loop (by
    rw [Around.under_plainId F.plain_min_loop _]
    show wpAny _ A.in1 (seqItems? (.ref T) >>= _) _ _ s
    refine wpAny_bind (wpAny_seqItems hT rfl ?_)
    show wpAny _ A.in1 (tryCatch (pyNext (.ref J)) _ >>= _) _ _ s
    refine wpAny_bind (wpAny_tryCatch (W.item 0 s _ _ hn st fun y g tk py st2 kp => ?_))
    have hT2 := kp T _ nw hT
    show wpAny _ A.in1 (updateSeq T (fun _ => #[y, y]) >>= _) _ _ _
    refine wpAny_bind (wpAny_updateSeq hT2 rfl ?_)
    rw [mn_name]
    refine wpAny_pure ⟨plainId_quiet F.plain_min_loop _, mn_loop W bt hold cmp nT nw _ 0 _ y _ rfl hn (W.frame _ _ _ st2 fun b hb o e => ?_) (hold _ _ od fun b o h1 h2 e => (Heap.get?_update_other _ _ (Ne.symm h2)).trans (kp b o h1 e)) py (Heap.get?_update_self _ hT2 rfl) fun z g2 tk2 pz kp2 => ?_⟩
    · exact (Heap.get?_update_other _ _ (fun z : T = b => nT (z ▸ hb))).trans e
    · exact hR z g2 tk2 pz fun b o h1 h2 e => kp2 b o h1 h2 ((Heap.get?_update_other _ _ (Ne.symm h2)).trans (kp b o h1 e)))
/-- min of a list -/
theorem mn_call {E : Value → Shared → Prop} {s : Shared} {l : Addr} {its : Array Value} {bt : Nat → Nat → Bool} {Q : Value → Shared → Prop} (hh : A.handled = none) (hl : s.heap.IsList l its) (hn : 0 < its.size)
    (cmp : CmpW prog w A.in1 (fun g => ∀ b o, s.heap.get? b = some o → g.get? b = some o) (fun i v => its[i]? = some v) bt)
    (h : ∀ v g tk, its[argBest bt (its.size - 1)]? = some v → (∀ b o, s.heap.get? b = some o → g.get? b = some o) → Q v { s with heap := g, toks := tk }) : wpAny (model prog w) A (call (.builtin "min") [.ref l]) Q E s := by
  have ll : l < s.heap.objs.size := by obtain ⟨_, e, _⟩ := hl; exact Heap.lt_size e
  refine call_function_tree F.kind_min F.plain_min F.entry_min (F.args_min1 _) (by
    show wpAny _ A.in1 (Builtin.Builtins.bindParams "min" ["key", "default"] 0 ⟨[], []⟩ >>= _) _ _ s
    refine wpAny_bind (wpAny_of_eq (show Builtin.Builtins.bindParams "min" ["key", "default"] 0 ⟨[], []⟩ = pure [none, none] from rfl) (wpAny_bind (wpAny_pure (wpAny_bind ?_))))
    refine wpAny_pyIter_list hl (wpAny_bind (wpAny_newObj_type ?_))
    rw [mn_name]
    have k1 : ∀ b o, s.heap.get? b = some o → (s.heap.push { cls := .type "list_iterator", data := .fields #[.ref l, .int 0 0] }).get? b = some o := fun b o e => Heap.get?_push_of_some _ e
    have sz : (s.heap.push { cls := .type "list_iterator", data := .fields #[.ref l, .int 0 0] }).objs.size = s.heap.objs.size + 1 := Heap.size_push ..
    have W := Walks.list (prog := prog) (w := w) (A := A.in1) hh s.heap.objs.size l (Nat.ne_of_lt ll) its
    refine wpAny_pure ⟨plainId_quiet F.plain_min_loop _, mn_first W bt (fun g g' og kp b o e => ?_) cmp ?_ hn ?_ (fun b o e => Heap.get?_push_of_some _ (k1 b o e)) (Heap.get?_push_size _ rfl) fun v g tk hv kp => ?_⟩
    · have lt := Heap.lt_size e
      exact kp b o (fun z => Nat.ne_of_lt lt (List.mem_singleton.mp z)) (Nat.ne_of_lt (by rw [sz]; exact Nat.lt_succ_of_lt lt)) (og b o e)
    · rw [sz]
      intro z
      rcases List.mem_cons.mp z with z | z
      · exact Nat.succ_ne_self _ z
      · exact Nat.ne_of_lt (Nat.lt_succ_of_lt ll) (List.mem_singleton.mp z).symm
    · exact W.frame 0 _ _ ⟨⟨_, Heap.get?_push_size _ rfl, rfl, rfl⟩, hl.push _⟩ fun b _ o e => Heap.get?_push_of_some _ e
    · refine h v g tk hv fun b o e => kp b o (fun z => ?_) ?_ (Heap.get?_push_of_some _ (k1 b o e))
      · exact Nat.ne_of_lt (Heap.lt_size e) (List.mem_singleton.mp z)
      · exact Nat.ne_of_lt (by rw [sz]; exact Nat.lt_succ_of_lt (Heap.lt_size e)))
end
section
variable {X : Cx} {Z : Zx}
theorem if_inv' {c : Prop} [Decidable c] {x : R PV} {r' : PV} (h : (if c then x else .bad) = .ok r') : c ∧ x = .ok r' := by
  split at h
  · rename_i q; exact ⟨q, h⟩
  · cases h
theorem best_fold (xs : List PV) : ∀ (k : Nat) (x : PV) (r : List PV), xs = x :: r → k ≤ r.length → xs[argBest (fun i j => ltD (xs[i]?.getD .non) (xs[j]?.getD .non)) k]? = some ((r.take k).foldl (fun a b => if ltD b a then b else a) x)
  | 0, x, r, e, _ => by subst e; rfl
  | k + 1, x, r, e, hk => by
    have ih := best_fold xs k x r e (by omega)
    have hx : xs[k + 1]? = some r[k] := by rw [e, List.getElem?_cons_succ, List.getElem?_eq_getElem (by omega)]
    rw [List.take_succ_eq_append_getElem (by omega), List.foldl_append]
    rw [argBest, ih, hx]
    show _ = some (if ltD r[k] _ then r[k] else _)
    simp only [Option.getD_some]
    split
    · rw [hx]
    · exact ih
theorem call_minP (hu : X.A.units + 65 < cLine) (hc : X.calm = true) : CallR X (.builtin "min") (rPn Z X.K (bi .min)) := by
  intro pins s σ H xs us Q I rv h
  obtain ⟨M, ps, r, ow, hx, hf, h⟩ := h
  have hf : minLP ps = .ok r := hf
  unfold minLP at hf
  split at hf
  · rename_i ys _
    cases ei : intsP ys with
    | some ns =>
      simp only [ei] at hf
      cases ns with
      | nil => cases hf
      | cons n ns =>
        cases hf
        obtain ⟨v, _, rfl, ⟨a, vs, rfl, h1, h2⟩, rfl⟩ := hx
        rw [ints_rep h2 ei] at h1
        refine cr_min hc pins s σ H _ us Q I rv ⟨a, _, rfl, SqL.of h1, by simp, fun m hm hle => ?_⟩
        rw [← foldl_min ns n m hle hm]
        exact h _ _ (Ext.refl H) rfl
    | none =>
      simp only [ei] at hf
      obtain ⟨hok, hf⟩ := if_inv' hf
      unfold srtOk at hok
      rw [Bool.and_eq_true, Bool.and_eq_true, Bool.and_eq_true] at hok
      obtain ⟨k1, k2, k3, k4⟩ := hok
      cases ys with
      | nil => cases hf
      | cons y ys =>
        cases hf
        obtain ⟨v, _, rfl, ⟨a, vs, rfl, h1, h2⟩, rfl⟩ := hx
        obtain ⟨u, rfl, ru⟩ := vals1 rv
        cases ru
        obtain ⟨its, rl, pl, hz⟩ := I.list (SqL.of (K := X.K) h1)
        have hlen : its.length = ys.length + 1 := by
          have := rl.length
          have := h2.length
          simp at this
          omega
        refine mn_call (its := its.toArray) (bt := fun i j => ltD ((y :: ys)[i]?.getD .non) ((y :: ys)[j]?.getD .non)) (I.ok.hd hc) pl.isList (by simp; omega) ?_ fun v g tk hv kp => ?_
        · intro i j x1 x2 s' Q' E' od p1 p2 q
          have e1 : its[i]? = some x1 := by simpa using p1
          have e2 : its[j]? = some x2 := by simpa using p2
          have g1 : i < (y :: ys).length := by have := (List.getElem?_eq_some_iff.mp e1).1; simp; omega
          have g2 : j < (y :: ys).length := by have := (List.getElem?_eq_some_iff.mp e2).1; simp; omega
          have rd : ∀ (i : Nat) (x : Value) (gi : i < (y :: ys).length), its[i]? = some x → ∃ as, Reads s'.heap x (toD (y :: ys)[i]) as ∧ (toD (y :: ys)[i]).depth ≤ 12 := fun i x gi e => by
            obtain ⟨w1, hw1, hw2⟩ := h2.get (List.getElem?_eq_getElem gi)
            obtain ⟨u', hu', ru'⟩ := rl.get hw1
            rw [e] at hu'
            cases hu'
            obtain ⟨_, dp, dd⟩ := fit_data 12 _ w1 (List.all_eq_true.mp k3 _ (List.getElem_mem gi)) (Rep.up ow hw2)
            obtain ⟨as, ra⟩ := Dp.reads I _ _ _ dd ru'
            exact ⟨as, PyProof.Rows.Reads.keeps od ra, dp⟩
          obtain ⟨as1, ra1, d1⟩ := rd i x1 g1 e1
          obtain ⟨as2, ra2, d2⟩ := rd j x2 g2 e2
          have al := alike_eq (List.all_eq_true.mp (List.all_eq_true.mp k2 _ (List.getElem_mem g1)) _ (List.getElem_mem g2))
          have nn : toD (y :: ys)[i] ≠ .none := by
            have := List.all_eq_true.mp k1 _ (List.getElem_mem g1)
            unfold neTup at this
            split at this
            · rename_i eq; rw [eq]; intro z; cases z
            · cases this
          dsimp only at q
          rw [List.getElem?_eq_getElem g1, List.getElem?_eq_getElem g2] at q
          simp only [Option.getD_some] at q
          rw [ltD_eq] at q
          have un : X.A.in1.units + min (toD (y :: ys)[i]).depth (toD (y :: ys)[j]).depth < cLine := by
            have : X.A.in1.units ≤ X.A.units + 1 := Nat.le_refl _
            omega
          exact PySem.W.lt_data ra1 ra2 al nn un q
        · have e1 : its[argBest (fun i j => ltD ((y :: ys)[i]?.getD .non) ((y :: ys)[j]?.getD .non)) ys.length]? = some v := by
            have e0 : its.toArray.size - 1 = ys.length := by simp; omega
            rw [e0] at hv
            simpa using hv
          have bf := best_fold (y :: ys) ys.length y ys rfl (Nat.le_refl _)
          rw [List.take_length] at bf
          obtain ⟨w1, hw1, hw2⟩ := h2.get bf
          obtain ⟨u', hu', ru'⟩ := rl.get hw1
          rw [e1] at hu'
          cases hu'
          exact ⟨w1, H, I.kept (t' := tk) kp, ru', h _ _ (Ext.refl H) hw2⟩
  · cases hf
end
end OS

end

section
set_option Elab.async false
set_option linter.all false
set_option maxRecDepth 100000
set_option maxHeartbeats 1000000
namespace OS
open PySem PySem.Spec PyProof.Rows L2 O
/-! ### a call whose callee does not see what the caller owns -/
section
variable {X : Cx} {pins : List (Addr × Obj)} {σ : L2.St} {H H' : Hp} {s s' : Shared} {M : List Addr}
theorem hok_hide {P : Program} {w : World} {h : Heap} (ow : Own H M) (k : HOk P w H h) : HOk P w (Hm H M) h := fun a o e => by
  obtain ⟨e1, e2⟩ := Hm.in e
  have nM : ∀ b u, H b = some u → (∀ xs, u ≠ .lst xs) → (∀ xs, u ≠ .dK xs) → b ∉ M := fun b u q n1 n2 hm => by
    rcases ow b hm with ⟨xs, z⟩ | ⟨xs, z⟩
    · rw [q] at z; exact n1 xs (Option.some.inj z)
    · rw [q] at z; exact n2 xs (Option.some.inj z)
  exact (k a o e1).stay (fun b u _ q => q) (fun b q => Hm.of q (nM b _ q (fun _ z => by cases z) (fun _ z => by cases z))) fun b xs q => Hm.of q (nM b _ q (fun _ z => by cases z) (fun _ z => by cases z))
theorem hm_keep (ow : Own H M) {b : Addr} {u : HO} (q : H b = some u) (n1 : ∀ xs, u ≠ .lst xs) (n2 : ∀ xs, u ≠ .dK xs) : Hm H M b = some u := Hm.of q fun hm => by
  rcases ow b hm with ⟨xs, z⟩ | ⟨xs, z⟩
  · rw [q] at z; exact n1 xs (Option.some.inj z)
  · rw [q] at z; exact n2 xs (Option.some.inj z)
theorem hm_none {b : Addr} (q : H b = none) : Hm H M b = none := by
  unfold Hm
  split
  · rfl
  · exact q
/-- the state without what is owned -/
theorem inv_hide (I : Inv X pins σ H s) (ow : Own H M) : Inv X pins σ (Hm H M) s :=
  ⟨I.ok, I.os, I.bare, ⟨I.base.keep, I.base.slot, fun b o e n hx => hm_none (I.base.free b o e n hx), I.base.there, fun b xs e => hm_keep ow (I.base.tups b xs e) (fun _ z => by cases z) (fun _ z => by cases z), fun b o u e => hm_keep ow (I.base.frzs b o u e) (fun _ z => by cases z) (fun _ z => by cases z),
    fun b ps e => by obtain ⟨m, z⟩ := I.base.tbls b ps e; exact ⟨m, hm_keep ow z (fun _ z => by cases z) (fun _ z => by cases z)⟩⟩,
    I.loc, I.cell, hm_none I.free, fun x c e => hm_none (I.freeC x c e), fun p hp => by obtain ⟨a, b, c⟩ := I.pin p hp; exact ⟨a, hm_none b, c⟩, hok_hide ow I.hok, I.len⟩
/-- behind a call: what is owned stands as it stood -/
def Hback (H : Hp) (M : List Addr) (H' : Hp) : Hp := fun a => if a ∈ M then H a else H' a
theorem call_back {Q : VK} {u : Value} (I : Inv X pins σ H s) (ow : Own H M) (h : CE X.stack X.prog X.w (Hm H M) s Q u s') :
    EP X pins σ (fun v H2 => ∃ H', H2 = Hback H M H' ∧ (∀ a ∈ M, H' a = none) ∧ Q v H') u s' := by
  obtain ⟨v, H', os, bare, un, hok, r, q⟩ := h
  have nM : ∀ a ∈ M, H' a = none := fun a ha => by
    obtain ⟨o, e⟩ : ∃ o, H a = some o := by
      rcases ow a ha with ⟨_, z⟩ | ⟨_, z⟩ <;> exact ⟨_, z⟩
    obtain ⟨ob, e2⟩ := objOk_get (I.hok a o e)
    exact un.free a ob e2 (by unfold Hm; rw [if_pos ha]) (by simp)
  have nS : ∀ a ∈ M, a ∉ frs X.stack := fun a ha hs => by
    have z := I.stkFree a hs
    rcases ow a ha with ⟨_, y⟩ | ⟨_, y⟩ <;> rw [z] at y <;> cases y
  have un2 : Un (frs X.stack) [] H (Hback H M H') s.heap s'.heap := by
    refine ⟨fun b o e n hb hx => un.keep b o e (hm_none n) hb hx, fun b o e n hb hx => un.slot b o e (hm_none n) hb hx, fun b o e n hx => ?_, un.there, fun b xs e => ?_, fun b o u e => ?_, fun b ps e => ?_⟩
    · unfold Hback
      split
      · exact n
      · exact un.free b o e (hm_none n) hx
    · have z := hm_keep ow e (fun _ z => by cases z) (fun _ z => by cases z)
      unfold Hback
      rw [if_neg (Hm.in z).2]
      exact un.tups b xs z
    · have z := hm_keep ow e (fun _ z => by cases z) (fun _ z => by cases z)
      unfold Hback
      rw [if_neg (Hm.in z).2]
      exact un.frzs b o u z
    · have z := hm_keep ow e (fun _ z => by cases z) (fun _ z => by cases z)
      unfold Hback
      rw [if_neg (Hm.in z).2]
      exact un.tbls b ps z
  have hok2 : HOk X.prog X.w (Hback H M H') s'.heap := fun a o e => by
    by_cases ha : a ∈ M
    · have e1 : H a = some o := by unfold Hback at e; rw [if_pos ha] at e; exact e
      have nt : (∃ xs, o = .lst xs) ∨ ∃ xs, o = .dK xs := by
        rcases ow a ha with ⟨xs, z⟩ | ⟨xs, z⟩
        · rw [e1] at z; exact .inl ⟨xs, Option.some.inj z⟩
        · rw [e1] at z; exact .inr ⟨xs, Option.some.inj z⟩
      have ok := I.hok a o e1
      have kp : ∀ u, s.heap.get? a = some u → s'.heap.get? a = some u := fun u z => un.keep a u z (by unfold Hm; rw [if_pos ha]) (nS a ha) (by simp)
      rcases nt with ⟨xs, rfl⟩ | ⟨xs, rfl⟩
      · obtain ⟨z, its, n, rv, e⟩ := ok
        exact ⟨z, its, n, rv, kp _ e⟩
      · obtain ⟨z, y, vs, rv, ob, es, ep, e, c⟩ := ok
        exact ⟨z, y, vs, rv, ob, es, ep, kp _ e, c⟩
    · have e1 : H' a = some o := by unfold Hback at e; rw [if_neg ha] at e; exact e
      have up : ∀ b u, H' b = some u → Hback H M H' b = some u := fun b u z => by
        unfold Hback
        split
        · rename_i hb
          rw [nM b hb] at z
          cases z
        · exact z
      exact (hok a o e1).stay (fun b u _ q => q) (fun b q => up b _ q) fun b xs q => up b _ q
  obtain ⟨hh, g, d, t, os'⟩ := s'
  obtain rfl : os' = s.os := os
  exact ⟨v, _, I.call (h' := hh) (g' := g) (d' := d) (t' := t) (ch := []) un2 hok2 bare (fun b z => absurd z (by simp)), r, H', rfl, nM, q⟩
theorem hback_hm (nM : ∀ a ∈ M, H' a = none) : Hm (Hback H M H') M = H' := by
  funext a
  unfold Hm Hback
  by_cases ha : a ∈ M
  · rw [if_pos ha, nM a ha]
  · rw [if_neg ha, if_neg ha]
theorem hback_ext {T : List (Addr × Str)} (ow : Own H M) (nM : ∀ a ∈ M, H' a = none) (e : Ext T (Hm H M) H') : Ext T H (Hback H M H') := by
  have ow2 : Own (Hback H M H') M := fun a ha => by
    unfold Hback
    rw [if_pos ha]
    exact ow a ha
  refine ⟨fun b o h n => ?_, fun t => ?_⟩
  · unfold Hback
    split
    · exact h
    · rename_i hb
      exact e.keep b o (Hm.of h hb) n
  · have z := e.tabs ((tabs_Hm ow).mpr t)
    rw [← hback_hm (H := H) nM] at z
    exact (tabs_Hm ow2).mp z
end

/-! ### a def's promise -/
/-- what a caller may count on: the result's tree; where w, the result is a tuple whose first item is a list of the caller's own -/
def Pf (Z : Zx) (K : PySem.W.Frag) (w : Bool) (H : Hp) (Q : VK) (E : XK) : R PV → Prop
  | .ok p => if w then (∃ xs qs, p = .tup (.lst xs :: qs)) ∧ ∀ t a ys vs H' xs qs, p = .tup (.lst xs :: qs) → H' a = some (.lst ys) → Ext Z.T H (Hm H' [a]) → SqT K H' t (.ref a :: vs) → RepL Z K (Hm H' [a]) xs ys → RepL Z K (Hm H' [a]) qs vs → Q (.ref t) H'
    else ∀ v H', Ext Z.T H H' → Rep Z K H' p v → Q v H'
  | .exc k => ∀ H', Ext Z.T H H' → E (.ref (Z.cad k)) none H'
  | .bad => False
def spOf (Z : Zx) (K : PySem.W.Frag) (n : Nat) (w : Bool) (f : List PV → R PV) : Sp := fun vs H Q E => vs.length = n ∧ LamX.Tabs Z.T H ∧ ∃ ps, RepL Z K H ps vs ∧ Pf Z K w H Q E (f ps)
/-- a def that may be called from X: its number, name, number of parameters -/
def CallOk (Z : Zx) (F : Fs) (X : Cx) (k : Nat) (x : Str) (n : Nat) (w : Bool) : Prop :=
  ∃ f fd ps lvl, FnOk X.prog X.w X.K X.mg X.base (L2N.CX X.prog X.w) lvl f fd ps (spOf Z X.K n w (F k)) ∧ Room lvl X.A ∧ X.mg x = some (.ref f) ∧ PySem.W.keepIn X.K (.ref f) = true ∧ L2.Binds X.K fd ps [] ∧ Z.fad k = f ∧ (w = true → ∀ qs p, F k qs = .ok p → ∃ xs rs, p = .tup (.lst xs :: rs))
section
variable {X : Cx} {Z : Zx} {F : Fs} {E : XK}
/-- the callee runs, by values -/
theorem run_call {k n : Nat} {x : Str} {w : Bool} {pins : List (Addr × Obj)} {σ : L2.St} {H : Hp} {s : Shared} {M : List Addr} {ps : List PV} {vs : List V} {us : List Value} {Q : VK}
    (C : CallOk Z F X k x n w) (hx : L2.Passes (L2N.CX X.prog X.w) X E) (I : Inv X pins σ H s) (ow : Own H M) (tb : LamX.Tabs Z.T H) (r : Vals vs us) (hl : vs.length = n) (hr : RepL Z X.K (Hm H M) ps vs)
    (h : Pf Z X.K w (Hm H M) (fun v H' => (∀ a ∈ M, H' a = none) → Q v (Hback H M H')) E (F k ps)) :
    wpAny (model X.prog X.w) X.A (call (.ref (Z.fad k)) us) (EP X pins σ Q) X.xe s := by
  obtain ⟨f, fd, pn, lvl, G, hroom, hm, hk, hb, rfl, _⟩ := C
  have I' := inv_hide I ow
  have sp : spOf Z X.K n w (F k) vs (Hm H M) (fun v H' => (∀ a ∈ M, H' a = none) → Q v (Hback H M H')) E := ⟨hl, (tabs_Hm ow).mpr tb, ps, hr, h⟩
  have hl2 : us.length = pn.length := by rw [← r.length]; exact G.len _ _ _ _ sp
  have b := hb s us I.kIn (by rw [List.append_nil]; exact hl2)
  rw [List.append_nil] at b
  refine wpAny_call (codeAny_mono (G.run X.A X.stack s (Hm H M) ⟨us, []⟩ us vs _ E hroom I'.env0 b r sp) fun rr s' hq => ?_)
  cases rr with
  | error e => exact hx pins σ (Hm H M) s e s' I' hq
  | ok fl =>
    cases fl with
    | ret u =>
      obtain ⟨v, H2, I2, rv, H', rfl, nM, q⟩ := call_back I ow hq
      exact ⟨v, _, I2, rv, q nM⟩
    | next => exact False.elim hq
    | brk => exact False.elim hq
    | cont => exact False.elim hq
/-- .. a plain result -/
theorem pf_of {w : Bool} {H : Hp} {M : List Addr} {Q : VK} {r : R PV} (ow : Own H M) (h : Pk Z X.K E M H Q r) (hw : w = true → ∀ p, r = .ok p → ∃ xs qs, p = .tup (.lst xs :: qs)) : Pf Z X.K w (Hm H M) (fun v H' => (∀ a ∈ M, H' a = none) → Q v (Hback H M H')) E r := by
  cases r with
  | bad => exact h
  | exc k => exact h
  | ok p =>
    have fin : ∀ v H', Ext Z.T (Hm H M) H' → Rep Z X.K H' p v → (∀ a ∈ M, H' a = none) → Q v (Hback H M H') := fun v H' e q nM => by
      refine h v _ (hback_ext ow nM e) ?_
      rw [hback_hm nM]
      exact q
    cases w with
    | false => exact fin
    | true =>
      refine ⟨hw rfl p rfl, fun t a ys vs H' xs qs ep ha' e st r1 r2 nM => ?_⟩
      have own1 : Own H' [a] := fun b hb => by
        have : b = a := by simpa using hb
        subst this
        exact .inl ⟨ys, ha'⟩
      refine fin _ _ ?_ ?_ nM
      · exact e.trans (Ext.unHm own1)
      · rw [ep]
        exact ⟨t, _, rfl, (SqQ.non st rfl), ⟨_, _, rfl, ⟨a, ys, rfl, ha', RepL.up own1 r1⟩, RepL.up own1 r2⟩⟩
end
end OS

end

section
set_option Elab.async false
set_option linter.all false
set_option maxRecDepth 100000
set_option maxHeartbeats 1000000
namespace OS
open PySem PySem.Spec PyProof.Rows L2 O
/-! ### the checker's context -/
structure FnI where
  num : Nat
  name : String
  ar : Nat
  ow : Bool := false
def fnAt (fns : List FnI) (k : Nat) : Option FnI := fns.find? fun f => decide (f.num = k)
structure Ck where
  sc : Scope
  N : List Str
  loc : Str → Bool
  calm : Bool
  calls : List Nat
  fns : List FnI
  globs : List (String × PV)
  excs : List (Nat × String) := []
  ow : Bool := false
  tr : Bool := false
  tabs : List (String × List (List Nat × List Nat)) := []
  lam : Bool := false
  /-- lambdas: this frame makes some; their texts; the names that they take; closures may be called; the def called with the exception in hand, and where -/
  mkr : Bool := false
  okl : Nat → Arguments → Scope → Expr → Bool := fun _ _ _ _ => false
  lN : Nat → List Str := fun _ => []
  clo : Bool := false
  ht : Option (Nat × String) := none
  hot : Option (Nat × String) := none
def oneArg (params : Arguments) (y : Str) : Bool := match params with | ⟨[], [⟨nm, _, _⟩], none, [], [], none, []⟩ => decide (nm = y) | _ => false
/-- lambda y: y[0] -/
def lamOk (params : Arguments) (scope : Scope) (y : Str) : Bool := oneArg params y && decide (y ∈ [Str.ofString "setting", Str.ofString "one"]) && (match scope.kind with | .function => true | _ => false) && !scope.isCoroutine && !scope.isGenerator && decide (scope.names = [(y, .local)])
def vis (sc : Scope) (x : Str) : Bool := match sc.names.lookup x with
  | some .local => true | some .cell => true | some .free => true | _ => false
theorem vis_ok {sc : Scope} {x : Str} (h : vis sc x = true) : Vis sc x := by
  unfold vis at h
  split at h
  · exact .inl (by assumption)
  · exact .inr (.inl (by assumption))
  · exact .inr (.inr (by assumption))
  · cases h
def glb (sc : Scope) (x : Str) : Bool := decide (sc.names.lookup x = some .globalImplicit)
def plainN (x : Str) : Bool := !(x == ("__debug__" : Str)) && !(x == ("__classdict__" : Str)) && decide (x ≠ "__name__")
theorem plainN_ok {x : Str} (h : plainN x = true) : (x == ("__debug__" : Str)) = false ∧ (x == ("__classdict__" : Str)) = false ∧ x ≠ "__name__" := by
  unfold plainN at h
  rw [Bool.and_eq_true, Bool.and_eq_true, decide_eq_true_eq] at h
  obtain ⟨⟨h1, h2⟩, h3⟩ := h
  exact ⟨by simpa using h1, by simpa using h2, h3⟩
def slotOk (c : Ck) (i : Nat) (x : Str) : Bool := decide (c.N[i]? = some x) && vis c.sc x && plainN x
mutual
/-- the same tree -/
def same : PV → PV → Bool
  | .non, .non => true
  | .bl a, .bl b => decide (a = b)
  | .int a, .int b => decide (a = b)
  | .str a, .str b => decide (a = b)
  | .tup a, .tup b => sameL a b
  | .lst a, .lst b => sameL a b
  | _, _ => false
def sameL : List PV → List PV → Bool
  | [], [] => true
  | a :: as, b :: bs => same a b && sameL as bs
  | _, _ => false
end
mutual
theorem same_eq : ∀ {p q : PV}, same p q = true → p = q
  | .non, q, h => by cases q <;> first | rfl | cases h
  | .bl a, q, h => by cases q <;> first | exact congrArg _ (of_decide_eq_true h) | cases h
  | .int a, q, h => by cases q <;> first | exact congrArg _ (of_decide_eq_true h) | cases h
  | .str a, q, h => by cases q <;> first | exact congrArg _ (of_decide_eq_true h) | cases h
  | .tup a, q, h => by cases q <;> first | exact congrArg _ (sameL_eq h) | cases h
  | .lst a, q, h => by cases q <;> first | exact congrArg _ (sameL_eq h) | cases h
  | .fn _, q, h => by cases q <;> cases h
  | .exc _, q, h => by cases q <;> cases h
  | .scr _, q, h => by cases q <;> cases h
  | .clo _ _, q, h => by cases q <;> cases h
  | .lam _ _, q, h => by cases q <;> cases h
  | .obj _, q, h => by cases q <;> cases h
theorem sameL_eq : ∀ {p q : List PV}, sameL p q = true → p = q
  | [], [], _ => rfl
  | [], _ :: _, h => by cases h
  | _ :: _, [], h => by cases h
  | a :: as, b :: bs, h => by
    have h : (same a b && sameL as bs) = true := h
    rw [Bool.and_eq_true] at h
    rw [same_eq h.1, sameL_eq h.2]
end
def conOk : PV → Const → Bool
  | .non, .none => true
  | .bl a, .bool b => decide (a = b)
  | .int a, .int b => decide (a = b)
  | .str a, .str b => decide (b = cps a) && a.all fun c => decide (c < 1114112)
  | _, _ => false
def globOk (c : Ck) (x : String) (p : PV) : Bool := c.globs.any fun g => decide (g.1 = x) && same g.2 p
def fnOk (c : Ck) (k : Nat) (x : Str) (n : Nat) : Bool := decide (k ∈ c.calls) && (match fnAt c.fns k with
  | some f => decide (Str.ofString f.name = x) && decide (f.ar = n)
  | none => false) && glb c.sc x && plainN x
/-- built-in functions and types by their names -/
def biName : Bi → String
  | .len => "len" | .all => "all" | .any => "any" | .tup => "tuple" | .lst => "list" | .srt => "sorted" | .sum => "sum" | .min => "min" | .max => "max" | .max2 => "max" | .int1 => "int" | .isi _ => "isinstance"
def biCalm : Bi → Bool
  | .all => true | .any => true | .sum => true | .max2 => true | .srt => true | .min => true | .max => true | _ => false
/-- served so far -/
def biIs : Bi → Bool
  | .len => true | .all => true | .any => true | .tup => true | .lst => true | .sum => true | .max2 => true | .int1 => true | .srt => true | .min => true | .max => true | _ => false
def mtName : Mt → String
  | .join => "join" | .startswith => "startswith" | .partition => "partition" | .lstrip => "lstrip" | .split => "split" | .count => "count" | .index => "index" | .sindex => "index"
def mtIs : Mt → Bool
  | .join => true | .index => true | .count => true | .startswith => true | .partition => true | .lstrip => true | .split => true | .sindex => true
def tgOk (c : Ck) : Tg → Expr → Bool
  | .one i, .Name x _ => decide (c.N[i]? = some x) && (match c.sc.names.lookup x with | some .local => true | some .cell => c.loc x | _ => false)
  | .tup is, .Tuple es _ _ => c.calm && decide (is.length = es.length) && (is.zip es).all fun q => (match q.2 with
    | .Name x _ => decide (c.N[q.1]? = some x) && (match c.sc.names.lookup x with | some .local => true | some .cell => c.loc x | _ => false)
    | _ => false)
  | _, _ => false
def tgSlots : Tg → List Nat
  | .one i => [i]
  | .tup is => is
def blkCk (c : Ck) (scope : Scope) : Ck := { c with sc := relS scope c.sc, loc := fun x => scope.names.lookup x == some .cell, lam := false, mkr := false, hot := none }
/-- within a lambda without parameters -/
def lamCk (c : Ck) (scope : Scope) (N : List Str) : Ck := { c with sc := scope, N := N, loc := fun _ => false, lam := false, mkr := false, tr := false, ow := false, clo := false, hot := none, ht := none }
def noPar (params : Arguments) : Bool := match params with | ⟨[], [], none, [], [], none, []⟩ => true | _ => false
/-- lambda: .. as number k, taking the slots -/
def lmOk (c : Ck) (k : Nat) (is : List Nat) (params : Arguments) (body : Expr) (scope : Scope) : Bool :=
  c.mkr && noPar params && LamX.lamSB c.sc scope && c.okl k params scope body && decide (is.length = (c.lN k).length) && ((c.lN k).zip is).all (fun y => decide (c.N[y.2]? = some y.1) && decide (scope.names.lookup y.1 = some .free)) && scope.names.all fun y => !decide (y.2 = .free) || decide (y.1 ∈ c.lN k)
/-- the block's own names with their slots -/
def ownOf (c : Ck) (is : List Nat) : List (Str × Nat) := is.filterMap fun i => (c.N[i]?).map fun x => (x, i)
def noSlice : Expr → Bool
  | .Slice .. => false
  | _ => true
def noIte : Expr → Bool
  | .IfExp .. => false
  | _ => true
def gname (c : Ck) (s : String) (x : Str) : Bool := decide (x = Str.ofString s) && glb c.sc x && plainN x
/-- what is walked: the expressions that it hangs on -/
def iterArgs (c : Ck) : IK → Expr → Expr → Option (List Expr)
  | .val, _, a => (match a with | .Set .. => none | a => some [a])
  | .rng1, _, .Call (.Name x _) [a] [] _ => if gname c "range" x then some [a] else none
  | .rng2, _, .Call (.Name x _) [a, b] [] _ => if gname c "range" x then some [a, b] else none
  | .zip, .Tuple .., .Call (.Name x _) [a, b] [] _ => if gname c "zip" x then some [a, b] else none
  | .enum, .Tuple .., .Call (.Name x _) [a] [] _ => if gname c "enumerate" x then some [a] else none
  | _, _, _ => none
/-- a call of a built-in: the expressions that are handed to it -/
def biArgs (c : Ck) (b : Bi) (x : Str) (as : List Expr) : Option (List Expr) := match b with
  | .isi t => (match as with
    | [a, .Name y _] => if gname c (tyName t) y && gname c "isinstance" x then some [a] else none
    | _ => none)
  | b => if biIs b && (!biCalm b || c.calm) && gname c (biName b) x && !as.isEmpty then some as else none
/-- not an owned thing itself -/
def fz : Ex → Bool
  | .bor _ => false
  | _ => true
def excOk (c : Ck) (k : Nat) (x : Str) : Bool := (match excAt c.excs k with | some y => decide (Str.ofString y = x) | none => false) && glb c.sc x && plainN x
/-- the name of a def, as a value -/
def fnNm (c : Ck) (k : Nat) (x : Str) : Bool := decide (k ∈ c.calls) && (match fnAt c.fns k with
  | some f => decide (Str.ofString f.name = x)
  | none => false) && glb c.sc x && plainN x
/-- defs alone, of so many parameters -/
def fnsOnly (c : Ck) (n : Nat) : Ex → Bool
  | .idx (.lst fs) _ => fs.all fun f => (match f with | .fnC k => decide (k ∈ c.calls) && (match fnAt c.fns k with | some f => decide (f.ar = n) | none => false) | _ => false)
  | _ => false
def noSet : Expr → Bool
  | .Set .. => false
  | _ => true
/-- a name of one's own -/
def nmTg (c : Ck) (i : Nat) (x : Str) : Bool := decide (c.N[i]? = some x) && (match c.sc.names.lookup x with | some .local => true | some .cell => c.loc x | _ => false)
/-- part() for part -/
def cmpM (c : Ck) (j : Nat) : Expr → Expr → List Expr → Bool
  | .Call (.Name x _) [] [] _, .Name y _, [] => nmTg c j y && slotOk c j x
  | _, _, _ => false
/-- word for word, met .. if met -/
def cmpH (c : Ck) (j1 j2 : Nat) : Expr → Expr → List Expr → Bool
  | .Name x _, .Tuple [.Name y _, .Name z _] _ _, [.Name t _] => nmTg c j1 y && nmTg c j2 z && slotOk c j1 x && slotOk c j2 t
  | _, _, _ => false
mutual
def okE (c : Ck) : Ex → Expr → Bool
  | .var i, .Name x _ => slotOk c i x
  | .bor i, .Name x _ => slotOk c i x
  | .con p, .Constant k _ _ => conOk p k
  | .glob x p, .Name y _ => gname c x y && globOk c x p
  | .tup es, .Tuple as _ _ => okL false c es as && decide (es.length ≤ 1000)
  | .lst es, .List as _ => okL false c es as && decide (es.length ≤ 1000)
  | .bin p a b, .BinOp l op r _ => decide (op = astB p) && okE c a l && okE c b r
  | .neg a, .UnaryOp .USub e _ => okE c a e
  | .cmp p a b, .Compare l [op] [r] _ => decide (op = astC p) && okE c a l && okE c b r && !behindInMarks op r
  | .chain o1 o2 a b d, .Compare l [op1, op2] [m, r] _ => decide (op1 = astC o1) && decide (op2 = astC o2) && okE c a l && okE c b m && okE c d r && !lastMarks [op1, op2] [m, r]
  | .isC pos k a, .Compare l [op] [.Constant q _ _] _ => decide (op = if pos then .Is else .IsNot) && okE c a l && (match k with | .non => true | .bl _ => true | _ => false) && conOk k q
  | .band es, .BoolOp .And as _ => okL false c es as && !es.isEmpty && as.all noIte
  | .bor_ es, .BoolOp .Or as _ => okL false c es as && !es.isEmpty && as.all noIte
  | .not a, .UnaryOp .Not e _ => (fz a && okE c a e) && noIte e
  | .ite t a b, .IfExp t' a' b' _ => (fz t && okE c t t') && noIte t' && (fz a && okE c a a') && (fz b && okE c b b')
  | .idx a i, .Subscript v s _ => okE c a v && okE c i s && noSlice s
  | .cut a lo hi, .Subscript v (.Slice lo' hi' none _) _ => okE c a v && okP c lo lo' && okP c hi hi'
  | .rev a, .Subscript v (.Slice none none (some (.UnaryOp .USub (.Constant (.int i) _ _) _)) _) _ => decide (i = 1) && okE c a v
  | .call k es, .Call (.Name x _) as [] _ => fnOk c k x es.length && okL false c es as
  | .bi b es, .Call (.Name x _) as [] _ => (match biArgs c b x as with | some as => okL true c es as | none => false)
  | .mt m q es, .Call (.Attribute oe name apos) as [] cpos => mtIs m && decide (name = Str.ofString (mtName m)) && okE c q oe && okL true c es as && !es.isEmpty && decide (es.length < 20) && (apos.endLine == cpos.line) && (match oe with | .Call .. => false | _ => true)
  | .compM j e, .ListComp elt' [⟨tg', iter, ifs', 0⟩] scope _ => c.calm && c.mkr && c.clo && okE c e iter && noSet iter && blkC c.N c.sc scope (ownOf c [j]) && cmpM (blkCk c scope) j elt' tg' ifs'
  | .compH j1 j2 e, .ListComp elt' [⟨tg', iter, ifs', 0⟩] scope _ => okE c e iter && noSet iter && blkC c.N c.sc scope (ownOf c [j1, j2]) && decide (j1 ≠ j2) && cmpH (blkCk c scope) j1 j2 elt' tg' ifs'
  | .comp elt tg ik ies ifs, .ListComp elt' [⟨tg', iter, ifs', 0⟩] scope _ => c.calm && (match iterArgs c ik tg' iter with | some as => okL true c ies as | none => false) && tgOk (blkCk c scope) tg tg' && blkC c.N c.sc scope (ownOf c (tgSlots tg))
      && okL false (blkCk c scope) ifs ifs' && ifs'.all noIte && decide (ifs.length ≤ 1) && (fz elt && okE (blkCk c scope) elt elt')
  | .isX i k, .Call (.Name y _) [.Name x _, .Name z _] [] _ => gname c "isinstance" y && slotOk c i x && excOk c k z
  | .fnC k, .Name x _ => fnNm c k x
  | .isV i, .Call (.Name y _) [.Name x _, .Name z _] [] _ => gname c "isinstance" y && slotOk c i x && gname c "ValueError" z
  | .lam k is, .Lambda params body scope _ => c.lam && lmOk c k is params body scope
  | .callC i, .Call (.Name x _) [] [] _ => c.clo && slotOk c i x
  | .callL k es, .Call (.Name x _) as [] _ => c.mkr && fnOk c k x es.length && (match fnAt c.fns k with | some f => !f.ow | none => false) && okL false c es as && !es.isEmpty
  | .callS k i es, .Call (.Name x _) (.Name y _ :: as) [] _ => c.mkr && fnOk c k x (es.length + 1) && (match fnAt c.fns k with | some f => !f.ow | none => false) && slotOk c i y && okL false c es as
  | .hot k i, .Call (.Name x _) [.Name y _] [] _ => (match c.hot with | some h => decide (h.1 = k) && decide (Str.ofString h.2 = x) | none => false) && glb c.sc x && plainN x && slotOk c i y
  | .srtKeys i, .Call (.Name x _) [.Name y _] [] _ => c.calm && gname c "sorted" x && slotOk c i y
  | .dget i k, .Call (.Attribute (.Name y _) nm apos) [a] [] cpos => decide (nm = Str.ofString "get") && slotOk c i y && okE c k a && (apos.endLine == cpos.line)
  | .dgetD i k d, .Call (.Attribute (.Name y _) nm apos) [a, b] [] cpos => decide (nm = Str.ofString "get") && slotOk c i y && okE c k a && (fz d && okE c d b) && (apos.endLine == cpos.line)
  | .dix i k, .Subscript (.Name y _) s _ => slotOk c i y && okE c k s && noSlice s
  | .din i k, .Compare l [op] [.Name y q] _ => decide (op = .In) && slotOk c i y && okE c k l && !behindInMarks .In (.Name y q)
  | .gix x kvs k, .Subscript (.Name y _) s _ => gname c x y && decide ((x, kvs) ∈ c.tabs) && okE c k s && noSlice s
  | .srtSet a, .Call (.Name x _) [.Call (.Name y _) [e] [] _] [] _ => c.calm && gname c "sorted" x && gname c "set" y && okE c a e
  | .lenSet a, .Call (.Name x _) [.Call (.Name y _) [e] [] _] [] _ => c.calm && gname c "len" x && gname c "set" y && okE c a e
  | .lenSetT a, .Call (.Name x _) [.Call (.Name y _) [e] [] _] [] _ => c.calm && gname c "len" x && gname c "set" y && okE c a e
  | .tupZip a b, .Call (.Name x _) [.Call (.Name y _) [e1, e2] [] _] [] _ => c.calm && gname c "tuple" x && gname c "zip" y && okE c a e1 && okE c b e2
  | .srtItems i, .Call (.Name x _) [.Call (.Attribute (.Name y _) nm apos) [] [] cpos] [] _ => c.calm && gname c "sorted" x && decide (nm = Str.ofString "items") && slotOk c i y && (apos.endLine == cpos.line)
  | .srtKey0 a, .Call (.Name x _) [e] [⟨some kw, .Lambda params (.Subscript (.Name y _) (.Constant (.int k) _ _) _) scope _, _⟩] _ => c.calm && c.lam && gname c "sorted" x && okE c a e && decide (kw = Str.ofString "key") && decide (k = 0) && lamOk params scope y
  | .callV f es, .Call (.Subscript v s p) as [] _ => okE c f (.Subscript v s p) && fnsOnly c es.length f && okL false c es as && !es.isEmpty
  | _, _ => false
def okL (o : Bool) (c : Ck) : List Ex → List Expr → Bool
  | [], [] => true
  | e :: es, a :: as => (o || fz e) && okE c e a && okL o c es as
  | _, _ => false
def okP (c : Ck) : Option Ex → Option Expr → Bool
  | none, none => true
  | some e, some a => okE c e a
  | _, _ => false
end
/-- a closure is called: the cells that it took are not tracked -/
def CloK (P : Program) (w : World) (K : PySem.W.Frag) (mg : Str → Option Value) (base : Heap) (Z : Zx) (F : Fs) (lvl k : Nat) : Prop :=
  ∀ (A : Around) (outer : List Env) (s : Shared) (H : Hp) (f : Addr) (q : Str) (params : Arguments) (body : Expr) (scope : Scope) (cl : List (Str × Addr)) (pm ctv : Value) (c' : Addr) (vs : List V) (ps : List PV) (Q : VK) (E : XK),
    Room lvl A → Env0 P w K mg base A outer s H → s.heap.get? f = some (PySem.W.kla_obj "<lambda>" q params body scope cl pm c' ctv) → H c' = some (LamX.CodeO c' q) → Z.okl k params scope body = true →
    (∀ x y c, cl.lookup x = some c → cl.lookup y = some c → x = y) → (∀ y, scope.names.lookup y = some .free → ∃ c, cl.lookup y = some c) → (∀ x c, cl.lookup x = some c → H c = none ∧ ∃ v, s.heap.IsCell c v) →
    vs.length = (Z.lN k).length → (∀ (i : Nat) (x : Str) (v : V), (Z.lN k)[i]? = some x → vs[i]? = some v → ∃ c u, cl.lookup x = some c ∧ s.heap.IsCell c (some u) ∧ RelV v u) →
    LamX.Tabs Z.T H → RepL Z K H ps vs → Pf Z K false H Q E (F k ps) → codeAny (model P w) A (.call (.ref f) ⟨[], []⟩) (CR (L2N.CX P w) outer P w H s Q E) s
def CloRule (Z : Zx) (F : Fs) (X : Cx) : Prop := ∃ lvl, Room lvl X.A ∧ ∀ k, CloK X.prog X.w X.K X.mg X.base Z F lvl k
/-- a def called with the exception in hand, within an except suite -/
def HotRule (Z : Zx) (F : Fs) (X : Cx) (E : XK) (k : Nat) (nm : String) : Prop :=
  ∀ (i : Nat) (y : Str) (p1 p2 p3 : Pos), Gl X (Str.ofString nm) → X.N[i]? = some y → Vis X.env.scope y → (y == ("__debug__" : Str)) = false → (y == ("__classdict__" : Str)) = false → (Str.ofString nm == ("__debug__" : Str)) = false →
    PE X (.Call (.Name (Str.ofString nm) p1) [.Name y p2] [] p3) (tM Z X.K E (fun ρ => match ρ[i]? with | some (.v (.exc j)) => strR (F k [.exc j]) | _ => .bad))
/-- where the checked code runs -/
structure Cxt (Z : Zx) (F : Fs) (c : Ck) (X : Cx) (E : XK) : Prop where
  sc : X.env.scope = c.sc
  N : X.N = c.N
  nd : X.N.Nodup
  loc : ∀ x, c.loc x = true → X.fn x = true
  calm : c.calm = true → X.calm = true
  un : X.A.units + 100 < cLine
  dep : X.A.depth < recursionLimit
  lam : c.lam = true → ∃ cc P, LamX.TabB X.base X.mg cc P ∧ X.env.code = .ref cc ∧ (P, X.env.qual ++ "<lambda>") ∈ Z.T ∧ ∀ p ∈ Z.T, p.1 = P → p.2 = X.env.qual ++ "<lambda>"
  glob : ∀ g ∈ c.globs, ∃ u v, X.mg (Str.ofString g.1) = some u ∧ RelV v u ∧ ∀ H, Rep Z X.K H g.2 v
  free : ∀ x : String, x ∈ ["len", "all", "any", "tuple", "list", "sorted", "sum", "min", "max", "int", "isinstance", "str", "bool", "range", "zip", "enumerate", "set", "dict", "ValueError"] → X.mg (Str.ofString x) = none
  call : ∀ k ∈ c.calls, ∀ f, fnAt c.fns k = some f → CallOk Z F X k (Str.ofString f.name) f.ar f.ow
  pass : L2.Passes (L2N.CX X.prog X.w) X E
  tabs : ∀ t ∈ c.tabs, ∃ d es n, X.mg (Str.ofString t.1) = some (.ref d) ∧ KDict X.K X.w d es n ∧ ∀ q ∈ t.2, okS q.2 ∧ ∃ u, PySem.W.nsIn X.K d (cps q.1) = some (some u) ∧ RelV (.str (cps q.2)) u
  cxa : c.calm = true → Z.xa = none
  isx : ∀ a k, Z.xa = some (a, k) → CallR X (.builtin "isinstance") (rIsE X.K (Z.cad k) a) ∧ PySem.W.kitOne X.K (.ref (Z.cad k)) (.type "ValueError") = some true ∧ ∀ j x, excAt c.excs j = some x → X.mg (Str.ofString x) = some (.ref (Z.cad j)) ∧ PySem.W.kitOne X.K (.ref (Z.cad k)) (.ref (Z.cad j)) = some (subX k j)
  mkr : c.mkr = true → Z.fc = X.env.cells ∧ Z.fN = X.N ∧ Z.fS = some X.env.scope ∧ ∀ x, X.fn x = true
  okl : c.mkr = true → c.okl = Z.okl ∧ c.lN = Z.lN
  clo : c.clo = true → CloRule Z F X
  hotx : c.calm = true ∨ L2H.HotC X
  hotr : ∀ k nm, c.hot = some (k, nm) → HotRule Z F X E k nm
end OS

end

section
set_option Elab.async false
set_option linter.all false
set_option maxRecDepth 100000
set_option maxHeartbeats 1000000
namespace OS
open PySem PySem.Spec PyProof.Rows L2 O
/-! ### forms -/
theorem star_of {c : Ck} {ir : Ex} {e : Expr} (h : okE c ir e = true) (es : List Expr) (env : Env) : starEach (e :: es) env = (false, eval e env) :: starEach es env := by
  cases e with
  | Starred v p =>
    exfalso
    unfold okE at h
    split at h <;> first | contradiction | cases h
  | _ => rfl
theorem okL_cons {o : Bool} {c : Ck} {ir : Ex} {irs : List Ex} {e : Expr} {es : List Expr} (h : okL o c (ir :: irs) (e :: es) = true) : (o || fz ir) = true ∧ okE c ir e = true ∧ okL o c irs es = true := by
  unfold okL at h
  rw [Bool.and_eq_true, Bool.and_eq_true] at h
  exact ⟨h.1.1, h.1.2, h.2⟩
theorem okL_shape {o : Bool} {c : Ck} {irs : List Ex} {es : List Expr} (h : okL o c irs es = true) : irs.length = es.length := by
  induction irs generalizing es with
  | nil =>
    cases es with
    | nil => rfl
    | cons e es => unfold okL at h; cases h
  | cons ir irs ih =>
    cases es with
    | nil => unfold okL at h; cases h
    | cons e es => rw [List.length_cons, List.length_cons, ih (okL_cons h).2.2]
theorem stars_of {o : Bool} {c : Ck} {pos : Pos} {env : Env} : ∀ {irs : List Ex} {es : List Expr}, okL o c irs es = true → (backTo pos (starEach es env)).any (·.1) = false
  | [], [], _ => rfl
  | [], _ :: _, h => by have := okL_shape h; simp at this
  | _ :: _, [], h => by have := okL_shape h; simp at this
  | ir :: irs, e :: es, h => by
    obtain ⟨_, h1, h2⟩ := okL_cons h
    rw [star_of h1]
    show (false || (backTo pos (starEach es env)).any (·.1)) = false
    rw [stars_of h2]
    rfl
theorem evs_len {F : Fs} : ∀ {es : List Ex} {r : O.St} {ps : List PV}, evs F es r = .ok ps → ps.length = es.length
  | [], r, ps, h => by simp only [evs] at h; cases h; rfl
  | e :: es, r, ps, h => by
    simp only [evs] at h
    cases q : ev F e r with
    | ok p =>
      rw [q] at h
      cases q2 : evs F es r with
      | ok qs =>
        simp only [R.bind_ok, q2] at h
        cases h
        rw [List.length_cons, List.length_cons, evs_len q2]
      | exc k => simp only [R.bind_ok, q2] at h; cases h
      | bad => simp only [R.bind_ok, q2] at h; cases h
    | exc k => rw [q] at h; cases h
    | bad => rw [q] at h; cases h
def plainT : Ex → Bool
  | .cmp .. => false | .chain .. => false | .isC .. => false | .band _ => false | .bor_ _ => false | .not _ => false | .ite .. => false | .din .. => false | _ => true
theorem plain_of {ir : Ex} {c : Ck} {e : Expr} {env : Env} (h : okE c ir e = true) (k : plainT ir = true) :
    ∀ whole, isTrue e env whole = (do let v ← whole; standAt e.pos; holding [v] (truthy v)) := by
  intro whole
  unfold okE at h
  split at h <;> first | cases h | exact absurd k Bool.false_ne_true | rfl
section
variable {Z : Zx} {F : Fs} {X : Cx} {E : XK} {c : Ck}
theorem gl_of (C : Cxt Z F c X E) {x : Str} (h : glb c.sc x = true) : Gl X x := by
  unfold Gl Env.kindOf
  rw [C.sc]
  exact of_decide_eq_true h
theorem gname_ok (C : Cxt Z F c X E) {s : String} {x : Str} (h : gname c s x = true) : x = Str.ofString s ∧ Gl X x ∧ (x == ("__debug__" : Str)) = false ∧ x ≠ "__name__" := by
  unfold gname at h
  rw [Bool.and_eq_true, Bool.and_eq_true, decide_eq_true_eq] at h
  obtain ⟨⟨h1, h2⟩, h3⟩ := h
  exact ⟨h1, gl_of C h2, (plainN_ok h3).1, (plainN_ok h3).2.2⟩
theorem snd_var (C : Cxt Z F c X E) {i : Nat} {x : Str} {pos : Pos} (h : slotOk c i x = true) : PE X (.Name x pos) (tVar i) := by
  unfold slotOk at h
  rw [Bool.and_eq_true, Bool.and_eq_true, decide_eq_true_eq] at h
  obtain ⟨⟨h1, h2⟩, h3⟩ := h
  refine pe_var (by rw [C.N]; exact h1) ?_ (plainN_ok h3).1 (plainN_ok h3).2.1
  rw [C.sc]
  exact vis_ok h2
theorem con_sound {p : PV} {k : Const} {j : Nat} {pos : Pos} (h : conOk p k = true) : PE X (.Constant k j pos) (tM Z X.K E fun _ => .ok p) := by
  unfold conOk at h
  split at h
  · exact PE.imp pe_non fun σ H Q ⟨ρ, M, s, q⟩ => q _ _ (Ext.refl H) rfl
  · cases of_decide_eq_true h
    exact PE.imp pe_bl fun σ H Q ⟨ρ, M, s, q⟩ => q _ _ (Ext.refl H) rfl
  · cases of_decide_eq_true h
    exact PE.imp pe_int fun σ H Q ⟨ρ, M, s, q⟩ => q _ _ (Ext.refl H) rfl
  · rw [Bool.and_eq_true, decide_eq_true_eq] at h
    obtain ⟨rfl, h2⟩ := h
    refine PE.imp pe_str fun σ H Q ⟨ρ, M, s, q⟩ => q _ _ (Ext.refl H) ⟨rfl, fun d hd => ?_⟩
    exact of_decide_eq_true (List.all_eq_true.mp h2 d hd)
  · cases h
/-- frozen arguments -/
theorem args_sound (C : Cxt Z F c X E) : ∀ {irs : List Ex} {es : List Expr}, okL false c irs es = true → (∀ ir ∈ irs, ∀ e, fz ir = true → okE c ir e = true → PE X e (tM Z X.K E (ev F ir))) → PA X es (tL Z X.K E (evs F irs))
  | [], [], _, _ => PA.imp pa_nil fun σ H Q ⟨ρ, M, s, q⟩ => by
      have q : PkL Z X.K E M H Q (.ok []) := by simpa [evs] using q
      exact q [] H (Ext.refl H) rfl
  | [], _ :: _, h, _ => by have := okL_shape h; simp at this
  | _ :: _, [], h, _ => by have := okL_shape h; simp at this
  | ir :: irs, e :: es, h, ih => by
    obtain ⟨h0, h1, h2⟩ := okL_cons h
    refine PA.imp (pa_cons (ih ir (by simp) e h0 h1) (args_sound C h2 fun ir hm => ih ir (List.mem_cons_of_mem _ hm)) (star_of h1 _ _)) fun σ H Q ⟨ρ, M, s, q⟩ => ?_
    refine ⟨ρ, M, s, ?_⟩
    simp only [evs] at q
    cases ea : ev F ir ρ with
    | bad => rw [ea] at q; exact q
    | exc k => rw [ea] at q; exact q
    | ok p =>
      rw [ea] at q
      intro x H1 e1 w1
      refine ⟨ρ, M, s.go e1, ?_⟩
      simp only [R.bind_ok] at q
      cases eb : evs F irs ρ with
      | bad => rw [eb] at q; exact q
      | exc k => rw [eb] at q; exact fun H2 e2 => q H2 ((e1.Hm s.own).trans e2)
      | ok ps =>
        rw [eb] at q
        intro xs H2 e2 w2
        exact q _ H2 (e1.trans e2) ⟨x, xs, rfl, Rep.go (e2.Hm (s.own.go e1)) w1, w2⟩
end
/-- arguments that are only read -/
def PwL (Z : Zx) (K : PySem.W.Frag) (E : XK) (M : List Addr) (H : Hp) (Q : List V → Hp → Prop) : R (List PV) → Prop
  | .ok p => ∀ v H', Ext Z.T H H' → VwL Z K M H' p v → Q v H'
  | .exc k => ∀ H', Ext Z.T (Hm H M) H' → E (.ref (Z.cad k)) none H'
  | .bad => False
def tLw (Z : Zx) (K : PySem.W.Frag) (E : XK) (m : O.St → R (List PV)) : TA := fun σ H Q => ∃ ρ M, SR Z K M H σ ρ ∧ PwL Z K E M H Q (m ρ)
section
variable {Z : Zx} {F : Fs} {X : Cx} {E : XK} {c : Ck}
theorem argsw_sound (C : Cxt Z F c X E) : ∀ {irs : List Ex} {es : List Expr}, okL true c irs es = true → (∀ ir ∈ irs, ∀ e, okE c ir e = true → PE X e (tO Z X.K E (ev F ir))) → PA X es (tLw Z X.K E (evs F irs))
  | [], [], _, _ => PA.imp pa_nil fun σ H Q ⟨ρ, M, s, q⟩ => by
      have q : PwL Z X.K E M H Q (.ok []) := by simpa [evs] using q
      exact q [] H (Ext.refl H) rfl
  | [], _ :: _, h, _ => by have := okL_shape h; simp at this
  | _ :: _, [], h, _ => by have := okL_shape h; simp at this
  | ir :: irs, e :: es, h, ih => by
    obtain ⟨h0, h1, h2⟩ := okL_cons h
    refine PA.imp (pa_cons (ih ir (by simp) e h1) (argsw_sound C h2 fun ir hm => ih ir (List.mem_cons_of_mem _ hm)) (star_of h1 _ _)) fun σ H Q ⟨ρ, M, s, q⟩ => ?_
    refine ⟨ρ, M, s, ?_⟩
    simp only [evs] at q
    cases ea : ev F ir ρ with
    | bad => rw [ea] at q; exact q
    | exc k => rw [ea] at q; exact q
    | ok p =>
      rw [ea] at q
      intro x H1 e1 w1
      refine ⟨ρ, M, s.go e1, ?_⟩
      simp only [R.bind_ok] at q
      cases eb : evs F irs ρ with
      | bad => rw [eb] at q; exact q
      | exc k => rw [eb] at q; exact fun H2 e2 => q H2 ((e1.Hm s.own).trans e2)
      | ok ps =>
        rw [eb] at q
        intro xs H2 e2 w2
        exact q _ H2 (e1.trans e2) ⟨x, xs, rfl, w1.go (s.own.go e1) e2, w2⟩
/-- a built-in by its rule -/
theorem bi_tM {f : List PV → R PV} (hf : ∀ ps k, f ps ≠ .exc k) {m : O.St → R (List PV)} {σ : L2.St} {H : Hp} {Q : VK} (h : tM Z X.K E (fun ρ => (m ρ).bind f) σ H Q) : tCB (rPn Z X.K f) (tLw Z X.K E m) σ H Q := by
  obtain ⟨ρ, M, s, h⟩ := h
  dsimp only at h
  refine ⟨ρ, M, s, ?_⟩
  cases ea : m ρ with
  | bad => rw [ea] at h; exact h
  | exc k => rw [ea] at h; exact h
  | ok ps =>
    rw [ea] at h
    intro vs H1 e1 w1
    simp only [R.bind_ok] at h
    cases er : f ps with
    | bad => rw [er] at h; exact h.elim
    | exc k => exact (hf ps k er).elim
    | ok r =>
      rw [er] at h
      exact ⟨M, ps, r, s.own.go e1, w1, er, fun v H3 e3 w3 => h v H3 (e1.trans e3) w3⟩
end
end OS

end

section
set_option Elab.async false
set_option linter.all false
set_option maxRecDepth 100000
set_option maxHeartbeats 2000000
namespace PySem
open Sem (wp)
/-! enumerate of anything that begins -/
theorem oz_enum_new {v : Value} {o : Obj} {H : Heap → Prop} (B : Begins v o H) :
    Meets (Builtin.«enumerate.__new__» ⟨[.type "enumerate", v], []⟩) (fun _ R s => H s.heap ∧
      R (.ok (.ret (.ref (s.heap.push o).objs.size))) { s with heap := (s.heap.push o).push { cls := .type "enumerate", data := .fields #[.none, .bool false, .ref s.heap.objs.size, rawInt 0, .none, .none] } }) :=
  .of_wp fun prog w A R s h => by
    obtain ⟨hp, g, d, tk, os⟩ := s; obtain ⟨h1, h⟩ := h
    have hsub := sub_enumerate
    have q1 : ∀ {A' : Around} {E : Value → Shared → Prop} {Q : Value → Shared → Prop}, Q (.ref hp.objs.size) ⟨hp.push o, g, d, tk, os⟩ → wpAny (model prog w) A' (pyIter v) Q E ⟨hp, g, d, tk, os⟩ :=
      fun q => B.iter prog w _ _ ⟨hp, g, d, tk, os⟩ _ h1 q
    wp_walk using q1
    refine wpAny_stack_any fun st => wpAny_pure ?_
    split
    · rename_i c _ _ _ _ _
      cases (c == Value.type "enumerate")
      · wp_walk using q1
        exact ⟨_, rfl, h⟩
      · wp_walk using q1
        exact ⟨_, rfl, h⟩
    · wp_walk using q1
      exact ⟨_, rfl, h⟩
section
variable {prog : Program} {w : World} {A : Around} {E : Value → Shared → Prop} {s : Shared}
theorem oz_enum_begins {v : Value} {o : Obj} {H : Heap → Prop} {Q : Value → Shared → Prop} (B : Begins v o H) (h1 : H s.heap)
    (h : ∀ h', IsEnum h' (s.heap.objs.size + 1) s.heap.objs.size 0 .none → h'.get? s.heap.objs.size = some o → h'.objs.size = s.heap.objs.size + 2 →
      (∀ b o, s.heap.get? b = some o → h'.get? b = some o) → Q (.ref (s.heap.objs.size + 1)) { s with heap := h' }) :
    wpAny (model prog w) A (call (.type "enumerate") [v]) Q E s := by
  refine callType_new F.called_enumerate (by decide) (F.typeCall_enumerate_1 _) (F.newCall_enumerate_1 _) (fun obj => F.args_object_init_2 obj _) F.entry_enumerate_new
    (oz_enum_new B) ⟨h1, ?_⟩
  have hz : (s.heap.push o).objs.size = s.heap.objs.size + 1 := Heap.size_push ..
  show _ ∧ _
  rw [hz]
  have he : IsEnum ((s.heap.push o).push { cls := .type "enumerate", data := .fields #[.none, .bool false, .ref s.heap.objs.size, rawInt 0, .none, .none] }) (s.heap.objs.size + 1) s.heap.objs.size 0 .none := by
    have := Heap.get?_push_size (s.heap.push o) (o := { cls := .type "enumerate", data := .fields #[.none, .bool false, .ref s.heap.objs.size, rawInt 0, .none, .none] }) rfl
    rw [hz] at this; exact this
  refine ⟨⟨_, he, rfl⟩, h _ he (Heap.get?_push_of_some _ (Heap.get?_push_size _ B.free)) (by rw [Heap.size_push, hz]) fun b o x => Heap.get?_push_of_some _ (Heap.get?_push_of_some _ x)⟩
end
end PySem
namespace OS
open PySem PySem.Spec PyProof.Rows L2 O
/-- something that is walked: its kind, what it gives -/
inductive SZ where | lst (a : Addr) | tup (a : Addr) | str (z : Str)
def SZ.val : SZ → V
  | .lst a => .ref a
  | .tup a => .ref a
  | .str z => .str z
def SZ.src (K : PySem.W.Frag) (H : Hp) : SZ → List V → Prop
  | .lst a, vs => SqL K H a vs
  | .tup a, vs => SqT K H a vs
  | .str z, vs => vs = z.cps.toList.map fun c => .str ⟨#[c]⟩
/-- an iterator over it -/
inductive SK where | lst (a : Addr) | tup (a : Addr) | str (z : Str) (t : Tok)
def SK.at : SK → Heap → Addr → Nat → Prop
  | .lst a, h, it, i => h.IsListIter it a i
  | .tup a, h, it, i => h.IsTupleIter it a i
  | .str z t, h, it, i => h.IsStrIter it (strIterType z) z t i
def SK.src (K : PySem.W.Frag) (H : Hp) : SK → List V → Prop
  | .lst a, vs => SqL K H a vs
  | .tup a, vs => SqT K H a vs
  | .str z _, vs => vs = z.cps.toList.map fun c => .str ⟨#[c]⟩
def SK.base : SK → SZ
  | .lst a => .lst a
  | .tup a => .tup a
  | .str z _ => .str z
theorem SK.of_base {K : PySem.W.Frag} {H : Hp} {k : SK} {z : SZ} {vs : List V} (e : k.base = z) (h : z.src K H vs) : k.src K H vs := by
  subst e
  cases k <;> exact h
theorem SK.obj {k : SK} {h : Heap} {it : Addr} {i : Nat} (st : k.at h it i) : ∃ o, h.get? it = some o ∧ ∀ v, o.data ≠ .cell v := by
  cases k with
  | lst a => obtain ⟨o, e, c, d⟩ := st; exact ⟨o, e, fun v z => by rw [d] at z; cases z⟩
  | tup a => obtain ⟨o, e, c, d⟩ := st; exact ⟨o, e, fun v z => by rw [d] at z; cases z⟩
  | str z t => obtain ⟨o, e, c, d⟩ := st; exact ⟨o, e, fun v z => by rw [d] at z; cases z⟩
theorem SK.keep {k : SK} {h h' : Heap} {it : Addr} {i : Nat} (st : k.at h it i) (kk : ∀ o, h.get? it = some o → h'.get? it = some o) : k.at h' it i := by
  cases k with
  | lst a => exact Heap.IsListIter.at st kk
  | tup a => exact Heap.IsTupleIter.at st kk
  | str z t => obtain ⟨o, e, r⟩ := st; exact ⟨o, kk o e, r⟩
section
variable {X : Cx} {pins : List (Addr × Obj)} {σ : L2.St} {H : Hp} {s : Shared}
/-- what it gives is known -/
theorem SK.inj (I : Inv X pins σ H s) {k : SK} {xs ys : List V} (a : k.src X.K H xs) (b : k.src X.K H ys) : xs = ys := by
  cases k with
  | lst c => exact I.list_inj a b
  | tup c => exact I.tuple_inj a b
  | str z t => rw [show xs = _ from a, show ys = _ from b]
/-- the library's draws, in a state of ours -/
theorem SK.drawsA (I : Inv X pins σ H s) {A0 : Around} (hh : A0.handled = none) {k : SK} {xs : List V} (q : k.src X.K H xs) (it : Addr) (hn : H it = none) (hk : ∀ o, X.K.lookup it = some o → False) :
    ∃ (fp : List Addr) (P : Nat → Value → Prop) (St : Nat → Heap → Prop), Draws X.prog X.w A0 it fp xs.length P St ∧ it ∈ fp ∧ (∀ b ∈ fp, b = it ∨ ((∃ o, s.heap.get? b = some o) ∧ (H b ≠ none ∨ ∃ o, X.K.lookup b = some o))) ∧
      (∀ i, k.at s.heap it i → St i s.heap) ∧ (∀ i h', St i h' → k.at h' it i) ∧ ∀ i x u, xs[i]? = some x → P i u → RelV x u := by
  cases k with
  | lst a =>
    obtain ⟨its, rv, p, hz⟩ := I.list q
    have na : a ≠ it := fun e => by
      rcases q with q | ⟨o, _, _, q, _⟩
      · rcases q with q | ⟨_, q⟩ <;> rw [e, hn] at q <;> cases q
      · rw [e] at q; exact hk _ q
    refine ⟨[it, a], fun i v => its.toArray[i]? = some v, fun i h => h.IsListIter it a i ∧ h.IsList a its.toArray, by rw [rv.length]; exact Draws.list (prog := X.prog) (w := X.w) hh it a na its.toArray, by simp, fun b hb => ?_, fun i st => ⟨st, p.isList⟩, fun i h' st => st.1, fun i x u hx hP => ?_⟩
    · have e : b = it ∨ b = a := by simpa using hb
      rcases e with e | e
      · exact .inl e
      · rw [e]
        refine .inr ⟨let ⟨o, n, z, _⟩ := p; ⟨o, z⟩, ?_⟩
        rcases q with q | ⟨o, _, _, q, _⟩
        · rcases q with q | ⟨_, q⟩ <;> exact .inl (by rw [q]; simp)
        · exact .inr ⟨o, q⟩
    · obtain ⟨u', e, r⟩ := rv.get hx
      have : its.toArray[i]? = some u := hP
      have e2 : its[i]? = some u := by simpa using this
      rw [e] at e2
      cases e2
      exact r
  | tup a =>
    obtain ⟨its, rv, p, hz⟩ := I.tuple q
    have na : a ≠ it := fun e => by
      rcases q with q | ⟨o, _, _, q, _⟩
      · rcases q with q | ⟨_, q⟩ <;> rw [e, hn] at q <;> cases q
      · rw [e] at q; exact hk _ q
    refine ⟨[it, a], fun i v => its.toArray[i]? = some v, fun i h => h.IsTupleIter it a i ∧ h.IsTuple a its.toArray, by rw [rv.length]; exact Draws.tuple (prog := X.prog) (w := X.w) hh it a na its.toArray, by simp, fun b hb => ?_, fun i st => ⟨st, p⟩, fun i h' st => st.1, fun i x u hx hP => ?_⟩
    · have e : b = it ∨ b = a := by simpa using hb
      rcases e with e | e
      · exact .inl e
      · rw [e]
        refine .inr ⟨let ⟨o, z, _⟩ := p; ⟨o, z⟩, ?_⟩
        rcases q with q | ⟨o, _, _, q, _⟩
        · rcases q with q | ⟨_, q⟩ <;> exact .inl (by rw [q]; simp)
        · exact .inr ⟨o, q⟩
    · obtain ⟨u', e, r⟩ := rv.get hx
      have : its.toArray[i]? = some u := hP
      have e2 : its[i]? = some u := by simpa using this
      rw [e] at e2
      cases e2
      exact r
  | str z t =>
    have q : xs = _ := q
    refine ⟨[it], fun i v => ∃ c u, z.cps[i]? = some c ∧ v = .str ⟨#[c]⟩ u, fun i h => h.IsStrIter it (strIterType z) z t i, by rw [q, List.length_map, Array.length_toList]; exact Draws.text (prog := X.prog) (w := X.w) hh it z t, by simp, fun b hb => .inl (by simpa using hb), fun i st => st, fun i h' st => st, fun i x u hx hP => ?_⟩
    obtain ⟨c, t', e1, rfl⟩ := hP
    rw [q, List.getElem?_map] at hx
    have e2 : z.cps.toList[i]? = some c := by simpa using e1
    rw [e2] at hx
    cases hx
    exact ⟨t', rfl⟩
theorem SK.draws (I : Inv X pins σ H s) (hc : X.calm = true) {k : SK} {xs : List V} (q : k.src X.K H xs) (it : Addr) (hn : H it = none) (hk : ∀ o, X.K.lookup it = some o → False) :
    ∃ (fp : List Addr) (P : Nat → Value → Prop) (St : Nat → Heap → Prop), Draws X.prog X.w X.A.in1 it fp xs.length P St ∧ it ∈ fp ∧ (∀ b ∈ fp, b = it ∨ ((∃ o, s.heap.get? b = some o) ∧ (H b ≠ none ∨ ∃ o, X.K.lookup b = some o))) ∧
      (∀ i, k.at s.heap it i → St i s.heap) ∧ (∀ i h', St i h' → k.at h' it i) ∧ ∀ i x u, xs[i]? = some x → P i u → RelV x u := SK.drawsA (A0 := X.A.in1) I (I.ok.hd hc) q it hn hk
end
/-- enumerate over it: what stands there at each turn, each item in a new pair -/
def ItE (K : PySem.W.Frag) (k : SK) : It :=
  ⟨fun i H => ∃ (xs : List V) (x : V), k.src K H xs ∧ xs[i]? = some x, fun i H v H' => ∃ T x, v = .ref T ∧ H T = none ∧ H' = upd H T (.tup [.int (i : Nat), x]) ∧ ∀ xs, k.src K H xs → xs[i]? = some x, fun i H => ∃ xs : List V, k.src K H xs ∧ xs.length = i⟩
theorem turn_enumA {P : Program} {w : World} {K : PySem.W.Frag} {elts : List Expr} {kk : Nat} {tpos : Pos} (k : SK) (e it : Addr) (hkn : ∀ o, K.lookup it = some o → False) (hke : ∀ o, K.lookup e = some o → False) :
    Turn P w K (.Tuple elts kk tpos) (ItE K k) [e, it] e (fun i h => (∃ old, IsEnum h e it ((i : Nat) : Int) old) ∧ k.at h it i ∧ e ≠ it) where
  mem := by simp
  obj := fun i h st b hb => by
    obtain ⟨⟨old, he⟩, hi, _⟩ := st
    have e' : b = e ∨ b = it := by simpa using hb
    rcases e' with z | z
    · rw [z]; exact ⟨_, he, fun v q => nomatch q⟩
    · rw [z]; exact SK.obj hi
  keep := fun i h h' st kp => let ⟨⟨old, he⟩, hi, hne⟩ := st; ⟨⟨old, kp e (by simp) _ he⟩, SK.keep hi fun o q => kp it (by simp) o q, hne⟩
  item := by
    intro X hP hw hK hc i pins s σ H E I hf st hg
    subst hP hw hK
    obtain ⟨⟨old, he⟩, hit, hne⟩ := st
    obtain ⟨xs, x, hq, hx⟩ := hg
    obtain ⟨fp, PP, St, D, hm, hfp, st1, st2, hrel⟩ := SK.draws I hc hq it (hf it (by simp)).1 hkn
    have hlt : i < xs.length := (List.getElem?_eq_some_iff.mp hx).1
    have hef : e ∉ fp := fun z => by
      rcases hfp e z with z | ⟨_, z | ⟨o, z⟩⟩
      · exact hne z
      · exact z (hf e (by simp)).1
      · exact hke o z
    have hel : e < s.heap.objs.size := Heap.lt_size he
    have hil : it < s.heap.objs.size := by obtain ⟨o, z, _⟩ := SK.obj hit; exact Heap.lt_size z
    refine wpAny_pyNext_enum_itemC D he (st1 i hit) hlt hne hef fun u h' tk hPu ho hst' hT hsz hkk => ?_
    have ru := hrel i x u hx hPu
    refine ⟨_, rfl, wpAny_letOwnedTupleGo_enum (s := { s with heap := h', toks := tk + 1 }) ho fun h'' he' sb => ?_⟩
    have hT2 : h''.get? s.heap.objs.size = some { cls := .type "tuple", data := .seq #[.int i tk, u] } := (sb.2 _ (Nat.ne_of_gt hel)).trans hT
    have new : ObjOk X.prog X.w (upd H s.heap.objs.size (.tup [.int (i : Nat), x])) h'' s.heap.objs.size (.tup [.int (i : Nat), x]) :=
      ⟨by show 2 ≤ sizeLine; decide, [.int i tk, u], .cons ⟨_, rfl⟩ (.cons ru .nil), ⟨_, hT2, rfl, _, rfl⟩⟩
    have I1 : Inv X pins σ (upd H s.heap.objs.size (.tup [.int (i : Nat), x])) { s with heap := h'', toks := tk + 1 } :=
      I.turnedNew (ch := [e, it]) (fun b ob hb q => (sb.2 b (fun z => hb (by simp [z]))).trans (hkk b ob (fun z => hb (by simp [z])) (fun z => hb (by simp [z])) q)) hf (Nat.le_refl _) new
    refine ⟨.ref s.heap.objs.size, _, I1, rfl, ⟨_, x, rfl, I.hok.fresh (Nat.le_refl _), rfl, fun ys hy => by rw [SK.inj I hy hq]; exact hx⟩, ⟨⟨u, ?_⟩, SK.keep (st2 _ _ hst') fun o q => (sb.2 it (Ne.symm hne)).trans q, hne⟩, fun b hb => ?_⟩
    · have e1 : ((i + 1 : Nat) : Int) = (i : Int) + 1 := by omega
      rw [e1]; exact he'
    · have hb' : b < s.heap.objs.size := by
        have e' : b = e ∨ b = it := by simpa using hb
        rcases e' with z | z
        · rw [z]; exact hel
        · rw [z]; exact hil
      rw [upd_ne (Nat.ne_of_lt hb')]
      exact (hf b hb).1
  done := by
    intro X hP hw hK hc i pins s σ H E I hf st hg
    subst hP hw hK
    obtain ⟨⟨old, he⟩, hit, hne⟩ := st
    obtain ⟨xs, hq, hx⟩ := hg
    obtain ⟨fp, PP, St, D, hm, hfp, st1, st2, hrel⟩ := SK.draws I hc hq it (hf it (by simp)).1 hkn
    obtain ⟨f0, f1, f2, f3, f4, f5⟩ := hf it (by simp)
    refine wpAny_pyNext_enum_endD D he (by rw [hx]; exact st1 i hit) fun h' eb => ⟨rfl, I.turned (t' := s.toks) (fun b o hb q => eb b o hb q) f0 f1 f3 f4 f5⟩
  self := fun A i s Q E st h => let ⟨⟨_, he⟩, _⟩ := st; wpAny_pyIter_enum he h
section
variable {X : Cx} {pins : List (Addr × Obj)} {σ : L2.St} {H : Hp} {s : Shared}
theorem SZ.sk (I : Inv X pins σ H s) {z : SZ} {xs : List V} {u : Value} (q : z.src X.K H xs) (r : RelV z.val u) : ∃ (k : SK) (o : Obj) (Hh : Heap → Prop), k.base = z ∧ k.src X.K H xs ∧ Begins u o Hh ∧ Hh s.heap ∧ ∀ (h' : Heap) (it : Addr), h'.get? it = some o → k.at h' it 0 := by
  cases z with
  | lst a =>
    cases r
    obtain ⟨its, rv, p, hz⟩ := I.list q
    exact ⟨.lst _, _, _, rfl, q, begins_list _ its.toArray, p.isList, fun h' it e => ⟨_, e, rfl, rfl⟩⟩
  | tup a =>
    cases r
    obtain ⟨its, rv, p, hz⟩ := I.tuple q
    exact ⟨.tup _, _, _, rfl, q, begins_tuple _ its.toArray, p, fun h' it e => ⟨_, e, rfl, rfl⟩⟩
  | str z =>
    obtain ⟨t, rfl⟩ := r
    exact ⟨.str z t, _, _, rfl, q, begins_text z t, trivial, fun h' it e => ⟨_, e, rfl, rfl⟩⟩
end
def iEnumA (K : PySem.W.Frag) (ta : TA) : TI := fun σ H R => ta σ H fun vs H1 => ∃ z xs, vs = [z.val] ∧ z.src K H1 xs ∧ ∀ k : SK, k.base = z → R (ItE K k) H1
theorem pi_enumA {X : Cx} {e : Expr} {ta : TA} {p pos tpos : Pos} {elts : List Expr} {kk : Nat} (hg : Gl X "enumerate") (hm : X.mg "enumerate" = none) (ha : PA X [e] ta) (hs : starEach [e] X.env = [(false, eval e X.env)]) :
    PI X (.Tuple elts kk tpos) (.Call (.Name "enumerate" p) [e] [] pos) (iEnumA X.K ta) := by
  refine ⟨fun pins s σ H R I h => ?_⟩
  refine Call_ (ld_blt I hg hm boot_enumerate (PyProof.Rows.callWith_type1 (thn (ha.run pos pins s σ H _ I h) fun us s1 ⟨vs, H1, I1, r1, q1⟩ => ?_) hs rfl))
  obtain ⟨x, xs, ex, hq, q⟩ := q1
  subst ex
  cases r1 with
  | cons r rr =>
    cases rr
    obtain ⟨k, o, Hh, h0, h1, B, h2, h3⟩ := SZ.sk I1 hq r
    have noK : ∀ b, s1.heap.objs.size ≤ b → ∀ o, X.K.lookup b = some o → False := fun b hb o z => by
      exact absurd (Nat.lt_of_lt_of_le (Heap.lt_size (I1.kIn b o z)) hb) (Nat.lt_irrefl _)
    refine oz_enum_begins B h2 fun h' he hit hsz hk => wpAny_pyIter_enum he ?_
    have I2 : Inv X pins σ H1 { s1 with heap := h' } := I1.kept (t' := s1.toks) hk
    refine ⟨s1.heap.objs.size + 1, [s1.heap.objs.size + 1, s1.heap.objs.size], _, _, H1, rfl, I2, turn_enumA k (s1.heap.objs.size + 1) s1.heap.objs.size (noK _ (Nat.le_refl _)) (noK _ (Nat.le_succ _)), ⟨⟨.none, he⟩, h3 h' _ hit, Nat.succ_ne_self _⟩, fun b hb => ?_, q k h0⟩
    have e' : b = s1.heap.objs.size + 1 ∨ b = s1.heap.objs.size := by simpa using hb
    have hle : s1.heap.objs.size ≤ b := by
      rcases e' with z | z
      · rw [z]; exact Nat.le_add_right _ _
      · rw [z]; exact Nat.le_refl _
    exact I1.fpOk hle (I1.hok.fresh hle)
/-! ### zip of any two -/
def ItZ (K : PySem.W.Frag) (k1 k2 : SK) : It :=
  ⟨fun i H => ∃ (xs ys : List V) (x y : V), k1.src K H xs ∧ k2.src K H ys ∧ xs[i]? = some x ∧ ys[i]? = some y,
    fun i H v H' => ∃ T o x y, v = .ref T ∧ H T = none ∧ o.dict = none ∧ H' = upd H T (.frz o (.tup [x, y])) ∧ (∀ xs, k1.src K H xs → xs[i]? = some x) ∧ ∀ ys, k2.src K H ys → ys[i]? = some y,
    fun i H => ∃ xs ys : List V, k1.src K H xs ∧ k2.src K H ys ∧ i ≤ xs.length ∧ i ≤ ys.length ∧ (i = xs.length ∨ i = ys.length)⟩
structure ZA (z TI TO i1 i2 : Addr) : Prop where
  TIz : TI ≠ z
  TOz : TO ≠ z
  TITO : TI ≠ TO
  TIi1 : TI ≠ i1
  TIi2 : TI ≠ i2
  zi1 : z ≠ i1
  zi2 : z ≠ i2
  Ti1 : TO ≠ i1
  Ti2 : TO ≠ i2
  i12 : i1 ≠ i2
theorem turn_zipA {P : Program} {w : World} {K : PySem.W.Frag} {elts : List Expr} {kk : Nat} {tpos : Pos} {k1 k2 : SK} {z TI TO i1 i2 : Addr} (D : ZA z TI TO i1 i2) (hkn : ∀ b ∈ [z, TI, TO, i1, i2], ∀ o, K.lookup b = some o → False) :
    Turn P w K (.Tuple elts kk tpos) (ItZ K k1 k2) [z, TI, TO, i1, i2] z (fun i h => IsZip h z TI TO .none ∧ IsTupOf2 h TI (.ref i1) (.ref i2) ∧ (∃ x y, IsTupOf2 h TO x y) ∧ k1.at h i1 i ∧ k2.at h i2 i) where
  mem := by simp
  obj := fun i h st c hc => by
    obtain ⟨hz, hTI, ⟨x, y, hTO⟩, h1, h2⟩ := st
    have e' : c = z ∨ c = TI ∨ c = TO ∨ c = i1 ∨ c = i2 := by simpa using hc
    rcases e' with q | q | q | q | q
    · rw [q]; exact ⟨_, hz, fun v q => nomatch q⟩
    · rw [q]; exact ⟨_, hTI, fun v q => nomatch q⟩
    · rw [q]; exact ⟨_, hTO, fun v q => nomatch q⟩
    · rw [q]; exact SK.obj h1
    · rw [q]; exact SK.obj h2
  keep := fun i h h' st k => by
    obtain ⟨hz, hTI, ⟨x, y, hTO⟩, h1, h2⟩ := st
    exact ⟨k z (by simp) _ hz, k TI (by simp) _ hTI, ⟨x, y, k TO (by simp) _ hTO⟩, SK.keep h1 fun o q => k i1 (by simp) o q, SK.keep h2 fun o q => k i2 (by simp) o q⟩
  item := by
    intro X hP hw hK hc i pins s σ H E I hf st hg
    subst hP hw hK
    obtain ⟨hz, hTI, ⟨x0, y0, hTO⟩, h1, h2⟩ := st
    obtain ⟨xs, ys, x, y, hqx, hqy, hx, hy⟩ := hg
    obtain ⟨fp1, P1, St1, D1, hm1, hfp1, s1a, s1b, rel1⟩ := SK.draws I hc hqx i1 (hf i1 (by simp)).1 (hkn i1 (by simp))
    obtain ⟨fp2, P2, St2, D2, hm2, hfp2, s2a, s2b, rel2⟩ := SK.draws I hc hqy i2 (hf i2 (by simp)).1 (hkn i2 (by simp))
    have nin1 : ∀ b ∈ [z, TI, TO, i1, i2], b ≠ i1 → b ∉ fp1 := fun b hb hne hm => by
      rcases hfp1 b hm with q | ⟨_, q | ⟨o, q⟩⟩
      · exact hne q
      · exact q (hf b hb).1
      · exact hkn b hb o q
    have nin2 : ∀ b ∈ [z, TI, TO, i1, i2], b ≠ i2 → b ∉ fp2 := fun b hb hne hm => by
      rcases hfp2 b hm with q | ⟨_, q | ⟨o, q⟩⟩
      · exact hne q
      · exact q (hf b hb).1
      · exact hkn b hb o q
    have S : ZipSep2 z TI TO i1 i2 fp1 fp2 := ⟨D.TIz, D.TOz, D.TITO, D.TIi1, hm1, nin1 z (by simp) D.zi1, nin1 TO (by simp) D.Ti1, D.TIi2, hm2, nin2 z (by simp) D.zi2, nin2 TO (by simp) D.Ti2, nin2 i1 (by simp) D.i12, nin1 i2 (by simp) (Ne.symm D.i12)⟩
    have hl1 : i < xs.length := (List.getElem?_eq_some_iff.mp hx).1
    have hl2 : i < ys.length := (List.getElem?_eq_some_iff.mp hy).1
    have hzl : z < s.heap.objs.size := Heap.lt_size hz
    refine wpAny_pyNext_zipD2_item S D1 D2 hz hTI hTO (s1a i h1) (s2a i h2) hl1 hl2 fun u1 u2 h' tk p1 p2 z' TO' h1' h2' hT hsz hk => ?_
    have r1 := rel1 i x u1 hx p1
    have r2 := rel2 i y u2 hy p2
    refine ⟨_, rfl, wpAny_letOwnedTupleGo_zip (s := { s with heap := h', toks := tk }) z' fun h'' z'' sb => ?_⟩
    have hT2 : h''.get? s.heap.objs.size = some { cls := .type "tuple", data := .seq #[u1, u2] } := (sb.2 _ (Nat.ne_of_gt hzl)).trans hT
    have new : ObjOk X.prog X.w (upd H s.heap.objs.size (.frz { cls := .type "tuple", data := .seq #[u1, u2] } (.tup [x, y]))) h'' s.heap.objs.size (.frz { cls := .type "tuple", data := .seq #[u1, u2] } (.tup [x, y])) :=
      ⟨hT2, by show 2 ≤ sizeLine; decide, [u1, u2], .cons r1 (.cons r2 .nil), ⟨_, hT2, rfl, _, rfl⟩⟩
    have I1 : Inv X pins σ (upd H s.heap.objs.size (.frz { cls := .type "tuple", data := .seq #[u1, u2] } (.tup [x, y]))) { s with heap := h'', toks := tk } :=
      I.turnedNew (ch := [z, TI, TO, i1, i2]) (fun c o hb q => (sb.2 c (fun q' => hb (by simp [q']))).trans (hk c o (fun q' => hb (by simp [q'])) (fun q' => hb (by simp [q'])) (fun q' => hb (by simp [q'])) (fun q' => hb (by simp [q'])) q)) hf (Nat.le_refl _) new
    refine ⟨.ref s.heap.objs.size, _, I1, rfl, ⟨_, _, x, y, rfl, I.hok.fresh (Nat.le_refl _), rfl, rfl, fun l hl => by rw [SK.inj I hl hqx]; exact hx, fun l hl => by rw [SK.inj I hl hqy]; exact hy⟩, ⟨z'', ?_, ⟨u1, u2, ?_⟩, ?_, ?_⟩, fun c hcm => ?_⟩
    · exact (sb.2 _ D.TIz).trans (hk _ _ D.TIz D.TITO D.TIi1 D.TIi2 hTI)
    · exact (sb.2 _ D.TOz).trans TO'
    · exact SK.keep (s1b _ _ h1') fun o q => (sb.2 _ (Ne.symm D.zi1)).trans q
    · exact SK.keep (s2b _ _ h2') fun o q => (sb.2 _ (Ne.symm D.zi2)).trans q
    · have hlt : c < s.heap.objs.size := by
        have e' : c = z ∨ c = TI ∨ c = TO ∨ c = i1 ∨ c = i2 := by simpa using hcm
        rcases e' with q | q | q | q | q
        · rw [q]; exact hzl
        · rw [q]; exact Heap.lt_size hTI
        · rw [q]; exact Heap.lt_size hTO
        · rw [q]; obtain ⟨o, e1, _⟩ := SK.obj h1; exact Heap.lt_size e1
        · rw [q]; obtain ⟨o, e2, _⟩ := SK.obj h2; exact Heap.lt_size e2
      rw [upd_ne (Nat.ne_of_lt hlt)]
      exact (hf c hcm).1
  done := by
    intro X hP hw hK hc i pins s σ H E I hf st hg
    subst hP hw hK
    obtain ⟨hz, hTI, ⟨x0, y0, hTO⟩, h1, h2⟩ := st
    obtain ⟨xs, ys, hqx, hqy, hl1, hl2, hend⟩ := hg
    obtain ⟨fp1, P1, St1, D1, hm1, hfp1, s1a, s1b, rel1⟩ := SK.draws I hc hqx i1 (hf i1 (by simp)).1 (hkn i1 (by simp))
    obtain ⟨fp2, P2, St2, D2, hm2, hfp2, s2a, s2b, rel2⟩ := SK.draws I hc hqy i2 (hf i2 (by simp)).1 (hkn i2 (by simp))
    have nin1 : ∀ b ∈ [z, TI, TO, i1, i2], b ≠ i1 → b ∉ fp1 := fun b hb hne hm => by
      rcases hfp1 b hm with q | ⟨_, q | ⟨o, q⟩⟩
      · exact hne q
      · exact q (hf b hb).1
      · exact hkn b hb o q
    have nin2 : ∀ b ∈ [z, TI, TO, i1, i2], b ≠ i2 → b ∉ fp2 := fun b hb hne hm => by
      rcases hfp2 b hm with q | ⟨_, q | ⟨o, q⟩⟩
      · exact hne q
      · exact q (hf b hb).1
      · exact hkn b hb o q
    have S : ZipSep2 z TI TO i1 i2 fp1 fp2 := ⟨D.TIz, D.TOz, D.TITO, D.TIi1, hm1, nin1 z (by simp) D.zi1, nin1 TO (by simp) D.Ti1, D.TIi2, hm2, nin2 z (by simp) D.zi2, nin2 TO (by simp) D.Ti2, nin2 i1 (by simp) D.i12, nin1 i2 (by simp) (Ne.symm D.i12)⟩
    exact wpAny_pyNext_zipD2_end S D1 D2 hz hTI hTO (s1a i h1) (s2a i h2) hl1 hl2 hend fun h' tk hk => ⟨rfl, I.turnedL (t' := tk) (ch := [z, TI, TO, i1, i2]) (fun c o hb q =>
      hk c o (fun q' => hb (by simp [q'])) (fun q' => hb (by simp [q'])) (fun q' => hb (by simp [q'])) (fun q' => hb (by simp [q'])) q) hf⟩
  self := fun A i s Q E st h => wpAny_pyIter_zip st.1 h
def iZipS (K : PySem.W.Frag) (ta : TA) : TI := fun σ H R => ta σ H fun vs H1 => ∃ z1 z2 xs ys, vs = [z1.val, z2.val] ∧ z1.src K H1 xs ∧ z2.src K H1 ys ∧ ∀ k1 k2 : SK, k1.base = z1 → k2.base = z2 → R (ItZ K k1 k2) H1
theorem pi_zipS {X : Cx} {e e2 : Expr} {ta : TA} {p pos tpos : Pos} {elts : List Expr} {kk : Nat} (hg : Gl X "zip") (hm : X.mg "zip" = none) (ha : PA X [e, e2] ta)
    (hs : starEach [e, e2] X.env = (false, eval e X.env) :: starEach [e2] X.env) (hpl : (backTo pos (starEach [e2] X.env)).any (·.1) = false) :
    PI X (.Tuple elts kk tpos) (.Call (.Name "zip" p) [e, e2] [] pos) (iZipS X.K ta) := by
  refine ⟨fun pins s σ H R I h => ?_⟩
  refine Call_ (ld_blt I hg hm PyProof.Rows.boot_zip (PyProof.Rows.callWith_type1 (thn (ha.run pos pins s σ H _ I h) fun us s1 ⟨vs, H1, I1, r1, q1⟩ => ?_) hs hpl))
  obtain ⟨x, y, xs, ys, ex, hqx, hqy, q⟩ := q1
  subst ex
  obtain ⟨u1, u2, rfl, ru1, ru2⟩ := vals2 r1
  obtain ⟨k1, o1, Hh1, a0, a1, B1, a2, a3⟩ := SZ.sk I1 hqx ru1
  obtain ⟨k2, o2, Hh2, b0, b1, B2, b2, b3⟩ := SZ.sk I1 hqy ru2
  have noK : ∀ b, s1.heap.objs.size ≤ b → ∀ o, X.K.lookup b = some o → False := fun b hb o z => absurd (Nat.lt_of_lt_of_le (Heap.lt_size (I1.kIn b o z)) hb) (Nat.lt_irrefl _)
  refine zip_begins2 B1 B2 a2 b2 fun h' hz hTI hTO h1 h2 hsz hk => wpAny_pyIter_zip hz ?_
  have I2 : Inv X pins σ H1 { s1 with heap := h' } := I1.kept (t' := s1.toks) hk
  have le : ∀ c ∈ [s1.heap.objs.size + 4, s1.heap.objs.size + 2, s1.heap.objs.size + 3, s1.heap.objs.size, s1.heap.objs.size + 1], s1.heap.objs.size ≤ c := fun c hcm => by
    have e' : c = s1.heap.objs.size + 4 ∨ c = s1.heap.objs.size + 2 ∨ c = s1.heap.objs.size + 3 ∨ c = s1.heap.objs.size ∨ c = s1.heap.objs.size + 1 := by simpa using hcm
    rcases e' with z | z | z | z | z
    · rw [z]; exact Nat.le_add_right _ _
    · rw [z]; exact Nat.le_add_right _ _
    · rw [z]; exact Nat.le_add_right _ _
    · rw [z]; exact Nat.le_refl _
    · rw [z]; exact Nat.le_add_right _ _
  have ap : ∀ N : Nat, ZA (N + 4) (N + 2) (N + 3) N (N + 1) := fun N => ⟨show (N + 2 : Nat) ≠ N + 4 by omega, show (N + 3 : Nat) ≠ N + 4 by omega, show (N + 2 : Nat) ≠ N + 3 by omega, show (N + 2 : Nat) ≠ N by omega, show (N + 2 : Nat) ≠ N + 1 by omega,
    show (N + 4 : Nat) ≠ N by omega, show (N + 4 : Nat) ≠ N + 1 by omega, show (N + 3 : Nat) ≠ N by omega, show (N + 3 : Nat) ≠ N + 1 by omega, show (N : Nat) ≠ N + 1 by omega⟩
  exact ⟨s1.heap.objs.size + 4, [s1.heap.objs.size + 4, s1.heap.objs.size + 2, s1.heap.objs.size + 3, s1.heap.objs.size, s1.heap.objs.size + 1], _, _, H1, rfl, I2, turn_zipA (ap s1.heap.objs.size) (fun b hb => noK b (le b hb)), ⟨hz, hTI, ⟨_, _, hTO⟩, a3 h' _ h1, b3 h' _ h2⟩, fun c hcm => I1.fpOk (le c hcm) (I1.hok.fresh (le c hcm)), q k1 k2 a0 b0⟩
end OS

end

section
set_option Elab.async false
set_option linter.all false
set_option maxRecDepth 100000
set_option maxHeartbeats 1000000
namespace OS
open PySem PySem.Spec PyProof.Rows L2 O
/-! ### what is walked -/
/-- J gives the items xs, as long as what G0 tells and what Fz tells stand -/
def ItOk (Z : Zx) (K : PySem.W.Frag) (J : It) (xs : List PV) (G0 Fz : Hp) : Prop :=
  ∀ (H : Hp) (M : List Addr), Own H M → Ext Z.T G0 H → Ext Z.T Fz (Hm H M) → ∀ i : Nat, (i < xs.length → J.go i H) ∧ (i = xs.length → J.stop i H) ∧
    ∀ (p : PV) (x : V) (H' : Hp), xs[i]? = some p → J.yld i H x H' → Ext Z.T H H' ∧ Rep Z K (Hm H' M) p x
def tIt (Z : Zx) (K : PySem.W.Frag) (E : XK) (m : O.St → R (List PV)) : TI := fun σ H R => ∃ ρ M, SR Z K M H σ ρ ∧ match m ρ with
  | .ok xs => ∀ J H1, Ext Z.T H H1 → ItOk Z K J xs H1 (Hm H1 M) → R J H1
  | .exc k => ∀ H', Ext Z.T (Hm H M) H' → E (.ref (Z.cad k)) none H'
  | .bad => False
theorem PI.imp {X : Cx} {tg e : Expr} {t t' : TI} (h : PI X tg e t) (i : ∀ σ H R, t' σ H R → t σ H R) : PI X tg e t' := ⟨fun pins s σ H R I q => h.run pins s σ H R I (i σ H R q)⟩
theorem PI.or {X : Cx} {tg e : Expr} {t t' : TI} (h : PI X tg e t) (h' : PI X tg e t') : PI X tg e (fun σ H R => t σ H R ∨ t' σ H R) :=
  ⟨fun pins s σ H R I q => q.elim (h.run pins s σ H R I) (h'.run pins s σ H R I)⟩
section
variable {Z : Zx} {K : PySem.W.Frag} {H H' : Hp} {M : List Addr}
theorem itok_list {a : Addr} {vs : List V} {ps : List PV} (h : H a = some (.lst vs)) (hr : RepL Z K (Hm H M) ps vs) : ItOk Z K (Itl K a) ps H (Hm H M) := by
  intro H1 M1 o1 e1 e2 i
  have hs : SqL K H1 a vs := SqL.of (e1.keep _ _ h noTbl.lst)
  have hl := hr.length
  refine ⟨fun hi => ⟨vs, vs[i]'(by omega), hs, List.getElem?_eq_getElem (by omega)⟩, fun hi => ⟨vs, hs, by omega⟩, fun p x H' hp y => ?_⟩
  obtain ⟨rfl, y⟩ := y
  obtain ⟨v, q1, q2⟩ := hr.get hp
  have := y vs hs
  rw [q1] at this
  cases this
  exact ⟨Ext.refl _, Rep.go e2 q2⟩
theorem itok_tup {a : Addr} {vs : List V} {ps : List PV} (h : SqT K H a vs) (hr : RepL Z K (Hm H M) ps vs) : ItOk Z K (Itt K a) ps H (Hm H M) := by
  intro H1 M1 o1 e1 e2 i
  have hs : SqT K H1 a vs := SqT.go e1 h
  have hl := hr.length
  refine ⟨fun hi => ⟨vs, vs[i]'(by omega), hs, List.getElem?_eq_getElem (by omega)⟩, fun hi => ⟨vs, hs, by omega⟩, fun p x H' hp y => ?_⟩
  obtain ⟨rfl, y⟩ := y
  obtain ⟨v, q1, q2⟩ := hr.get hp
  have := y vs hs
  rw [q1] at this
  cases this
  exact ⟨Ext.refl _, Rep.go e2 q2⟩
theorem okS_one {s : List Nat} (k : okS s) {i c : Nat} (h : s[i]? = some c) : okS [c] := fun d hd => by
  have : d = c := by simpa using hd
  subst this
  exact k d (List.mem_of_getElem? h)
theorem itok_str {s : List Nat} (k : okS s) : ItOk Z K (Its (cps s)) (s.map fun c => .str [c]) H (Hm H M) := by
  intro H1 M1 o1 e1 e2 i
  have hz : (cps s).cps.size = s.length := by simp
  refine ⟨fun hi => ?_, fun hi => ?_, fun p x H' hp y => ?_⟩
  · rw [List.length_map] at hi
    show i < (cps s).cps.size
    omega
  · rw [List.length_map] at hi
    show (cps s).cps.size ≤ i
    omega
  · obtain ⟨rfl, c, hc, rfl⟩ := y
    have hc : s[i]? = some c := by simpa using hc
    rw [List.getElem?_map, hc] at hp
    cases hp
    exact ⟨Ext.refl _, rfl, okS_one k hc⟩
theorem itok_range {lo : Int} {n : Nat} : ItOk Z K (Itr lo n) (rngL lo n) H (Hm H M) := by
  intro H1 M1 o1 e1 e2 i
  have hl : (rngL lo n).length = n := by simp [rngL]
  rw [hl]
  refine ⟨fun hi => hi, fun hi => Nat.le_of_eq hi.symm, fun p x H' hp y => ?_⟩
  obtain ⟨rfl, rfl⟩ := y
  unfold rngL at hp
  rw [List.getElem?_map] at hp
  by_cases hi : i < n
  · rw [List.getElem?_range hi] at hp
    cases hp
    exact ⟨Ext.refl _, rfl⟩
  · rw [List.getElem?_eq_none (by simp; omega)] at hp
    cases hp
/-- a view that is walked -/
theorem vw_src (o : Own H M) {p : PV} {x : V} {ps : List PV} (h : Vw Z K M H p x) (hi : items p = some ps) : ∃ z vs, x = SZ.val z ∧ z.src K H vs ∧ RepL Z K (Hm H M) ps vs := by
  cases p with
  | lst xs =>
    cases hi
    obtain ⟨a, vs, rfl, h1, h2⟩ := h
    exact ⟨.lst a, vs, rfl, SqL.of h1, h2⟩
  | tup xs =>
    cases hi
    obtain ⟨a, vs, rfl, h1, h2⟩ := h
    exact ⟨.tup a, vs, rfl, sqT_up o h1, h2⟩
  | str s =>
    cases hi
    obtain ⟨rfl, k⟩ := h
    refine ⟨.str (cps s), _, rfl, rfl, ?_⟩
    show RepL Z K (Hm H M) (s.map fun c => PV.str [c]) (s.map fun c => V.str ⟨#[c]⟩)
    have go : ∀ t : List Nat, okS t → RepL Z K (Hm H M) (t.map fun c => PV.str [c]) (t.map fun c => V.str ⟨#[c]⟩) := by
      intro t
      induction t with
      | nil => intro _; rfl
      | cons c t ih => intro k; exact ⟨_, _, rfl, ⟨rfl, fun d hd => k d ((List.mem_singleton.mp hd) ▸ List.mem_cons_self ..)⟩, ih fun d hd => k d (List.mem_cons_of_mem _ hd)⟩
    exact go s k
  | _ => cases hi
/-- .. still there -/
theorem src_keep {T : List (Addr × Str)} {k : SK} {vs : List V} (e : Ext T H H') (h : k.src K H vs) : k.src K H' vs := by
  cases k with
  | lst a => exact SqL.go e h
  | tup a => exact SqT.go e h
  | str z t => exact h
theorem enumL_get : ∀ (xs : List PV) (n i : Nat), (enumL n xs)[i]? = (xs[i]?).map fun x => .tup [.int ((n + i : Nat) : Int), x]
  | [], n, i => by simp [enumL]
  | x :: xs, n, 0 => by simp [enumL]
  | x :: xs, n, i + 1 => by
    unfold enumL
    rw [List.getElem?_cons_succ, List.getElem?_cons_succ, enumL_get xs (n + 1) i]
    congr 1
    funext y
    congr 3
    omega
theorem enumL_len : ∀ (xs : List PV) (n : Nat), (enumL n xs).length = xs.length
  | [], _ => rfl
  | x :: xs, n => by unfold enumL; rw [List.length_cons, List.length_cons, enumL_len xs]
theorem zipL_get : ∀ (xs ys : List PV) (i : Nat), (zipL xs ys)[i]? = (xs[i]?).bind fun x => (ys[i]?).map fun y => .tup [x, y]
  | [], ys, i => by simp [zipL]
  | x :: xs, [], i => by
    simp only [zipL, List.getElem?_nil, Option.map_none]
    cases (x :: xs)[i]? <;> rfl
  | x :: xs, y :: ys, 0 => by simp [zipL]
  | x :: xs, y :: ys, i + 1 => by
    unfold zipL
    rw [List.getElem?_cons_succ, List.getElem?_cons_succ, List.getElem?_cons_succ, zipL_get xs ys i]
theorem zipL_len : ∀ (xs ys : List PV), (zipL xs ys).length = min xs.length ys.length
  | [], ys => by simp [zipL]
  | x :: xs, [] => by simp [zipL]
  | x :: xs, y :: ys => by
    unfold zipL
    rw [List.length_cons, List.length_cons, List.length_cons, zipL_len xs ys]
    omega
theorem itok_enum {k : SK} {vs : List V} {ps : List PV} (h : k.src K H vs) (hr : RepL Z K (Hm H M) ps vs) : ItOk Z K (ItE K k) (enumL 0 ps) H (Hm H M) := by
  intro H1 M1 o1 e1 e2 i
  have hs := src_keep e1 h
  have hl := hr.length
  rw [enumL_len]
  refine ⟨fun hi => ⟨vs, vs[i]'(by omega), hs, List.getElem?_eq_getElem (by omega)⟩, fun hi => ⟨vs, hs, by omega⟩, fun p x H' hp y => ?_⟩
  obtain ⟨t, v, rfl, ht, rfl, hv⟩ := y
  rw [enumL_get] at hp
  cases q : ps[i]? with
  | none => rw [q] at hp; cases hp
  | some p' =>
    rw [q] at hp
    cases hp
    obtain ⟨v', q1, q2⟩ := hr.get q
    have := hv vs hs
    rw [q1] at this
    cases this
    have e3 : Ext Z.T H1 (upd H1 t (.tup [.int (i : Nat), v])) := Ext.new ht
    refine ⟨e3, t, _, rfl, SqQ.non (SqT.of (Hm.of upd_same (o1.new ht))) rfl, ⟨_, _, rfl, ?_, _, _, rfl, Rep.go (e2.trans (e3.Hm o1)) q2, rfl⟩⟩
    show V.int (i : Nat) = V.int ((0 + i : Nat) : Int)
    rw [Nat.zero_add]
theorem itok_zip {k1 k2 : SK} {vs us : List V} {ps qs : List PV} (h1 : k1.src K H vs) (h2 : k2.src K H us) (hr1 : RepL Z K (Hm H M) ps vs) (hr2 : RepL Z K (Hm H M) qs us) : ItOk Z K (ItZ K k1 k2) (zipL ps qs) H (Hm H M) := by
  intro H1 M1 o1 e1 e2 i
  have hs1 := src_keep e1 h1
  have hs2 := src_keep e1 h2
  have hl1 := hr1.length
  have hl2 := hr2.length
  rw [zipL_len]
  refine ⟨fun hi => ⟨vs, us, vs[i]'(by omega), us[i]'(by omega), hs1, hs2, List.getElem?_eq_getElem (by omega), List.getElem?_eq_getElem (by omega)⟩, fun hi => ⟨vs, us, hs1, hs2, by omega, by omega, by omega⟩, fun p x H' hp y => ?_⟩
  obtain ⟨t, ob, v, u, rfl, ht, hd, rfl, hv, hu⟩ := y
  rw [zipL_get] at hp
  cases q : ps[i]? with
  | none => rw [q] at hp; cases hp
  | some p' =>
    cases q' : qs[i]? with
    | none => rw [q, q'] at hp; cases hp
    | some q2' =>
      rw [q, q'] at hp
      cases hp
      obtain ⟨v', a1, a2⟩ := hr1.get q
      obtain ⟨u', b1, b2⟩ := hr2.get q'
      have e3 := hv vs hs1
      rw [a1] at e3
      cases e3
      have e4 := hu us hs2
      rw [b1] at e4
      cases e4
      have e3 : Ext Z.T H1 (upd H1 t (.frz ob (.tup [v, u]))) := Ext.new ht
      exact ⟨e3, t, _, rfl, SqQ.of (Hm.of upd_same (o1.new ht)) hd, ⟨_, _, rfl, Rep.go (e2.trans (e3.Hm o1)) a2, _, _, rfl, Rep.go (e2.trans (e3.Hm o1)) b2, rfl⟩⟩
end
/-! ### walk read backwards -/
theorem walk_val {ps xs : List PV} (h : walk .val ps = .ok xs) : ∃ p, ps = [p] ∧ items p = some xs ∧ lim xs.length = true := by
  match ps, h with
  | [p], h =>
    have h : (match items p with | some xs => if lim xs.length then R.ok xs else .bad | none => .bad) = .ok xs := h
    cases e : items p with
    | none => rw [e] at h; cases h
    | some ys =>
      rw [e] at h
      by_cases l : lim ys.length = true
      · simp only [l, if_true] at h; cases h; exact ⟨p, rfl, e, l⟩
      · simp only [l] at h; cases h
  | [], h => cases h
  | _ :: _ :: _, h => cases h
theorem walk_enum {ps xs : List PV} (h : walk .enum ps = .ok xs) : ∃ p ys, ps = [p] ∧ items p = some ys ∧ lim ys.length = true ∧ xs = enumL 0 ys := by
  match ps, h with
  | [p], h =>
    have h : (match items p with | some xs => if lim xs.length then R.ok (enumL 0 xs) else .bad | none => .bad) = .ok xs := h
    cases e : items p with
    | none => rw [e] at h; cases h
    | some ys =>
      rw [e] at h
      by_cases l : lim ys.length = true
      · simp only [l, if_true] at h; cases h; exact ⟨p, ys, rfl, e, l, rfl⟩
      · simp only [l] at h; cases h
  | [], h => cases h
  | _ :: _ :: _, h => cases h
theorem walk_zip {ps xs : List PV} (h : walk .zip ps = .ok xs) : ∃ p q ys zs, ps = [p, q] ∧ items p = some ys ∧ items q = some zs ∧ xs = zipL ys zs := by
  match ps, h with
  | [p, q], h =>
    have h : (match items p, items q with | some xs, some ys => if lim xs.length && lim ys.length then R.ok (zipL xs ys) else .bad | _, _ => .bad) = .ok xs := h
    cases e : items p with
    | none => rw [e] at h; cases h
    | some ys =>
      cases e2 : items q with
      | none => rw [e, e2] at h; cases h
      | some zs =>
        rw [e, e2] at h
        by_cases l : (lim ys.length && lim zs.length) = true
        · simp only [l, if_true] at h; cases h; exact ⟨p, q, ys, zs, rfl, e, e2, rfl⟩
        · simp only [l] at h; cases h
  | [], h => cases h
  | [_], h => cases h
  | _ :: _ :: _ :: _, h => cases h
theorem walk_rng1 {ps xs : List PV} (h : walk .rng1 ps = .ok xs) : ∃ j, ps = [.int j] ∧ small j = true ∧ xs = rngL 0 j.toNat := by
  unfold walk at h
  split at h
  case h_2 j e =>
    by_cases l : small j = true
    · simp only [l, if_true] at h; cases h; exact ⟨j, rfl, l, rfl⟩
    · simp only [l] at h; cases h
  all_goals first | (rename_i e; cases e) | cases h
theorem walk_rng2 {ps xs : List PV} (h : walk .rng2 ps = .ok xs) : ∃ i j, ps = [.int i, .int j] ∧ (small i && small j) = true ∧ xs = rngL i (j - i).toNat := by
  unfold walk at h
  split at h
  case h_3 i j e =>
    by_cases l : (small i && small j) = true
    · simp only [l, if_true] at h; cases h; exact ⟨i, j, rfl, l, rfl⟩
    · simp only [l] at h; cases h
  all_goals first | (rename_i e; cases e) | cases h
theorem walk_nox {ik : IK} {ps : List PV} {k : Nat} : walk ik ps ≠ .exc k := by
  intro h
  unfold walk at h
  split at h
  all_goals try (first | cases h | skip)
  all_goals repeat' (split at h)
  all_goals cases h
section
variable {Z : Zx} {F : Fs} {X : Cx} {E : XK} {c : Ck}
theorem mg_free (C : Cxt Z F c X E) {x : String} (h : x ∈ ["len", "all", "any", "tuple", "list", "sorted", "sum", "min", "max", "int", "isinstance", "str", "bool", "range", "zip", "enumerate", "set", "dict", "ValueError"]) : X.mg (Str.ofString x) = none := C.free x h
theorem tIt_of {m : O.St → R (List PV)} {ik : IK} {σ : L2.St} {H : Hp} {RR : It → Hp → Prop} (h : tIt Z X.K E (fun ρ => (m ρ).bind (walk ik)) σ H RR) {Q : List V → Hp → Prop}
    (k : ∀ M ps xs vs H', walk ik ps = .ok xs → Own H' M → VwL Z X.K M H' ps vs → (∀ J H1, Ext Z.T H' H1 → ItOk Z X.K J xs H1 (Hm H1 M) → RR J H1) → Q vs H') : tLw Z X.K E m σ H Q := by
  obtain ⟨ρ, M, s, h⟩ := h
  dsimp only at h
  refine ⟨ρ, M, s, ?_⟩
  cases ea : m ρ with
  | bad => rw [ea] at h; exact h
  | exc j => rw [ea] at h; exact h
  | ok ps =>
    rw [ea] at h
    simp only [R.bind_ok] at h
    intro vs H1 e1 w1
    cases er : walk ik ps with
    | bad => rw [er] at h; exact h.elim
    | exc j => exact (walk_nox er).elim
    | ok xs =>
      rw [er] at h
      exact k M ps xs vs H1 er (s.own.go e1) w1 fun J H2 e2 io => h J H2 (e1.trans e2) io
theorem sound_I (C : Cxt Z F c X E) (hcalm : X.calm = true) {ik : IK} {ies : List Ex} {tg iter : Expr} {as : List Expr} (h : iterArgs c ik tg iter = some as) (hl : okL true c ies as = true)
    (ih : ∀ ir ∈ ies, ∀ e, okE c ir e = true → PE X e (tO Z X.K E (ev F ir))) : PI X tg iter (tIt Z X.K E (fun ρ => (evs F ies ρ).bind (walk ik))) := by
  have hA := argsw_sound C hl ih
  unfold iterArgs at h
  split at h
  · split at h
    · cases h
    · rename_i a _
      cases h
      obtain ⟨e, rfl⟩ : ∃ e, ies = [e] := by
        have := okL_shape hl
        match ies, this with
        | [e], _ => exact ⟨e, rfl⟩
      obtain ⟨_, he, _⟩ := okL_cons hl
      have hE := ih e (by simp) _ he
      refine PI.imp (PI.or (pi_list hE) (PI.or (pi_tup hE) (pi_str hE))) fun σ H RR q => ?_
      obtain ⟨ρ, M, s, q⟩ := q
      simp only [evs] at q
      cases ea : ev F e ρ with
      | bad => rw [ea] at q; exact q.elim
      | exc j => rw [ea] at q; exact .inl ⟨ρ, M, s, by rw [ea]; exact q⟩
      | ok p =>
        rw [ea] at q
        simp only [R.bind_ok] at q
        have hq : ∃ xs, items p = some xs ∧ lim xs.length = true ∧ ∀ J H1, Ext Z.T H H1 → ItOk Z X.K J xs H1 (Hm H1 M) → RR J H1 := by
          cases ew : walk .val [p] with
          | bad => rw [ew] at q; exact q.elim
          | exc j => exact (walk_nox ew).elim
          | ok xs =>
            rw [ew] at q
            obtain ⟨p', e0, e1, e2⟩ := walk_val ew
            cases e0
            exact ⟨xs, e1, e2, q⟩
        clear q
        obtain ⟨xs, e1, l, q⟩ := hq
        cases p with
        | lst ys =>
          cases e1
          refine .inl ⟨ρ, M, s, ?_⟩
          rw [ea]
          intro v H1 e w
          obtain ⟨a', vs, rfl, h1, h2⟩ := w
          exact ⟨a', rfl, ⟨vs, SqL.of h1⟩, q _ H1 e (itok_list h1 h2)⟩
        | tup ys =>
          cases e1
          refine .inr (.inl ⟨ρ, M, s, ?_⟩)
          rw [ea]
          intro v H1 e w
          obtain ⟨a', vs, rfl, h1, h2⟩ := w
          have h1' := sqT_up (s.own.go e) h1
          exact ⟨a', rfl, ⟨vs, h1'⟩, q _ H1 e (itok_tup h1' h2)⟩
        | str z =>
          cases e1
          refine .inr (.inr ⟨ρ, M, s, ?_⟩)
          rw [ea]
          intro v H1 e w
          obtain ⟨rfl, k⟩ := w
          exact ⟨_, rfl, q _ H1 e (itok_str k)⟩
        | _ => cases e1
  · split at h
    · rename_i hn
      cases h
      obtain ⟨rfl, g, d, n⟩ := gname_ok C hn
      obtain ⟨_, he, _⟩ := okL_cons (irs := ies.tail) (ir := ies.head (by cases ies with | nil => have := okL_shape hl; simp at this | cons => simp)) (by cases ies with | nil => have := okL_shape hl; simp at this | cons => exact hl)
      refine PI.imp (pi_range1 g (mg_free C (x := "range") (by simp)) hA (star_of he _ _)) fun σ H RR q => tIt_of q fun M ps xs vs H1 ew ow w k => ?_
      obtain ⟨j, rfl, sm, rfl⟩ := walk_rng1 ew
      obtain ⟨v, _, rfl, hv, rfl⟩ := w
      cases (show v = _ from hv)
      unfold small at sm
      rw [Bool.and_eq_true, decide_eq_true_eq, decide_eq_true_eq] at sm
      exact ⟨j, rfl, by omega, by omega, k _ H1 (Ext.refl H1) itok_range⟩
    · cases h
  · split at h
    · rename_i hn
      cases h
      obtain ⟨rfl, g, d, n⟩ := gname_ok C hn
      match ies, hl, hA with
      | [e, f], hl, hA =>
        obtain ⟨_, he, hl2⟩ := okL_cons hl
        obtain ⟨_, hf, _⟩ := okL_cons hl2
        refine PI.imp (pi_range2 g (mg_free C (x := "range") (by simp)) hA (by rw [star_of he, star_of hf]; rfl) (by rw [star_of hf]; rfl)) fun σ H RR q => tIt_of q fun M ps xs vs H1 ew ow w k => ?_
        obtain ⟨i, j, rfl, sm, rfl⟩ := walk_rng2 ew
        obtain ⟨v, _, rfl, hv, u, _, rfl, hu, rfl⟩ := w
        cases (show v = _ from hv)
        cases (show u = _ from hu)
        unfold small at sm
        rw [Bool.and_eq_true, Bool.and_eq_true, Bool.and_eq_true, decide_eq_true_eq, decide_eq_true_eq, decide_eq_true_eq, decide_eq_true_eq] at sm
        exact ⟨i, j, rfl, ⟨by omega, by omega, by omega, by omega⟩, k _ H1 (Ext.refl H1) itok_range⟩
      | [], hl, _ => have := okL_shape hl; simp at this
      | [_], hl, _ => have := okL_shape hl; simp at this
      | _ :: _ :: _ :: _, hl, _ => have := okL_shape hl; simp at this
    · cases h
  · split at h
    · rename_i hn
      cases h
      obtain ⟨rfl, g, d, n⟩ := gname_ok C hn
      match ies, hl, hA with
      | [e, f], hl, hA =>
        obtain ⟨_, he, hl2⟩ := okL_cons hl
        obtain ⟨_, hf, _⟩ := okL_cons hl2
        refine PI.imp (pi_zipS g (mg_free C (x := "zip") (by simp)) hA (star_of he _ _) (stars_of hl2)) fun σ H RR q => tIt_of q fun M ps xs vs H1 ew ow w k => ?_
        obtain ⟨p1, p2, ys, zs, rfl, i1, i2, rfl⟩ := walk_zip ew
        obtain ⟨v, _, rfl, hv, u, _, rfl, hu, rfl⟩ := w
        obtain ⟨z1, vs1, rfl, s1, r1⟩ := vw_src ow hv i1
        obtain ⟨z2, vs2, rfl, s2, r2⟩ := vw_src ow hu i2
        exact ⟨z1, z2, vs1, vs2, rfl, s1, s2, fun k1 k2 a1 a2 => k _ H1 (Ext.refl H1) (itok_zip (SK.of_base a1 s1) (SK.of_base a2 s2) r1 r2)⟩
      | [], hl, _ => have := okL_shape hl; simp at this
      | [_], hl, _ => have := okL_shape hl; simp at this
      | _ :: _ :: _ :: _, hl, _ => have := okL_shape hl; simp at this
    · cases h
  · split at h
    · rename_i hn
      cases h
      obtain ⟨rfl, g, d, n⟩ := gname_ok C hn
      match ies, hl, hA with
      | [e], hl, hA =>
        obtain ⟨_, he, hl2⟩ := okL_cons hl
        refine PI.imp (pi_enumA g (mg_free C (x := "enumerate") (by simp)) hA (star_of he _ _)) fun σ H RR q => tIt_of q fun M ps xs vs H1 ew ow w k => ?_
        obtain ⟨p1, ys, rfl, i1, l1, rfl⟩ := walk_enum ew
        obtain ⟨v, _, rfl, hv, rfl⟩ := w
        obtain ⟨z1, vs1, rfl, s1, r1⟩ := vw_src ow hv i1
        exact ⟨z1, vs1, rfl, s1, fun k1 a1 => k _ H1 (Ext.refl H1) (itok_enum (SK.of_base a1 s1) r1)⟩
      | [], hl, _ => have := okL_shape hl; simp at this
      | _ :: _ :: _, hl, _ => have := okL_shape hl; simp at this
    · cases h
  · cases h
end
end OS

end

section
set_option Elab.async false
set_option linter.all false
set_option maxRecDepth 100000
set_option maxHeartbeats 1000000
namespace OS
open PySem PySem.Spec PyProof.Rows L2 O
def XF : XK := fun _ _ _ => False
section
variable {Z : Zx} {K : PySem.W.Frag} {H H' : Hp} {M : List Addr} {σ : L2.St} {ρ : O.St}
/-! ### slots that change -/
theorem set_other {A : Type} {l : List A} {i j : Nat} {x : A} (h : j ≠ i) : (l.set i x)[j]? = l[j]? := by
  rw [List.getElem?_set]
  rw [if_neg fun e => h e.symm]
theorem set_at {A : Type} {l : List A} {i : Nat} {x y : A} (h : (l.set i x)[i]? = some y) : y = x ∧ i < l.length := by
  rw [List.getElem?_set] at h
  simp only [if_true] at h
  split at h
  · cases h; exact ⟨rfl, by assumption⟩
  · cases h
theorem set_here {A : Type} {l : List A} {i : Nat} {x : A} (h : i < l.length) : (l.set i x)[i]? = some x := by
  rw [List.getElem?_set]
  simp [h]
theorem held_other {s : SV} {i j : Nat} (h : j ≠ i) (k : Held (ρ.set i s) j) : Held ρ j := by
  rcases k with ⟨xs, e⟩ | ⟨xs, e⟩
  · exact .inl ⟨xs, by rw [← set_other h]; exact e⟩
  · exact .inr ⟨xs, by rw [← set_other h]; exact e⟩
theorem SR.setv (s : SR Z K M H σ ρ) {i : Nat} {p : PV} {v : V} (h : Rep Z K (Hm H M) p v) : SR Z K M H (σ.set i (some v)) (ρ.set i (.v p)) where
  own := s.own
  tabs := s.tabs
  len := by simpa using s.len
  fv := fun j q e => by
    by_cases hj : j = i
    · subst hj
      obtain ⟨e1, e2⟩ := set_at e
      cases e1
      exact ⟨v, set_here (Nat.lt_of_lt_of_le e2 s.len), h⟩
    · rw [set_other hj] at e
      obtain ⟨u, h1, h2⟩ := s.fv j q e
      exact ⟨u, by rw [set_other hj]; exact h1, h2⟩
  fo := fun j q e => by
    by_cases hj : j = i
    · subst hj
      exact absurd (set_at e).1 (by intro z; cases z)
    · rw [set_other hj] at e
      obtain ⟨a, u, h1, h2⟩ := s.fo j q e
      exact ⟨a, u, by rw [set_other hj]; exact h1, h2⟩
  fd := fun j q e => by
    by_cases hj : j = i
    · subst hj
      exact absurd (set_at e).1 (by intro z; cases z)
    · rw [set_other hj] at e
      obtain ⟨a, u, h1, h2⟩ := s.fd j q e
      exact ⟨a, u, by rw [set_other hj]; exact h1, h2⟩
  apart := fun j k a hjk h1 h2 e => by
    have n : ∀ j, Held (ρ.set i (.v p)) j → j ≠ i := fun j hj z => by
      subst z
      rcases hj with ⟨_, e⟩ | ⟨_, e⟩ <;> exact absurd (set_at e).1 (by intro z; cases z)
    have nj := n j h1
    have nk := n k h2
    rw [set_other nj] at e
    rw [set_other nk]
    exact s.apart j k a hjk (held_other nj h1) (held_other nk h2) e
theorem SR.setun (s : SR Z K M H σ ρ) {i : Nat} {o : Option V} : SR Z K M H (σ.set i o) (ρ.set i .un) where
  own := s.own
  tabs := s.tabs
  len := by simpa using s.len
  fv := fun j q e => by
    by_cases hj : j = i
    · subst hj
      exact absurd (set_at e).1 (by intro z; cases z)
    · rw [set_other hj] at e
      obtain ⟨u, h1, h2⟩ := s.fv j q e
      exact ⟨u, by rw [set_other hj]; exact h1, h2⟩
  fo := fun j q e => by
    by_cases hj : j = i
    · subst hj
      exact absurd (set_at e).1 (by intro z; cases z)
    · rw [set_other hj] at e
      obtain ⟨a, u, h1, h2⟩ := s.fo j q e
      exact ⟨a, u, by rw [set_other hj]; exact h1, h2⟩
  fd := fun j q e => by
    by_cases hj : j = i
    · subst hj
      exact absurd (set_at e).1 (by intro z; cases z)
    · rw [set_other hj] at e
      obtain ⟨a, u, h1, h2⟩ := s.fd j q e
      exact ⟨a, u, by rw [set_other hj]; exact h1, h2⟩
  apart := fun j k a hjk h1 h2 e => by
    have n : ∀ j, Held (ρ.set i .un) j → j ≠ i := fun j hj z => by
      subst z
      rcases hj with ⟨_, e⟩ | ⟨_, e⟩ <;> exact absurd (set_at e).1 (by intro z; cases z)
    have nj := n j h1
    have nk := n k h2
    rw [set_other nj] at e
    rw [set_other nk]
    exact s.apart j k a hjk (held_other nj h1) (held_other nk h2) e
/-- more is owned, and other things may have come -/
theorem SR.more {M' : List Addr} (s : SR Z K M H σ ρ) (ow : Own H' M') (hM : ∀ a ∈ M, a ∈ M' ∧ H' a = H a) (e : Ext Z.T (Hm H M) (Hm H' M')) : SR Z K M' H' σ ρ where
  own := ow
  tabs := (tabs_Hm ow).mp (e.tabs ((tabs_Hm s.own).mpr s.tabs))
  len := s.len
  fv := fun i p h => let ⟨v, h1, h2⟩ := s.fv i p h; ⟨v, h1, Rep.go e h2⟩
  fo := fun i p h => let ⟨a, vs, h1, h2, h3, h4⟩ := s.fo i p h; ⟨a, vs, h1, (hM a h2).1, by rw [(hM a h2).2]; exact h3, RepL.go e h4⟩
  fd := fun i p h => let ⟨a, vs, h1, h2, h3, h4, h5, h6⟩ := s.fd i p h; ⟨a, vs, h1, (hM a h2).1, by rw [(hM a h2).2]; exact h3, h4, h5, RepL.go e h6⟩
  apart := s.apart
def wipeO (ρ : O.St) : List Nat → O.St
  | [] => ρ
  | v :: vs => (wipeO ρ vs).set v .un
theorem SR.wipe (s : SR Z K M H σ ρ) : ∀ vs : List Nat, SR Z K M H (L2.wipe σ vs) (wipeO ρ vs)
  | [] => s
  | v :: vs => (SR.wipe s vs).setun
theorem wipeO_len (ρ : O.St) : ∀ vs : List Nat, (wipeO ρ vs).length = ρ.length
  | [] => rfl
  | v :: vs => by unfold wipeO; rw [List.length_set, wipeO_len ρ vs]
theorem wipeO_other (ρ : O.St) {j : Nat} : ∀ {vs : List Nat}, j ∉ vs → (wipeO ρ vs)[j]? = ρ[j]?
  | [], _ => rfl
  | v :: vs, h => by
    unfold wipeO
    rw [set_other (fun e => h (by rw [e]; exact List.mem_cons_self ..)), wipeO_other ρ fun m => h (List.mem_cons_of_mem _ m)]
theorem wipe_other (σ : L2.St) {j : Nat} : ∀ {vs : List Nat}, j ∉ vs → (L2.wipe σ vs)[j]? = σ[j]?
  | [], _ => rfl
  | v :: vs, h => by
    unfold L2.wipe
    rw [set_other (fun e => h (by rw [e]; exact List.mem_cons_self ..)), wipe_other σ fun m => h (List.mem_cons_of_mem _ m)]
theorem wipe_in (σ : L2.St) {j : Nat} : ∀ {vs : List Nat}, j ∈ vs → (L2.wipe σ vs)[j]? = if j < σ.length then some none else none
  | v :: vs, h => by
    unfold L2.wipe
    by_cases hj : j = v
    · subst hj
      rw [List.getElem?_set]
      simp only [if_true, L2.wipe_length]
    · rw [set_other hj]
      exact wipe_in σ ((List.mem_cons.mp h).resolve_left hj)
theorem wipe_eq {σ σ' : L2.St} {vs : List Nat} (hl : σ.length = σ'.length) (h : ∀ j, j ∉ vs → σ[j]? = σ'[j]?) : L2.wipe σ vs = L2.wipe σ' vs := by
  apply List.ext_getElem?
  intro j
  by_cases hj : j ∈ vs
  · rw [wipe_in σ hj, wipe_in σ' hj, hl]
  · rw [wipe_other σ hj, wipe_other σ' hj, h j hj]
/-- slots set one after another -/
def setsO : List Nat → List PV → O.St → O.St
  | i :: is, p :: ps, r => setsO is ps (r.set i (.v p))
  | _, _, r => r
theorem bindL_sets : ∀ {is : List Nat} {ps : List PV} {r r' : O.St}, bindL is ps r = some r' → r' = setsO is ps r ∧ is.length = ps.length
  | [], [], r, r', h => by cases h; exact ⟨rfl, rfl⟩
  | i :: is, p :: ps, r, r', h => by
    obtain ⟨h1, h2⟩ := bindL_sets (is := is) (ps := ps) (by unfold O.bindL at h; exact h)
    exact ⟨h1, by rw [List.length_cons, List.length_cons, h2]⟩
  | [], _ :: _, _, _, h => by cases h
  | _ :: _, [], _, _, h => by cases h
theorem bindL_of : ∀ {is : List Nat} {ps : List PV} {r : O.St}, is.length = ps.length → bindL is ps r = some (setsO is ps r)
  | [], [], r, h => rfl
  | i :: is, p :: ps, r, h => by
    unfold O.bindL setsO
    exact bindL_of (by simpa using h)
  | [], _ :: _, _, h => by simp at h
  | _ :: _, [], _, h => by simp at h
theorem setsO_len : ∀ {is : List Nat} {ps : List PV} {r : O.St}, (setsO is ps r).length = r.length
  | [], [], r => rfl
  | i :: is, p :: ps, r => by unfold setsO; rw [setsO_len, List.length_set]
  | [], _ :: _, _ => rfl
  | _ :: _, [], _ => rfl
theorem setsO_get : ∀ {is : List Nat} {ps : List PV} {r r' : O.St}, is.length = ps.length → r.length = r'.length → ∀ j, (j ∈ is ∨ r[j]? = r'[j]?) → (setsO is ps r)[j]? = (setsO is ps r')[j]?
  | [], [], r, r', _, _, j, h => by rcases h with h | h; cases h; exact h
  | i :: is, p :: ps, r, r', h1, h2, j, h => by
    unfold setsO
    refine setsO_get (by simpa using h1) (by simpa using h2) j ?_
    by_cases hj : j = i
    · subst hj
      right
      rw [List.getElem?_set, List.getElem?_set, h2]
      simp only [if_true]
    · rcases h with h | h
      · exact .inl ((List.mem_cons.mp h).resolve_left hj)
      · right
        rw [set_other hj, set_other hj]
        exact h
  | [], _ :: _, _, _, h, _, _, _ => by simp at h
  | _ :: _, [], _, _, h, _, _, _ => by simp at h
/-- behind the target's binding the wiped slots do not matter -/
theorem bindT_wipe {tg : Tg} {p : PV} {r r' : O.St} (h : bindT tg p r = .ok r') : bindT tg p (wipeO r (tgSlots tg)) = .ok r' := by
  cases tg with
  | one i =>
    cases h
    show R.ok (((r).set i .un).set i (.v p)) = .ok (r.set i (.v p))
    rw [List.set_set]
  | tup is =>
    cases p with
    | tup ps =>
      have h : (match bindL is ps r with | some r' => R.ok r' | none => .bad) = .ok r' := h
      cases e : bindL is ps r with
      | none => rw [e] at h; cases h
      | some r1 =>
        rw [e] at h
        cases h
        obtain ⟨rfl, hl⟩ := bindL_sets e
        show (match bindL is ps (wipeO r is) with | some r' => R.ok r' | none => .bad) = _
        rw [bindL_of hl]
        show R.ok _ = R.ok _
        congr 1
        apply List.ext_getElem?
        intro j
        refine setsO_get hl (wipeO_len r is) j ?_
        by_cases hj : j ∈ is
        · exact .inl hj
        · exact .inr (wipeO_other r hj)
    | _ => cases h
/-! ### targets -/
def gNs : List Nat → TGs
  | [] => gNil
  | i :: is => gCons (gName i) (gNs is)
def gT (K : PySem.W.Frag) : Tg → TG
  | .one i => gName i
  | .tup is => gTup K is.length (gNs is)
/-- what the slots are behind the binding -/
def setsV : List Nat → List V → L2.St → L2.St
  | i :: is, v :: vs, r => setsV is vs (r.set i (some v))
  | _, _, r => r
theorem setsV_len : ∀ {is : List Nat} {ps : List V} {r : L2.St}, (setsV is ps r).length = r.length
  | [], [], r => rfl
  | i :: is, p :: ps, r => by unfold setsV; rw [setsV_len, List.length_set]
  | [], _ :: _, _ => rfl
  | _ :: _, [], _ => rfl
theorem setsV_other : ∀ {is : List Nat} {ps : List V} {r : L2.St} {j : Nat}, j ∉ is → (setsV is ps r)[j]? = r[j]?
  | [], [], r, j, _ => rfl
  | i :: is, p :: ps, r, j, h => by
    unfold setsV
    rw [setsV_other fun m => h (List.mem_cons_of_mem _ m), set_other fun e => h (by rw [e]; exact List.mem_cons_self ..)]
  | [], _ :: _, _, _, _ => rfl
  | _ :: _, [], _, _, _ => rfl
theorem gNs_of : ∀ {is : List Nat} {vs : List V} {σ : L2.St} {H : Hp} {Q : L2.St → Hp → Prop}, is.length = vs.length → Q (setsV is vs σ) H → gNs is vs σ H Q
  | [], [], σ, H, Q, _, q => ⟨rfl, q⟩
  | i :: is, v :: vs, σ, H, Q, h, q => ⟨v, vs, rfl, gNs_of (by simpa using h) q⟩
  | [], _ :: _, _, _, _, h, _ => by simp at h
  | _ :: _, [], _, _, _, h, _ => by simp at h
theorem SR.sets : ∀ {is : List Nat} {ps : List PV} {vs : List V} {σ : L2.St} {ρ : O.St}, SR Z K M H σ ρ → RepL Z K (Hm H M) ps vs → SR Z K M H (setsV is vs σ) (setsO is ps ρ)
  | [], ps, vs, σ, ρ, s, h => by cases ps <;> cases vs <;> exact s
  | i :: is, [], vs, σ, ρ, s, h => by
    rw [show vs = [] from h]
    exact s
  | i :: is, p :: ps, vs, σ, ρ, s, h => by
    obtain ⟨v, r, rfl, h1, h2⟩ := h
    unfold setsV setsO
    exact SR.sets (s.setv h1) h2
/-- binding a target: the slots behind it -/
theorem gT_of {tg : Tg} {p : PV} {v : V} {ρ' : O.St} {Q : L2.St → Hp → Prop} (s : SR Z K M H σ ρ) (h : bindT tg p ρ = .ok ρ') (hr : Rep Z K (Hm H M) p v) (q : ∀ σ', SR Z K M H σ' ρ' → σ'.length = σ.length → (∀ j, j ∉ tgSlots tg → σ'[j]? = σ[j]?) → Q σ' H) : gT K tg v σ H Q := by
  cases tg with
  | one i =>
    cases h
    exact q _ (s.setv hr) (by simp) fun j hj => set_other fun e => hj (by rw [e]; exact List.mem_cons_self ..)
  | tup is =>
    cases p with
    | tup ps =>
      have h : (match bindL is ps ρ with | some r' => R.ok r' | none => .bad) = .ok ρ' := h
      cases e : bindL is ps ρ with
      | none => rw [e] at h; cases h
      | some r1 =>
        rw [e] at h
        cases h
        obtain ⟨rfl, hl⟩ := bindL_sets e
        obtain ⟨a, vs, rfl, h1, h2⟩ := hr
        have hl2 := h2.length
        refine ⟨a, vs, rfl, SqT.go (T := []) (Ext.unHm s.own) h1.1, by omega, gNs_of (by omega) (q _ (s.sets h2) setsV_len fun j hj => setsV_other hj)⟩
    | _ => cases h
end
section
variable {Z : Zx} {F : Fs} {X : Cx} {E : XK} {c : Ck}
theorem loc_of (C : Cxt Z F c X E) {x : Str} (h : (match c.sc.names.lookup x with | some .local => true | some .cell => c.loc x | _ => false) = true) : Loc X.env.scope x ∧ (X.fn x = true ∨ X.env.scope.names.lookup x = some .local) := by
  rw [C.sc]
  split at h
  · exact ⟨.inl (by assumption), .inr (by assumption)⟩
  · exact ⟨.inr (by assumption), .inl (C.loc x h)⟩
  · cases h
theorem tg_sound (C : Cxt Z F c X E) {tg : Tg} {e : Expr} (h : tgOk c tg e = true) : PG X e (gT X.K tg) := by
  unfold tgOk at h
  split at h
  · rename_i i x p
    rw [Bool.and_eq_true, decide_eq_true_eq] at h
    obtain ⟨h1, h2⟩ := h
    obtain ⟨l1, l2⟩ := loc_of C h2
    exact pg_name C.nd (by rw [C.N]; exact h1) l1 l2
  · rename_i is es k p
    rw [Bool.and_eq_true, Bool.and_eq_true, decide_eq_true_eq] at h
    obtain ⟨⟨hc, hl⟩, h⟩ := h
    have go : ∀ (is : List Nat) (es : List Expr), is.length = es.length → ((is.zip es).all fun q => (match q.2 with
        | .Name x _ => decide (c.N[q.1]? = some x) && (match c.sc.names.lookup x with | some .local => true | some .cell => c.loc x | _ => false)
        | _ => false)) = true → PGs X es (gNs is) ∧ (assignEach es X.env).length = is.length ∧ (assignEach es X.env).findIdx? (·.1) = none := by
      intro is
      induction is with
      | nil =>
        intro es hl _
        cases es with
        | nil => exact ⟨pgs_nil, rfl, rfl⟩
        | cons => simp at hl
      | cons i is ih =>
        intro es hl h
        cases es with
        | nil => simp at hl
        | cons e es =>
          rw [List.zip_cons_cons, List.all_cons, Bool.and_eq_true] at h
          obtain ⟨h1, h2⟩ := h
          obtain ⟨g1, g2, g3⟩ := ih es (by simpa using hl) h2
          cases e with
          | Name x p =>
            have h1 : (decide (c.N[i]? = some x) && (match c.sc.names.lookup x with | some .local => true | some .cell => c.loc x | _ => false)) = true := h1
            rw [Bool.and_eq_true, decide_eq_true_eq] at h1
            obtain ⟨l1, l2⟩ := loc_of C h1.2
            refine ⟨pgs_cons (pg_name C.nd (by rw [C.N]; exact h1.1) l1 l2) g1 rfl, ?_, ?_⟩
            · show (assignEach es X.env).length + 1 = is.length + 1
              rw [g2]
            · show List.findIdx? (·.1) ((false, assign (.Name x p) X.env) :: assignEach es X.env) = none
              rw [List.findIdx?_cons]
              rw [g3]
              rfl
          | _ => cases h1
    obtain ⟨g1, g2, g3⟩ := go is es hl h
    exact pg_tup (C.calm hc) g1 g2 g3
  · cases h
/-- the block of a comprehension -/
theorem blk_cxt (C : Cxt Z F c X E) (hcm : c.calm = true) (scope : Scope) (s : Shared) (H : Hp) (D : Addr) (cl : List (Str × Addr)) (fp : List Addr) : Cxt Z F (blkCk c scope) (X.blk s H scope (compEnvC scope cl D X.env) fp) XF where
  sc := by
    show relabel scope X.env = relS scope c.sc
    rw [← C.sc]
    rfl
  N := C.N
  nd := C.nd
  loc := fun x h => h
  calm := C.calm
  un := C.un
  dep := C.dep
  lam := fun h => by cases h
  glob := C.glob
  tabs := C.tabs
  free := C.free
  call := C.call
  pass := fun pins σ H s e s' I q => by
    obtain ⟨_, _, _, _, _, _, _, _, _, _, _, _, z⟩ := q
    exact z
  cxa := fun _ => C.cxa hcm
  isx := fun a k h => by rw [C.cxa hcm] at h; cases h
  mkr := fun h => by cases h
  okl := fun h => by cases h
  clo := C.clo
  hotx := .inl hcm
  hotr := fun _ _ h => by cases h
/-! ### a new list -/
def PN (Z : Zx) (K : PySem.W.Frag) (E : XK) (M : List Addr) (H : Hp) (Q : VK) : R PV → Prop
  | .ok (.lst ps) => ∀ a vs H', a ∉ M → Ext Z.T H H' → H' a = some (.lst vs) → Ext Z.T (Hm H M) (Hm H' (a :: M)) → RepL Z K (Hm H' (a :: M)) ps vs → Q (.ref a) H'
  | .ok _ => False
  | .exc k => ∀ H', Ext Z.T (Hm H M) H' → E (.ref (Z.cad k)) none H'
  | .bad => False
def tN (Z : Zx) (K : PySem.W.Frag) (E : XK) (m : O.St → R PV) : TE := fun σ H Q => ∃ ρ M, SR Z K M H σ ρ ∧ PN Z K E M H Q (m ρ)
theorem own_cons {H : Hp} {M : List Addr} {a : Addr} {vs : List V} (ow : Own H M) (h : H a = some (.lst vs)) : Own H (a :: M) := fun b hb => by
  rcases List.mem_cons.mp hb with rfl | hb
  · exact .inl ⟨vs, h⟩
  · exact ow b hb
/-- what is owned is given free -/
theorem ext_less {T : List (Addr × Str)} {H : Hp} {M : List Addr} {a : Addr} {vs : List V} (ow : Own H M) (h : H a = some (.lst vs)) : Ext T (Hm H (a :: M)) (Hm H M) :=
  ⟨fun b o e _ => by obtain ⟨e1, e2⟩ := Hm.in e; exact Hm.of e1 fun m => e2 (List.mem_cons_of_mem _ m), fun t => (tabs_Hm ow).mpr ((tabs_Hm (own_cons ow h)).mp t)⟩
theorem PN.of {M : List Addr} {H : Hp} {Q : VK} (ow : Own H M) : ∀ {r : R PV}, (∀ p, r = .ok p → ∃ ps, p = .lst ps) → Pk Z X.K E M H Q r → PN Z X.K E M H Q r
  | .bad, _, h => h
  | .exc _, _, h => h
  | .ok p, k, h => by
    obtain ⟨ps, rfl⟩ := k p rfl
    intro a vs H' ha e h1 e2 hr
    refine h _ H' e ?_
    exact ⟨a, vs, rfl, Hm.of h1 ha, RepL.go (ext_less (T := Z.T) (ow.go e) h1) hr⟩
theorem tabs_upd {T : List (Addr × Str)} {H : Hp} {a : Addr} {vs us : List V} (h : H a = some (.lst vs)) : LamX.Tabs T (upd H a (.lst us)) ↔ LamX.Tabs T H := by
  have o1 : Own H [a] := own_cons (M := []) (fun _ z => by cases z) h
  have o2 : Own (upd H a (.lst us)) [a] := own_cons (M := []) (fun _ z => by cases z) upd_same
  have e : Hm (upd H a (.lst us)) [a] = Hm H [a] := by
    funext b
    unfold Hm
    by_cases hb : b = a
    · subst hb; simp
    · simp only [List.mem_singleton, hb, if_false]
      rw [upd_ne hb]
  rw [← tabs_Hm o1, ← tabs_Hm o2, e]
theorem hm_upd {H : Hp} {M : List Addr} {a : Addr} {o : HO} (h : a ∈ M) : Hm (upd H a o) M = Hm H M := by
  funext b
  unfold Hm
  by_cases hb : b = a
  · subst hb; simp [h]
  · rw [upd_ne hb]
/-- while the list grows -/
structure Grow (Z : Zx) (K : PySem.W.Frag) (M : List Addr) (D : Addr) (H1 : Hp) (i : Nat) (qs : List PV) (H : Hp) : Prop where
  own : Own H (D :: M)
  ext : Ext Z.T H1 H
  low : Ext Z.T (Hm H1 M) (Hm H (D :: M))
  acc : ∃ acc, H D = some (.lst acc) ∧ RepL Z K (Hm H (D :: M)) qs acc ∧ acc.length ≤ i
theorem Grow.start {K : PySem.W.Frag} {M : List Addr} {D : Addr} {H1 : Hp} (ow : Own H1 M) (h : H1 D = none) : Grow Z K M D H1 0 [] (upd H1 D (.lst [])) := by
  have o := ow.go (Ext.new (T := Z.T) (o := .lst []) h)
  have e : Hm (upd H1 D (.lst [])) (D :: M) = Hm H1 M := by
    funext b
    unfold Hm
    by_cases hb : b = D
    · subst hb; simp [h]
    · simp only [List.mem_cons, hb, false_or]
      rw [upd_ne hb]
  refine ⟨own_cons o upd_same, Ext.new h, ?_, [], upd_same, rfl, Nat.le_refl _⟩
  rw [e]
  exact Ext.refl _
theorem Grow.go {K : PySem.W.Frag} {M : List Addr} {D : Addr} {H1 H H' : Hp} {i : Nat} {qs : List PV} (g : Grow Z K M D H1 i qs H) (e : Ext Z.T H H') : Grow Z K M D H1 i qs H' := by
  obtain ⟨acc, h1, h2, h3⟩ := g.acc
  exact ⟨g.own.go e, g.ext.trans e, g.low.trans (e.Hm g.own), acc, e.keep _ _ h1 noTbl.lst, RepL.go (e.Hm g.own) h2, h3⟩
theorem Grow.skip {K : PySem.W.Frag} {M : List Addr} {D : Addr} {H1 H : Hp} {i : Nat} {qs : List PV} (g : Grow Z K M D H1 i qs H) : Grow Z K M D H1 (i + 1) qs H := by
  obtain ⟨acc, h1, h2, h3⟩ := g.acc
  exact ⟨g.own, g.ext, g.low, acc, h1, h2, by omega⟩
theorem Grow.add {K : PySem.W.Frag} {M : List Addr} {D : Addr} {H1 H : Hp} {i : Nat} {qs : List PV} {q : PV} {v : V} (h0 : H1 D = none) (g : Grow Z K M D H1 i qs H) (hr : Rep Z K (Hm H (D :: M)) q v) : ∃ acc, H D = some (.lst acc) ∧ acc.length ≤ i ∧ Grow Z K M D H1 (i + 1) (qs ++ [q]) (upd H D (.lst (acc ++ [v]))) := by
  obtain ⟨acc, h1, h2, h3⟩ := g.acc
  have hm : Hm (upd H D (.lst (acc ++ [v]))) (D :: M) = Hm H (D :: M) := hm_upd (List.mem_cons_self ..)
  refine ⟨acc, h1, h3, ⟨fun b hb => ?_, ⟨fun b o e n => ?_, fun t => (tabs_upd h1).mpr (g.ext.tabs t)⟩, by rw [hm]; exact g.low, acc ++ [v], upd_same, by rw [hm]; exact RepL.append h2 ⟨v, [], rfl, hr, rfl⟩, by rw [List.length_append, List.length_singleton]; omega⟩⟩
  · by_cases hD : b = D
    · subst hD
      exact .inl ⟨_, upd_same⟩
    · rw [upd_ne hD]
      exact g.own b hb
  · have hD : b ≠ D := fun z => by rw [z, h0] at e; cases e
    rw [upd_ne hD]
    exact g.ext.keep b o e n
theorem walk_len {ik : IK} {ps xs : List PV} (h : walk ik ps = .ok xs) : xs.length ≤ 2000000 := by
  have sm : ∀ j : Int, small j = true → j ≤ 1000000 ∧ -1000000 ≤ j := fun j hj => by
    unfold small at hj
    rw [Bool.and_eq_true, decide_eq_true_eq, decide_eq_true_eq] at hj
    omega
  cases ik with
  | val =>
    obtain ⟨p, _, _, l⟩ := walk_val h
    have := of_decide_eq_true l
    omega
  | rng1 =>
    obtain ⟨j, _, l, rfl⟩ := walk_rng1 h
    have := sm j l
    simp only [rngL, List.length_map, List.length_range]
    omega
  | rng2 =>
    obtain ⟨i, j, _, l, rfl⟩ := walk_rng2 h
    rw [Bool.and_eq_true] at l
    have := sm j l.2
    have := sm i l.1
    simp only [rngL, List.length_map, List.length_range]
    omega
  | enum =>
    obtain ⟨p, ys, _, _, l, rfl⟩ := walk_enum h
    have := of_decide_eq_true l
    rw [enumL_len]
    omega
  | zip =>
    unfold walk at h
    split at h
    case h_4 p q e =>
      cases e1 : items p with
      | none => rw [e1] at h; cases h
      | some ys =>
        cases e2 : items q with
        | none => rw [e1, e2] at h; cases h
        | some zs =>
          rw [e1, e2] at h
          by_cases l : (lim ys.length && lim zs.length) = true
          · simp only [l, if_true] at h
            cases h
            rw [Bool.and_eq_true] at l
            have := of_decide_eq_true l.1
            rw [zipL_len]
            omega
          · simp only [l] at h; cases h
    all_goals first | (rename_i e; cases e) | cases h
/-- what one turn of a comprehension does -/
def turnC (F : Fs) (elt : Ex) (tg : Tg) (ifs : List Ex) (r : O.St) (x : PV) : R (Option PV) :=
  (bindT tg x r).bind fun r' => (evAnd F ifs r').bind fun p => (asBl p).bind fun b => if b then (ev F elt r').bind fun y => .ok (some y) else .ok none
theorem ev_comp {elt : Ex} {tg : Tg} {ik : IK} {ies ifs : List Ex} {r : O.St} : ev F (.comp elt tg ik ies ifs) r = ((evs F ies r).bind (walk ik)).bind fun xs => (compL (turnC F elt tg ifs r) xs).bind fun ys => .ok (.lst ys) := by
  unfold ev
  cases evs F ies r <;> rfl
theorem compL_nox {f : PV → R (Option PV)} {k : Nat} : ∀ {xs : List PV}, compL f xs ≠ .exc k
  | [], h => by cases h
  | x :: xs, h => by
    unfold compL at h
    cases e : f x with
    | bad => rw [e] at h; cases h
    | exc j => rw [e] at h; cases h
    | ok o =>
      rw [e] at h
      cases o with
      | none => exact compL_nox h
      | some y =>
        cases e2 : compL f xs with
        | ok ys => rw [e2] at h; cases h
        | exc j => exact compL_nox e2
        | bad => rw [e2] at h; cases h
theorem turn_inv {elt : Ex} {tg : Tg} {ifs : List Ex} {r : O.St} {x : PV} {o : Option PV} (h : turnC F elt tg ifs r x = .ok o) : ∃ r' b, bindT tg x r = .ok r' ∧ evAnd F ifs r' = .ok (.bl b) ∧ (b = true → ∃ y, ev F elt r' = .ok y ∧ o = some y) ∧ (b = false → o = none) := by
  unfold turnC at h
  cases e1 : bindT tg x r with
  | bad => rw [e1] at h; cases h
  | exc k => rw [e1] at h; cases h
  | ok r' =>
    rw [e1] at h
    simp only [R.bind_ok] at h
    cases e2 : evAnd F ifs r' with
    | bad => rw [e2] at h; cases h
    | exc k => rw [e2] at h; cases h
    | ok p =>
      rw [e2] at h
      cases p with
      | bl b =>
        simp only [R.bind_ok, asBl] at h
        refine ⟨r', b, rfl, e2, fun hb => ?_, fun hb => ?_⟩
        · subst hb
          simp only [if_true] at h
          cases e3 : ev F elt r' with
          | bad => rw [e3] at h; cases h
          | exc k => rw [e3] at h; cases h
          | ok y => rw [e3] at h; cases h; exact ⟨y, rfl, rfl⟩
        · subst hb
          simp only [Bool.false_eq_true, if_false] at h
          cases h
          rfl
      | _ => cases h
theorem tLc_of {elt : Ex} {tg : Tg} {ik : IK} {ies ifs : List Ex} {σ : L2.St} {H : Hp} {Q : VK} (h : tN Z X.K E (ev F (.comp elt tg ik ies ifs)) σ H Q) :
    tLc (tIt Z X.K E (fun ρ => (evs F ies ρ).bind (walk ik))) (gT X.K tg) (tB Z X.K XF (evAnd F ifs)) (tM Z X.K XF (ev F elt)) (tgSlots tg) σ H Q := by
  obtain ⟨ρ, M, s, h⟩ := h
  rw [ev_comp] at h
  refine ⟨ρ, M, s, ?_⟩
  dsimp only
  cases ea : (evs F ies ρ).bind (walk ik) with
  | bad => rw [ea] at h; exact h
  | exc k => rw [ea] at h; exact h
  | ok xs =>
    rw [ea] at h
    have hlen : xs.length ≤ 2000000 := by
      cases eb : evs F ies ρ with
      | bad => rw [eb] at ea; cases ea
      | exc k => rw [eb] at ea; cases ea
      | ok ps => rw [eb] at ea; exact walk_len ea
    simp only [R.bind_ok] at h
    intro J H1 e1 io D hD
    have own1 := s.own.go e1
    cases ec : compL (turnC F elt tg ifs ρ) xs with
    | bad => rw [ec] at h; exact h.elim
    | exc k => exact (compL_nox ec).elim
    | ok ys =>
      rw [ec] at h
      simp only [R.bind_ok] at h
      refine ⟨fun i m Hc => m = xs.length - i ∧ i ≤ xs.length ∧ ∃ qs zs, ys = qs ++ zs ∧ compL (turnC F elt tg ifs ρ) (xs.drop i) = .ok zs ∧ Grow Z X.K M D H1 i qs Hc, ⟨xs.length, by simp, Nat.zero_le _, [], ys, rfl, by simpa using ec, Grow.start own1 hD⟩, ?_⟩
      rintro i m Hc ⟨rfl, hi, qs, zs, ey, ez, g⟩
      obtain ⟨j1, j2, j3⟩ := io Hc (D :: M) g.own g.ext g.low i
      by_cases hlt : i < xs.length
      · refine .inr ⟨j1 hlt, fun H' => ∃ qs zs, ys = qs ++ zs ∧ compL (turnC F elt tg ifs ρ) (xs.drop (i + 1)) = .ok zs ∧ Grow Z X.K M D H1 (i + 1) qs H', fun H' hN => ⟨xs.length - (i + 1), by omega, rfl, hlt, hN⟩, fun x H' hy => ?_⟩
        rw [List.drop_eq_getElem_cons hlt] at ez
        obtain ⟨e2, hx⟩ := j3 xs[i] x H' (List.getElem?_eq_getElem hlt) hy
        have g2 := g.go e2
        have sr : SR Z X.K (D :: M) H' σ ρ := (s.go e1).more g2.own (fun a ha => ⟨List.mem_cons_of_mem _ ha, by
          rcases own1 a ha with ⟨l, z⟩ | ⟨l, z⟩
          · rw [z]; exact g2.ext.keep _ _ z noTbl.lst
          · rw [z]; exact g2.ext.keep _ _ z noTbl.dK⟩) g2.low
        unfold compL at ez
        cases et : turnC F elt tg ifs ρ xs[i] with
        | bad => rw [et] at ez; cases ez
        | exc k => rw [et] at ez; cases ez
        | ok o =>
          rw [et] at ez
          obtain ⟨ρ', b, t1, t2, t3, t4⟩ := turn_inv et
          refine gT_of (sr.wipe (tgSlots tg)) (bindT_wipe t1) hx fun σ' sr' hl' ho' => ⟨?_, ρ', D :: M, sr', ?_⟩
          · refine wipe_eq (by rw [hl', L2.wipe_length]) fun j hj => ?_
            rw [ho' j hj, wipe_other σ hj]
          · rw [t2]
            intro H3 e3
            cases b with
            | false =>
              rw [if_neg Bool.false_ne_true]
              cases t4 rfl
              exact ⟨qs, zs, ey, ez, (g2.go e3).skip⟩
            | true =>
              rw [if_pos rfl]
              obtain ⟨y, u1, rfl⟩ := t3 rfl
              refine ⟨ρ', D :: M, sr'.go e3, ?_⟩
              rw [u1]
              intro v H4 e4 hv
              obtain ⟨acc, a1, a2, a3⟩ := Grow.add hD ((g2.go e3).go e4) hv
              have ez : (compL (turnC F elt tg ifs ρ) (xs.drop (i + 1))).bind (fun ys => .ok (y :: ys)) = .ok zs := ez
              cases ew : compL (turnC F elt tg ifs ρ) (xs.drop (i + 1)) with
              | bad => rw [ew] at ez; cases ez
              | exc k => rw [ew] at ez; cases ez
              | ok ws =>
                rw [ew] at ez
                cases ez
                refine ⟨acc, a1, ?_, qs ++ [y], ws, by rw [ey, List.append_assoc]; rfl, rfl, a3⟩
                show acc.length < 2 ^ 24
                omega
      · have e : i = xs.length := by omega
        subst e
        rw [List.drop_length] at ez
        cases ez
        rw [List.append_nil] at ey
        subst ey
        obtain ⟨acc, a1, a2, a3⟩ := g.acc
        exact .inl ⟨j2 rfl, h D acc Hc (own1.new hD) (e1.trans g.ext) a1 ((e1.Hm s.own).trans g.low) a2⟩
end
end OS

end

section
set_option Elab.async false
set_option linter.all false
set_option maxRecDepth 100000
set_option maxHeartbeats 1000000
namespace OS
open PySem PySem.Spec PyProof.Rows L2 O
/-! ### no exceptions of their own -/
theorem sized_nox {n : Nat} {p : PV} {k : Nat} : sized n p ≠ .exc k := by
  unfold sized
  split <;> intro h <;> cases h
theorem bop_nox (o : Bop) : Calm2 (bop o) := by
  intro p q k h
  cases o with
  | add =>
    have h : addP p q = .exc k := h
    unfold addP at h
    split at h <;> first | exact sized_nox h | cases h
  | sub =>
    have h : subP p q = .exc k := h
    unfold subP at h
    split at h <;> cases h
  | mul =>
    have h : mulP p q = .exc k := h
    unfold mulP at h
    split at h <;> (try split at h) <;> cases h
  | fdiv =>
    have h : fdivP p q = .exc k := h
    unfold fdivP at h
    split at h <;> (try split at h) <;> cases h
  | mod =>
    have h : modP p q = .exc k := h
    unfold modP at h
    split at h <;> (try split at h) <;> cases h
  | pow =>
    have h : powP p q = .exc k := h
    unfold powP at h
    split at h <;> (try split at h) <;> cases h
  | shl =>
    have h : shlP p q = .exc k := h
    unfold shlP at h
    split at h <;> (try split at h) <;> cases h
theorem rb_nox {r : R Bool} {f : Bool → R PV} {k : Nat} (h1 : r ≠ .exc k) (h2 : ∀ b, f b ≠ .exc k) : r.bind f ≠ .exc k := by
  cases r with
  | ok b => exact h2 b
  | exc j => intro h; cases h; exact h1 rfl
  | bad => intro h; cases h
theorem eqP_nox {p q : PV} {k : Nat} : eqP p q ≠ .exc k := by
  intro h
  unfold eqP at h
  split at h <;> (try split at h) <;> cases h
theorem isIn_nox {p q : PV} {k : Nat} : isIn p q ≠ .exc k := by
  intro h
  unfold isIn at h
  split at h <;> (try split at h) <;> cases h
theorem cop_nox (o : Cop) : Calm2 (cop o) := by
  intro p q k h
  cases o with
  | eq => exact rb_nox eqP_nox (fun b z => by cases z) h
  | ne => exact rb_nox eqP_nox (fun b z => by cases z) h
  | isin => exact rb_nox isIn_nox (fun b z => by cases z) h
  | notin => exact rb_nox isIn_nox (fun b z => by cases z) h
  | lt =>
    have h : ltP p q = .exc k := h
    unfold ltP at h
    split at h <;> cases h
  | le =>
    have h : leP p q = .exc k := h
    unfold leP at h
    split at h <;> cases h
  | gt =>
    have h : gtP p q = .exc k := h
    unfold gtP at h
    split at h <;> cases h
  | ge =>
    have h : geP p q = .exc k := h
    unfold geP at h
    split at h <;> cases h
theorem idx_nox : Calm2 idx := by
  intro p q k h
  unfold idx at h
  split at h <;> (try split at h) <;> (try split at h) <;> cases h
theorem cut_nox {p : PV} {lo hi : Option Int} {k : Nat} : cut p lo hi ≠ .exc k := by
  intro h
  unfold cut at h
  split at h <;> (try split at h) <;> cases h
theorem bi_nox {b : Bi} (hb : biIs b = true ∨ ∃ t, b = .isi t) {ps : List PV} {k : Nat} : bi b ps ≠ .exc k := by
  intro h
  cases b with
  | len =>
    have h : lenP ps = .exc k := h
    unfold lenP at h
    split at h <;> (try split at h) <;> cases h
  | all =>
    have h : allP ps = .exc k := h
    unfold allP at h
    split at h <;> (try split at h) <;> cases h
  | any =>
    have h : anyP ps = .exc k := h
    unfold anyP at h
    split at h <;> (try split at h) <;> cases h
  | tup =>
    have h : tupP ps = .exc k := h
    unfold tupP at h
    split at h <;> cases h
  | lst =>
    have h : lstP ps = .exc k := h
    unfold lstP at h
    split at h <;> cases h
  | min =>
    have h : minLP ps = .exc k := h
    unfold minLP at h
    split at h <;> (try split at h) <;> (try split at h) <;> (try split at h) <;> cases h
  | max =>
    have h : maxLP ps = .exc k := h
    unfold maxLP at h
    split at h <;> (try split at h) <;> (try split at h) <;> cases h
  | sum =>
    have h : sumP ps = .exc k := h
    unfold sumP at h
    split at h <;> (try split at h) <;> cases h
  | max2 =>
    have h : max2P ps = .exc k := h
    unfold max2P at h
    split at h <;> cases h
  | int1 =>
    have h : int1P ps = .exc k := h
    unfold int1P at h
    split at h <;> cases h
  | isi t =>
    have h : isiP t ps = .exc k := h
    unfold isiP at h
    split at h <;> (try split at h) <;> cases h
  | srt =>
    have h : srtP ps = .exc k := h
    unfold srtP at h
    split at h <;> (try split at h) <;> (try split at h) <;> (try split at h) <;> (try split at h) <;> cases h
theorem mt_nox {m : Mt} (hm : mtIs m = true) {p : PV} {ps : List PV} {k : Nat} : mt m p ps ≠ .exc k := by
  intro h
  cases m with
  | join =>
    have h : joinP p ps = .exc k := h
    unfold joinP at h
    split at h <;> (try split at h) <;> (try split at h) <;> first | exact sized_nox h | cases h
  | sindex =>
    have h : sindexP p ps = .exc k := h
    unfold sindexP at h
    split at h <;> (try split at h) <;> (try split at h) <;> cases h
  | count =>
    have h : countP p ps = .exc k := h
    unfold countP at h
    split at h <;> (try split at h) <;> cases h
  | index =>
    have h : indexP p ps = .exc k := h
    unfold indexP at h
    split at h <;> (try split at h) <;> (try split at h) <;> cases h
  | startswith =>
    have h : startswithP p ps = .exc k := h
    unfold startswithP at h
    split at h <;> cases h
  | partition =>
    have h : partitionP p ps = .exc k := h
    unfold partitionP at h
    split at h <;> (try split at h) <;> (try split at h) <;> cases h
  | lstrip =>
    have h : lstripP p ps = .exc k := h
    unfold lstripP at h
    split at h <;> (try split at h) <;> cases h
  | split =>
    have h : splitP p ps = .exc k := h
    unfold splitP at h
    split at h <;> (try split at h) <;> cases h
section
variable {Z : Zx} {F : Fs} {X : Cx} {E : XK} {c : Ck} {a b d : Expr} {pos : Pos} {ma mb md : O.St → R PV}
/-- a reading of a truth value as a test -/
theorem tB_tM {m : O.St → R PV} {σ : L2.St} {H : Hp} {Q : Bool → Hp → Prop} (h : tB Z X.K E m σ H Q) : tM Z X.K E m σ H fun x H1 => ∃ k, x = .bl k ∧ Q k H1 := by
  obtain ⟨ρ, M, s, h⟩ := h
  refine ⟨ρ, M, s, ?_⟩
  cases e : m ρ with
  | bad => rw [e] at h; exact h
  | exc k => rw [e] at h; exact h
  | ok p =>
    rw [e] at h
    cases p with
    | bl b =>
      intro v H' e1 hv
      exact ⟨b, hv, h H' e1⟩
    | _ => exact h.elim
/-- from an expression that gives a truth value -/
theorem pt_of {e : Expr} {m : O.St → R PV} {t : TE} (h : PT X e (tTest t)) (i : ∀ σ H Q, tM Z X.K E m σ H Q → t σ H Q) : PT X e (tB Z X.K E m) :=
  PT.imp h fun σ H Q q => i σ H _ (tB_tM q)
theorem pt_plain {e : Expr} {m : O.St → R PV} (h : PE X e (tM Z X.K E m)) (he : ∀ whole, isTrue e X.env whole = (do let v ← whole; standAt e.pos; holding [v] (truthy v))) : PT X e (tB Z X.K E m) :=
  PT.imp (pt_val h he) fun σ H Q q => tB_tM q
theorem pe_oM {e : Expr} {m : O.St → R PV} (h : PE X e (tM Z X.K E m)) : PE X e (tO Z X.K E m) := PE.imp h fun _ _ _ => tO.tM
/-! chain -/
def chainP (o1 o2 : Cop) (ma mb md : O.St → R PV) (ρ : O.St) : R PV := (ma ρ).bind fun p => (mb ρ).bind fun q => (cop o1 p q).bind fun z => match z with
    | .bl true => (md ρ).bind fun t => cop o2 q t
    | .bl false => .ok (.bl false)
    | _ => .bad
theorem cop_bl {o : Cop} {p q r : PV} (h : cop o p q = .ok r) : ∃ b, r = .bl b := by
  cases o with
  | eq => obtain ⟨b, _, e⟩ := bind_bl (f := id) h; exact ⟨_, e⟩
  | ne => obtain ⟨b, _, e⟩ := bind_bl h; exact ⟨_, e⟩
  | isin => obtain ⟨b, _, e⟩ := bind_bl (f := id) h; exact ⟨_, e⟩
  | notin => obtain ⟨b, _, e⟩ := bind_bl h; exact ⟨_, e⟩
  | lt =>
    have h : ltP p q = .ok r := h
    unfold ltP at h
    split at h <;> cases h <;> exact ⟨_, rfl⟩
  | le =>
    have h : leP p q = .ok r := h
    unfold leP at h
    split at h <;> cases h <;> exact ⟨_, rfl⟩
  | gt =>
    have h : gtP p q = .ok r := h
    unfold gtP at h
    split at h <;> cases h <;> exact ⟨_, rfl⟩
  | ge =>
    have h : geP p q = .ok r := h
    unfold geP at h
    split at h <;> cases h <;> exact ⟨_, rfl⟩
theorem chain_tM {o1 o2 : Cop} {σ : L2.St} {H : Hp} {Q : VK} (h : tM Z X.K E (chainP o1 o2 ma mb md) σ H Q) : tChain (rP2 Z X.K (cop o1)) (rP2 Z X.K (cop o2)) (tO Z X.K E ma) (tO Z X.K E mb) (tO Z X.K E md) σ H Q := by
  obtain ⟨ρ, M, s, h⟩ := h
  unfold chainP at h
  refine ⟨ρ, M, s, ?_⟩
  cases ea : ma ρ with
  | bad => rw [ea] at h; exact h
  | exc k => rw [ea] at h; exact h
  | ok p =>
    rw [ea] at h
    simp only [R.bind_ok] at h
    intro x H1 e1 w1
    refine ⟨ρ, M, s.go e1, ?_⟩
    cases eb : mb ρ with
    | bad => rw [eb] at h; exact h
    | exc k => rw [eb] at h; exact fun H2 e2 => h H2 ((e1.Hm s.own).trans e2)
    | ok q =>
      rw [eb] at h
      simp only [R.bind_ok] at h
      intro y H2 e2 w2
      have ow2 := s.own.go (e1.trans e2)
      cases er : cop o1 p q with
      | bad => rw [er] at h; exact h.elim
      | exc k => exact (cop_nox o1 p q k er).elim
      | ok r =>
        obtain ⟨b, rfl⟩ := cop_bl er
        rw [er] at h
        simp only [R.bind_ok] at h
        refine ⟨M, p, q, .bl b, ow2, w1.go (s.own.go e1) e2, w2, er, fun v H3 e3 w3 => ⟨b, w3, ?_⟩⟩
        cases b with
        | false =>
          rw [if_neg Bool.false_ne_true]
          exact h _ H3 ((e1.trans e2).trans e3) rfl
        | true =>
          rw [if_pos rfl]
          refine ⟨ρ, M, s.go ((e1.trans e2).trans e3), ?_⟩
          cases ed : md ρ with
          | bad => rw [ed] at h; exact h
          | exc k => rw [ed] at h; exact fun H4 e4 => h H4 ((((e1.trans e2).trans e3).Hm s.own).trans e4)
          | ok t =>
            rw [ed] at h
            simp only [R.bind_ok] at h
            intro z H4 e4 w4
            cases es : cop o2 q t with
            | bad => rw [es] at h; exact h.elim
            | exc k => exact (cop_nox o2 q t k es).elim
            | ok r2 =>
              rw [es] at h
              exact ⟨M, q, t, r2, ow2.go (e3.trans e4), (w2.go ow2 e3).go (ow2.go e3) e4, w4, es, fun v' H5 e5 w5 => h v' H5 ((((e1.trans e2).trans e3).trans e4).trans e5) w5⟩
/-! is -/
def isP (pos : Bool) (k p : PV) : R PV := match k, p with
    | .non, .non => .ok (.bl pos)
    | .non, _ => .ok (.bl !pos)
    | .bl k, .bl b => .ok (.bl (if b = k then pos else !pos))
    | _, _ => .bad
theorem isP_nox {pos : Bool} {k p : PV} {j : Nat} : isP pos k p ≠ .exc j := by
  intro h
  unfold isP at h
  split at h <;> cases h
theorem vw_non {K : PySem.W.Frag} {M : List Addr} {H : Hp} {p : PV} {x : V} (h : Vw Z K M H p x) (n : p ≠ .non) : x ≠ .non := by
  cases p with
  | non => exact absurd rfl n
  | bl b => cases (show x = _ from h); intro z; cases z
  | int b => cases (show x = _ from h); intro z; cases z
  | str b => obtain ⟨rfl, _⟩ := h; intro z; cases z
  | tup b => obtain ⟨a, vs, rfl, _⟩ := h; intro z; cases z
  | lst b => obtain ⟨a, vs, rfl, _⟩ := h; intro z; cases z
  | fn b => cases (show x = _ from h); intro z; cases z
  | exc b => obtain ⟨a, rfl, _⟩ := h; intro z; cases z
  | scr b => obtain ⟨a, rfl, _⟩ := h; intro z; cases z
  | clo b ps => obtain ⟨a, _, rfl, _⟩ := h; intro z; cases z
  | lam b ps => obtain ⟨a, rfl, _⟩ := h; intro z; cases z
  | obj b => obtain ⟨a, rfl, _⟩ := h; intro z; cases z
def rIs (pos : Bool) (k : PV) : R2 := match k with
  | .non => fun x y H Q => y = .non ∧ Q (.bl (if pos then decide (x = .non) else !decide (x = .non))) H
  | .bl _ => if pos then rIsB else rNotB
  | _ => fun _ _ _ _ => False
theorem op_isP {pos : Bool} {k : PV} : OpR X (compareOp (if pos then .Is else .IsNot)) (rIs pos k) := by
  cases k with
  | non =>
    cases pos with
    | true => exact op_isN
    | false => exact op_notN
  | bl b =>
    cases pos with
    | true => exact op_isBl
    | false => exact op_notBl
  | _ => intro _ _ _ _ _ _ _ _ _ _ _ _ h; exact h.elim
theorem is_tM {pos : Bool} {k : PV} {kv : V} (hk : ∀ H, Rep Z X.K H k kv) {σ : L2.St} {H : Hp} {Q : VK} (h : tM Z X.K E (fun ρ => (ma ρ).bind (isP pos k)) σ H Q) : tOp (rIs pos k) (tO Z X.K E ma) (tC kv) σ H Q := by
  obtain ⟨ρ, M, s, h⟩ := h
  dsimp only at h
  refine ⟨ρ, M, s, ?_⟩
  cases ea : ma ρ with
  | bad => rw [ea] at h; exact h
  | exc k => rw [ea] at h; exact h
  | ok p =>
    rw [ea] at h
    simp only [R.bind_ok] at h
    intro x H1 e1 w1
    show rIs pos k x kv H1 Q
    unfold isP at h
    split at h
    · cases (show x = _ from w1)
      cases (show kv = _ from hk H)
      refine ⟨rfl, ?_⟩
      have := h (.bl pos) H1 e1 rfl
      cases pos <;> exact this
    · rename_i hn
      cases (show kv = _ from hk H)
      have nx := vw_non w1 hn
      refine ⟨rfl, ?_⟩
      have := h (.bl !pos) H1 e1 rfl
      rw [decide_eq_false nx]
      cases pos <;> exact this
    · rename_i k b
      cases (show x = _ from w1)
      cases (show kv = _ from hk H)
      have := h _ H1 e1 rfl
      cases pos with
      | true =>
        refine ⟨b, k, rfl, rfl, ?_⟩
        by_cases hb : b = k
        · rw [if_pos hb] at this; rw [decide_eq_true hb]; exact this
        · rw [if_neg hb] at this; rw [decide_eq_false hb]; exact this
      | false =>
        refine ⟨b, k, rfl, rfl, ?_⟩
        by_cases hb : b = k
        · rw [if_pos hb] at this; rw [decide_eq_true hb]; exact this
        · rw [if_neg hb] at this; rw [decide_eq_false hb]; exact this
    · exact h.elim
/-! and, or, not, if -/
theorem and_tM {m1 m2 : O.St → R PV} {σ : L2.St} {H : Hp} {Q : VK} (h : tM Z X.K E (fun ρ => (m1 ρ).bind fun p => (asBl p).bind fun b => if b then m2 ρ else .ok (.bl false)) σ H Q) : tAndV (tM Z X.K E m1) (tM Z X.K E m2) σ H Q := by
  obtain ⟨ρ, M, s, h⟩ := h
  dsimp only at h
  refine ⟨ρ, M, s, ?_⟩
  cases ea : m1 ρ with
  | bad => rw [ea] at h; exact h
  | exc k => rw [ea] at h; exact h
  | ok p =>
    rw [ea] at h
    cases p with
    | bl b =>
      simp only [R.bind_ok, asBl] at h
      intro v H1 e1 w1
      refine ⟨b, w1, ?_⟩
      cases b with
      | true =>
        rw [if_pos rfl] at h ⊢
        exact ⟨ρ, M, s.go e1, Pk.go s.own e1 h⟩
      | false =>
        rw [if_neg Bool.false_ne_true] at h ⊢
        exact h _ H1 e1 rfl
    | _ => exact h.elim
theorem or_tM {m1 m2 : O.St → R PV} {σ : L2.St} {H : Hp} {Q : VK} (h : tM Z X.K E (fun ρ => (m1 ρ).bind fun p => (asBl p).bind fun b => if b then .ok (.bl true) else m2 ρ) σ H Q) : tOrV (tM Z X.K E m1) (tM Z X.K E m2) σ H Q := by
  obtain ⟨ρ, M, s, h⟩ := h
  dsimp only at h
  refine ⟨ρ, M, s, ?_⟩
  cases ea : m1 ρ with
  | bad => rw [ea] at h; exact h
  | exc k => rw [ea] at h; exact h
  | ok p =>
    rw [ea] at h
    cases p with
    | bl b =>
      simp only [R.bind_ok, asBl] at h
      intro v H1 e1 w1
      refine ⟨b, w1, ?_⟩
      cases b with
      | false =>
        rw [if_neg Bool.false_ne_true] at h ⊢
        exact ⟨ρ, M, s.go e1, Pk.go s.own e1 h⟩
      | true =>
        rw [if_pos rfl] at h ⊢
        exact h _ H1 e1 rfl
    | _ => exact h.elim
theorem not_tM {m1 : O.St → R PV} {σ : L2.St} {H : Hp} {Q : VK} (h : tM Z X.K E (fun ρ => (m1 ρ).bind fun p => (asBl p).bind fun b => .ok (.bl !b)) σ H Q) : tNotV (tM Z X.K E m1) σ H Q := by
  obtain ⟨ρ, M, s, h⟩ := h
  dsimp only at h
  refine ⟨ρ, M, s, ?_⟩
  cases ea : m1 ρ with
  | bad => rw [ea] at h; exact h
  | exc k => rw [ea] at h; exact h
  | ok p =>
    rw [ea] at h
    cases p with
    | bl b =>
      simp only [R.bind_ok, asBl] at h
      intro v H1 e1 w1
      exact ⟨b, w1, h _ H1 e1 rfl⟩
    | _ => exact h.elim
/-- tests -/
theorem tB_go {m : O.St → R PV} {ρ : O.St} {M : List Addr} {σ : L2.St} {H H1 : Hp} {Q : Bool → Hp → Prop} (s : SR Z X.K M H σ ρ) (e1 : Ext Z.T H H1) (h : match m ρ with
  | .ok (.bl b) => ∀ H', Ext Z.T H H' → Q b H'
  | .exc k => ∀ H', Ext Z.T (Hm H M) H' → E (.ref (Z.cad k)) none H'
  | _ => False) : tB Z X.K E m σ H1 Q := by
  refine ⟨ρ, M, s.go e1, ?_⟩
  cases e : m ρ with
  | bad => rw [e] at h; exact h
  | exc k => rw [e] at h; exact fun H2 e2 => h H2 ((e1.Hm s.own).trans e2)
  | ok p =>
    rw [e] at h
    cases p with
    | bl b => exact fun H2 e2 => h H2 (e1.trans e2)
    | _ => exact h
theorem and_tB {m1 m2 : O.St → R PV} {σ : L2.St} {H : Hp} {Q : Bool → Hp → Prop} (h : tB Z X.K E (fun ρ => (m1 ρ).bind fun p => (asBl p).bind fun b => if b then m2 ρ else .ok (.bl false)) σ H Q) : tAnd (tB Z X.K E m1) (tB Z X.K E m2) σ H Q := by
  obtain ⟨ρ, M, s, h⟩ := h
  dsimp only at h
  refine ⟨ρ, M, s, ?_⟩
  cases ea : m1 ρ with
  | bad => rw [ea] at h; exact h
  | exc k => rw [ea] at h; exact h
  | ok p =>
    rw [ea] at h
    cases p with
    | bl b =>
      simp only [R.bind_ok, asBl] at h
      intro H1 e1
      cases b with
      | true =>
        rw [if_pos rfl] at h ⊢
        exact tB_go s e1 h
      | false =>
        rw [if_neg Bool.false_ne_true] at h ⊢
        exact h H1 e1
    | _ => exact h.elim
theorem or_tB {m1 m2 : O.St → R PV} {σ : L2.St} {H : Hp} {Q : Bool → Hp → Prop} (h : tB Z X.K E (fun ρ => (m1 ρ).bind fun p => (asBl p).bind fun b => if b then .ok (.bl true) else m2 ρ) σ H Q) : tOr (tB Z X.K E m1) (tB Z X.K E m2) σ H Q := by
  obtain ⟨ρ, M, s, h⟩ := h
  dsimp only at h
  refine ⟨ρ, M, s, ?_⟩
  cases ea : m1 ρ with
  | bad => rw [ea] at h; exact h
  | exc k => rw [ea] at h; exact h
  | ok p =>
    rw [ea] at h
    cases p with
    | bl b =>
      simp only [R.bind_ok, asBl] at h
      intro H1 e1
      cases b with
      | false =>
        rw [if_neg Bool.false_ne_true] at h ⊢
        exact tB_go s e1 h
      | true =>
        rw [if_pos rfl] at h ⊢
        exact h H1 e1
    | _ => exact h.elim
theorem not_tB {m1 : O.St → R PV} {σ : L2.St} {H : Hp} {Q : Bool → Hp → Prop} (h : tB Z X.K E (fun ρ => (m1 ρ).bind fun p => (asBl p).bind fun b => .ok (.bl !b)) σ H Q) : tNot (tB Z X.K E m1) σ H Q := by
  obtain ⟨ρ, M, s, h⟩ := h
  dsimp only at h
  refine ⟨ρ, M, s, ?_⟩
  cases ea : m1 ρ with
  | bad => rw [ea] at h; exact h
  | exc k => rw [ea] at h; exact h
  | ok p =>
    rw [ea] at h
    cases p with
    | bl b =>
      simp only [R.bind_ok, asBl] at h
      intro H1 e1
      exact h H1 e1
    | _ => exact h.elim
theorem ite_tM {m0 m1 m2 : O.St → R PV} {σ : L2.St} {H : Hp} {Q : VK} (h : tM Z X.K E (fun ρ => (m0 ρ).bind fun p => (asBl p).bind fun k => if k then m1 ρ else m2 ρ) σ H Q) : tIf (tB Z X.K E m0) (tM Z X.K E m1) (tM Z X.K E m2) σ H Q := by
  obtain ⟨ρ, M, s, h⟩ := h
  dsimp only at h
  refine ⟨ρ, M, s, ?_⟩
  cases ea : m0 ρ with
  | bad => rw [ea] at h; exact h
  | exc k => rw [ea] at h; exact h
  | ok p =>
    rw [ea] at h
    cases p with
    | bl b =>
      simp only [R.bind_ok, asBl] at h
      intro H1 e1
      cases b with
      | true =>
        rw [if_pos rfl] at h ⊢
        exact ⟨ρ, M, s.go e1, Pk.go s.own e1 h⟩
      | false =>
        rw [if_neg Bool.false_ne_true] at h ⊢
        exact ⟨ρ, M, s.go e1, Pk.go s.own e1 h⟩
    | _ => exact h.elim
/-! tuples and lists that are written -/
theorem tup_tM {m : O.St → R (List PV)} (hn : ∀ ρ ps, m ρ = .ok ps → ps.length ≤ 1000) {σ : L2.St} {H : Hp} {Q : VK} (h : tM Z X.K E (fun ρ => (m ρ).bind fun ps => .ok (.tup ps)) σ H Q) : tTupP (tL Z X.K E m) σ H Q := by
  obtain ⟨ρ, M, s, h⟩ := h
  dsimp only at h
  refine ⟨ρ, M, s, ?_⟩
  cases ea : m ρ with
  | bad => rw [ea] at h; exact h
  | exc k => rw [ea] at h; exact h
  | ok ps =>
    rw [ea] at h
    simp only [R.bind_ok] at h
    intro vs H1 e1 w1
    have hl := w1.length
    have := hn ρ ps ea
    refine ⟨show vs.length ≤ 2 ^ 24 by omega, fun p ob hp hd => ?_⟩
    have ow1 := s.own.go e1
    refine fin_new (r := .tup ps) hp ow1 (fun v H' e w => h v H' (e1.trans e) w) fun q1 q2 => ?_
    exact ⟨p, vs, rfl, SqQ.of q1 hd, RepL.go q2 w1⟩
theorem lst_tN {m : O.St → R (List PV)} (hn : ∀ ρ ps, m ρ = .ok ps → ps.length ≤ 1000) {σ : L2.St} {H : Hp} {Q : VK} (h : tN Z X.K E (fun ρ => (m ρ).bind fun ps => .ok (.lst ps)) σ H Q) : tLst (tL Z X.K E m) σ H Q := by
  obtain ⟨ρ, M, s, h⟩ := h
  dsimp only at h
  refine ⟨ρ, M, s, ?_⟩
  cases ea : m ρ with
  | bad => rw [ea] at h; exact h
  | exc k => rw [ea] at h; exact h
  | ok ps =>
    rw [ea] at h
    simp only [R.bind_ok] at h
    intro vs H1 e1 w1
    have hl := w1.length
    have := hn ρ ps ea
    refine ⟨show vs.length ≤ 2 ^ 24 by omega, fun p hp => ?_⟩
    have ow1 := s.own.go e1
    have e : Hm (upd H1 p (.lst vs)) (p :: M) = Hm H1 M := by
      funext b
      unfold Hm
      by_cases hb : b = p
      · subst hb; simp [hp]
      · simp only [List.mem_cons, hb, false_or]
        rw [upd_ne hb]
    refine h p vs _ (ow1.new hp) (e1.trans (Ext.new hp)) upd_same ?_ ?_
    · rw [e]; exact e1.Hm s.own
    · rw [e]; exact w1
theorem tM_tN {m : O.St → R PV} (hl : ∀ ρ p, m ρ = .ok p → ∃ ps, p = .lst ps) {σ : L2.St} {H : Hp} {Q : VK} (h : tM Z X.K E m σ H Q) : tN Z X.K E m σ H Q := by
  obtain ⟨ρ, M, s, h⟩ := h
  exact ⟨ρ, M, s, PN.of s.own (hl ρ) h⟩
/-! index, slice -/
theorem plainIx {b : Expr} (h : noSlice b = true) : PlainIx b := by
  intro o i
  cases b <;> first | rfl | cases h
theorem po_sound {ir : Option Ex} {e : Option Expr} (h : okP c ir e = true) (ih : ∀ x, ir = some x → ∀ a, okE c x a = true → PE X a (tO Z X.K E (ev F x))) : PO X e (fun σ H Q => ∃ ρ M, SR Z X.K M H σ ρ ∧ match evo F ir ρ with
    | .ok o => ∀ H', Ext Z.T H H' → Q o H'
    | .exc k => ∀ H', Ext Z.T (Hm H M) H' → E (.ref (Z.cad k)) none H'
    | .bad => False) := by
  unfold okP at h
  split at h
  · refine ⟨fun pins s σ H Q I hq => po_none.run pins s σ H Q I ?_⟩
    obtain ⟨ρ, M, sr, hq⟩ := hq
    simp only [evo] at hq
    exact hq H (Ext.refl H)
  · rename_i x a
    refine ⟨fun pins s σ H Q I hq => (po_some (ih x rfl a h)).run pins s σ H Q I ?_⟩
    obtain ⟨ρ, M, sr, hq⟩ := hq
    simp only [evo] at hq
    refine ⟨ρ, M, sr, ?_⟩
    cases e : ev F x ρ with
    | bad => rw [e] at hq; exact hq
    | exc k => rw [e] at hq; exact hq
    | ok p =>
      rw [e] at hq
      cases p with
      | int i =>
        intro v H' e1 hv
        exact ⟨i, hv, hq H' e1⟩
      | _ => exact hq.elim
  · cases h
end
end OS

end

section
set_option Elab.async false
set_option linter.all false
set_option maxRecDepth 100000
set_option maxHeartbeats 2000000
/-! a list comprehension over a list: within an except suite, too; its parts may count on what holds where it starts -/
namespace OS
open PySem PySem.Spec PyProof.Rows L2 O L2H HotX
/-! ### the end of a list, an exception in hand -/
section
variable {prog : Program} {w : World} {A : Around} {E : Value → Shared → Prop} {s : Shared}
/-- nothing is handled, or an exception without context -/
def Pz (A : Around) (h : Heap) : Prop := A.handled = none ∨ ∃ x1, HotAt A x1 h
theorem list_end_hot {it l x1 : Addr} {i : Nat} {items : Array Value} {Q : Option Value → Shared → Prop} (hot : HotAt A x1 s.heap) (hx1 : x1 ≠ it) (hit : s.heap.IsListIter it l i) (hl : s.heap.IsList l items) (hx : items[i]? = none)
    (hQ : ∀ h', Heap.ExtBut it s.heap h' → Q none { s with heap := h' }) : wpAny (model prog w) A (pyNext (.ref it)) Q E s := by
  obtain ⟨o, ho, _, hd⟩ := id hit
  obtain ⟨hh, o1, vs1, h1, d1, c1⟩ := hot
  obtain ⟨ol, hol, _, nl, hdl⟩ := hl
  have nn : ¬ ((Value.ref l == Value.none) = true) := Bool.false_ne_true
  have ty := hit.typeIs
  unfold pyNext
  refine wpAny_bind (wpAny_attempt (wpAny_callSpecial?_slot (name := Str.ofString "__next__") ty slot_listiter_next (wpAny_call_entry slot_listiter_next ty entry_listiter_next ?_ (args_listiter_next _))))
  show wpAny _ _ (field (.ref it) 0 >>= _) _ _ s
  refine wpAny_bind (wpAny_field ho hd (x := .ref l) rfl (?_ : wpAny _ _ (if (Value.ref l == Value.none) = true then _ else _) _ _ s))
  rw [if_neg nn]
  refine wpAny_bind (wpAny_field ho hd (x := .int i 0) rfl (wpAny_bind (wpAny_seqItems hol hdl ?_)))
  simp only [Int.toNat_natCast, hx]
  refine wpAny_bind (wpAny_rule (wpAny_bind (wpAny_setField ho hd (by simp) (?_ : wpAny _ _ (newExc (.type "StopIteration") [] >>= _) _ _ _))))
  simp only [newExc, newTuple]
  have h1' : (s.heap.update it (Obj.mapFields (·.setIfInBounds 0 .none))).get? x1 = some o1 := by
    rw [Heap.get?_update_other _ _ (Ne.symm hx1)]
    exact h1
  refine wpAny_bind (wpAny_bind (wpAny_newObj_type (wpAny_bind (m := firstArgMember _ _) (wpAny_of_eq (a := Value.none) (by first | rfl | (simp only [firstArgMember]; rfl)) (wpAny_newObj_type ?_ (by size_fits)))) (by size_fits)))
  refine raiseNew_hot ⟨hh, o1, vs1, Heap.get?_push_of_some _ (Heap.get?_push_of_some _ h1'), d1, c1⟩ (Nat.ne_of_lt (Heap.lt_size (Heap.get?_push_of_some _ h1'))) (Heap.get?_push_size _ rfl) rfl (by first | (simp; done) | (simp; omega)) ?_
  refine wpAny_bind (wpAny_isInstance (T := "StopIteration") (b := true) ⟨_, Heap.get?_update_self _ (Heap.get?_push_size _ rfl) rfl, rfl⟩ isSubtype_stop (wpAny_pure (hQ _ fun b ob hb e => ?_)))
  have z : (s.heap.update it (Obj.mapFields (·.setIfInBounds 0 .none))).get? b = some ob := by
    rw [Heap.get?_update_other _ _ (Ne.symm hb)]
    exact e
  have z1 := Heap.get?_push_of_some { cls := .type "tuple", data := .seq #[] } z
  rw [Heap.get?_update_other _ _ (Nat.ne_of_gt (Heap.lt_size (Heap.get?_push_of_some _ z)))]
  exact Heap.get?_push_of_some _ (Heap.get?_push_of_some _ z)
end
/-! ### the comprehension -/
section
variable {X : Cx}
/-- what stands where the block starts -/
def AtB (X : Cx) (pins : List (Addr × Obj)) (σ : L2.St) (s : Shared) (H : Hp) (fp : List Addr) : Prop := Inv X pins σ H s ∧ ∀ b ∈ fp, FpOk X pins H b
/-- [elt for target in a list if ..]: W by the turn -/
def tLs (K : PySem.W.Frag) (tl : TE) (g : TG) (tt : TT) (te : L2.St → TE) (vs : List Nat) : TE := fun σ H Q => tl σ H fun x H1 => ∃ a xs, x = .ref a ∧ SqL K H1 a xs ∧ ∀ D, H1 D = none → ∃ W : Nat → Hp → Prop, W 0 (upd H1 D (.lst [])) ∧ (∀ i H, W i H → SqL K H a xs) ∧ (∀ H, W xs.length H → Q (.ref D) H) ∧
  ∀ i x H, xs[i]? = some x → W i H → g x (wipe σ vs) H fun σ2 H2 => wipe σ2 vs = wipe σ vs ∧ tt σ2 H2 fun b H3 => if b = true then te σ σ2 H3 fun y H4 => ∃ acc, H4 D = some (.lst acc) ∧ acc.length < sizeLine ∧ W (i + 1) (upd H4 D (.lst (acc ++ [y]))) else W (i + 1) H3
theorem pe_lcO {elt tg iter : Expr} {ifs : List Expr} {scope : Scope} {own : List (Str × Nat)} {pos : Pos} {tl : TE} {g : TG} {tt : TT} {te : L2.St → TE} (hz : X.calm = true ∨ HotC X) (hN : X.N.Nodup) (hl : PE X iter tl) (ok : BlkOk X.N X.env.scope scope own)
    (hg : ∀ (pins : List (Addr × Obj)) (σ : L2.St) (s : Shared) (H : Hp) (C : Addr) (cl : List (Str × Addr)) (fp : List Addr), AtB X pins σ s H fp → PG (X.blk s H scope (compEnvC scope cl C X.env) fp) tg g)
    (ht : ∀ (pins : List (Addr × Obj)) (σ : L2.St) (s : Shared) (H : Hp) (C : Addr) (cl : List (Str × Addr)) (fp : List Addr), AtB X pins σ s H fp → PTs (X.blk s H scope (compEnvC scope cl C X.env) fp) ifs tt)
    (he : ∀ (pins : List (Addr × Obj)) (σ : L2.St) (s : Shared) (H : Hp) (C : Addr) (cl : List (Str × Addr)) (fp : List Addr), AtB X pins σ s H fp → PE (X.blk s H scope (compEnvC scope cl C X.env) fp) elt (te σ))
    (hs : ∀ x, foldedSetIterable iter X.env x = pure x := by intro _; rfl) : PE X (.ListComp elt [⟨tg, iter, ifs, 0⟩] scope pos) (tLs X.K tl g tt te (own.map (·.2))) := by
  refine ⟨fun pins s σ H Q I q0 => ?_⟩
  rw [eval_ListComp]
  have cellsAt : ∀ y ∈ scope.names, y.2 = .free → ∃ c, X.env.cells.lookup y.1 = some c := fun y hy e => (ok.free y hy e).elim (fun k => I.ok.has _ (.inl k)) fun k => I.ok.has _ (.inr k)
  refine wpAny_comprehension_free (use := none) rfl hs (closure_ok cellsAt) ok.kind (fun y hy e => by rw [ok.uniq y hy, e]) (thn (hl.run pins s σ H _ I q0) fun xv s1 ⟨x, H1, I1, r1, a, xs, ex, hq, q1⟩ => ?_)
  subst ex
  cases (show xv = Value.ref a from r1)
  obtain ⟨its, rv, pl, hzs⟩ := I1.list hq
  refine wpAny_pyIter_list pl.isList ?_
  -- the iterator's record
  generalize eIt : s1.heap.objs.size = it
  generalize eS2 : ({ s1 with heap := s1.heap.push { cls := .type "list_iterator", data := .fields #[.ref a, .int 0 0] } } : Shared) = s2
  have I2 : Inv X pins σ H1 s2 := by rw [← eS2]; exact I1.kept (t' := s1.toks) fun b o e => Heap.get?_push_of_some _ e
  have itr : s2.heap.IsListIter it a 0 := by rw [← eS2, ← eIt]; exact ⟨_, Heap.get?_push_size _ rfl, rfl, rfl⟩
  have itf : FpOk X pins H1 it := I1.fpOk (Nat.le_of_eq eIt) (I1.hok.fresh (Nat.le_of_eq eIt))
  have itl : it < s2.heap.objs.size := by obtain ⟨o, e, _⟩ := itr; exact Heap.lt_size e
  refine wpAny_newObj_type (newEnv_comp ?_) (by show 0 ≤ 2 ^ 24; decide)
  -- the new list
  generalize eD : s2.heap.objs.size = D at itl
  obtain ⟨W, w0, wsq, wend, wstep⟩ := q1 D (I2.hok.fresh (Nat.le_of_eq eD))
  generalize eS3 : ({ s2 with heap := s2.heap.push { cls := .type "list", data := .seq ([] : List Value).toArray } } : Shared) = s3
  have hp3 : s3.heap = s2.heap.push { cls := .type "list", data := .seq ([] : List Value).toArray } := by rw [← eS3]
  have I3 : Inv X pins σ (upd H1 D (.lst [])) s3 := by
    rw [← eS3]
    exact I2.laid (t' := s2.toks) (fun b o e => Heap.get?_push_of_some _ e) (Nat.le_of_eq eD) ⟨Nat.zero_le _, [], 0, .nil, by rw [← eD]; exact Heap.get?_push_size _ rfl⟩
  have f3 : ∀ b ∈ [it], FpOk X pins (upd H1 D (.lst [])) b ∧ b < s3.heap.objs.size := fun b hb => by
    obtain rfl : b = it := by simpa using hb
    exact ⟨⟨by rw [upd_ne (Nat.ne_of_lt itl)]; exact itf.1, itf.2⟩, by rw [hp3, Heap.size_push, eD]; exact Nat.lt_succ_of_lt itl⟩
  have itr3 : s3.heap.IsListIter it a 0 := itr.at fun o e => by rw [hp3]; exact Heap.get?_push_of_some _ e
  have I4 := block_start I3 ok hN f3
  have at3 : AtB X pins σ s3 (upd H1 D (.lst [])) [it] := ⟨I3, fun b hb => (f3 b hb).1⟩
  have pg := hg pins σ s3 _ s3.heap.objs.size (cellsFrom (s3.heap.objs.size + 1) scope.names (cloFrom X.env.cells scope.names [])) [it] at3
  have pt := ht pins σ s3 _ s3.heap.objs.size (cellsFrom (s3.heap.objs.size + 1) scope.names (cloFrom X.env.cells scope.names [])) [it] at3
  have pe := he pins σ s3 _ s3.heap.objs.size (cellsFrom (s3.heap.objs.size + 1) scope.names (cloFrom X.env.cells scope.names [])) [it] at3
  have nit : upd H1 D (.lst []) it = none := (f3 it (List.mem_singleton.mpr rfl)).1.1
  have lti : it < s3.heap.objs.size := (f3 it (List.mem_singleton.mpr rfl)).2
  have hot3 : X.calm = true ∨ ∃ x1 o vs, X.A.handled = some (.ref x1) ∧ s3.heap.get? x1 = some o ∧ o.data = .fields vs ∧ vs[2]? = some .none ∧ upd H1 D (.lst []) x1 = none ∧ x1 ∉ frs X.stack ∧ x1 ≠ it := by
    rcases hz with z | ⟨p, ⟨hh, vs, e1, c1⟩, hp⟩
    · exact .inl z
    · obtain ⟨g, n, nl, nf, _⟩ := I3.pin p (List.mem_append_left _ hp)
      refine .inr ⟨p.1, p.2, vs, hh, g, e1, c1, n, fun hz => ?_, fun z => ?_⟩
      · rcases List.mem_cons.mp (I3.stkSub p.1 hz) with z | z
        · exact nl z
        · exact nf z
      · exact (f3 it (List.mem_singleton.mpr rfl)).1.2.2.2.2.2 p (List.mem_append_left _ hp) z
  show codeAny _ _ (.compStart (.ListComp elt [⟨tg, iter, ifs, 0⟩] scope pos) 0 (.ref it) (.ref D) (compEnvC scope (cellsFrom (s3.heap.objs.size + 1) scope.names (cloFrom X.env.cells scope.names [])) s3.heap.objs.size X.env)) (compPost (model X.prog X.w) X.A X.xe none (EP X pins σ Q) (.ref D) s3.heap.objs.size) { s3 with heap := pushCells (s3.heap.push { cls := .type "dict", data := .dict #[] }) scope.names }
  generalize hce : compEnvC scope (cellsFrom (s3.heap.objs.size + 1) scope.names (cloFrom X.env.cells scope.names [])) s3.heap.objs.size X.env = ce at I4 pg pt pe ⊢
  have cL : ce.locals = s3.heap.objs.size := by subst hce; rfl
  generalize hH3 : upd H1 D (.lst []) = H3 at I3 I4 pg pt pe w0 f3 nit hot3
  generalize hs4 : ({ s3 with heap := pushCells (s3.heap.push { cls := .type "dict", data := .dict #[] }) scope.names } : Shared) = s4 at I4 ⊢
  have st4 : s4.heap.IsListIter it a 0 := itr3.at fun o e => by rw [← hs4]; exact pushCells_keeps _ _ _ _ (Heap.get?_push_of_some _ e)
  have stat : ∀ {σ' : L2.St} {H' : Hp} {s' : Shared}, Inv (X.blk s3 H3 scope ce [it]) [] σ' H' s' → H' it = none → FpOk (X.blk s3 H3 scope ce [it]) [] H' it := fun {σ' H' s'} I' hn =>
    have hb : it ∈ [it] := List.mem_singleton.mpr rfl
    ⟨hn, (I'.ok.exf it hb).1, I'.ok.exfs it hb, .inl hb, fun x c e => (I'.ok.exf it hb).2 x c e, fun p hp => absurd (show p ∈ ([] : List (Addr × Obj)) ++ [] from hp) (by simp)⟩
  have loop : codeAny (model X.prog X.w) X.A (.compLoop (.ListComp elt [⟨tg, iter, ifs, 0⟩] scope pos) 0 (.ref it) (.ref D) ce) (compPost (model X.prog X.w) X.A X.xe none (EP X pins σ Q) (.ref D) s3.heap.objs.size) s4 := by
    refine compLoop_any (fun n s' => ∃ i H', i + n = xs.length ∧ Inv (X.blk s3 H3 scope ce [it]) [] (wipe σ (own.map (·.2))) H' s' ∧ s'.heap.IsListIter it a i ∧ H' it = none ∧ W i H') ?_ xs.length ⟨0, H3, Nat.zero_add _, I4, st4, nit, w0⟩
    rintro n s5 ⟨i, H5, hin, I5, st5, n5, w5⟩
    obtain ⟨its5, rv5, pl5, hz5⟩ := I5.list (wsq i H5 w5)
    obtain ⟨g0, g1, g2, g3, g4, g5⟩ := stat I5 n5
    cases hx : xs[i]? with
    | none =>
      have hle : xs.length ≤ i := List.getElem?_eq_none_iff.mp hx
      have hn0 : i = xs.length := by omega
      have hi5 : its5.toArray[i]? = none := by
        have hl := rv5.length
        simp; omega
      have fin : ∀ h', Heap.ExtBut it s5.heap h' → (fun (r : Option Value) s₁ => match r with
          | none => compPost (model X.prog X.w) X.A X.xe none (EP X pins σ Q) (.ref D) s3.heap.objs.size (.ok .next) s₁
          | some v => wpAny (model X.prog X.w) X.A (letOwnedTupleGo tg (.ref it) v) (fun _ s₁' => wpAny (model X.prog X.w) X.A (assign tg ce v) (fun _ s₂ => wpAny (model X.prog X.w) X.A (forIn ifs true fun c r => if r = true then do let ok ← isTrue c ce (eval c ce); pure (ForInStep.yield ok) else pure (ForInStep.yield r)) (fun ok s₃ =>
            if ok = true then wpAny (model X.prog X.w) X.A (eval elt ce) (fun x s₄ => wpAny (model X.prog X.w) X.A (call (.builtin "list.append") [.ref D, x]) (fun _ s₅ => ∃ m, m < n ∧ ∃ i H', i + m = xs.length ∧ Inv (X.blk s3 H3 scope ce [it]) [] (wipe σ (own.map (·.2))) H' s₅ ∧ s₅.heap.IsListIter it a i ∧ H' it = none ∧ W i H') (notedBy (model X.prog X.w) X.A ce fun e s' => compPost (model X.prog X.w) X.A X.xe none (EP X pins σ Q) (.ref D) s3.heap.objs.size (.error e) s') s₄) (notedBy (model X.prog X.w) X.A ce fun e s' => compPost (model X.prog X.w) X.A X.xe none (EP X pins σ Q) (.ref D) s3.heap.objs.size (.error e) s') s₃
            else ∃ m, m < n ∧ ∃ i H', i + m = xs.length ∧ Inv (X.blk s3 H3 scope ce [it]) [] (wipe σ (own.map (·.2))) H' s₃ ∧ s₃.heap.IsListIter it a i ∧ H' it = none ∧ W i H') (notedBy (model X.prog X.w) X.A ce fun e s' => compPost (model X.prog X.w) X.A X.xe none (EP X pins σ Q) (.ref D) s3.heap.objs.size (.error e) s') s₂) (notedBy (model X.prog X.w) X.A ce fun e s' => compPost (model X.prog X.w) X.A X.xe none (EP X pins σ Q) (.ref D) s3.heap.objs.size (.error e) s') s₁') (notedBy (model X.prog X.w) X.A ce fun e s' => compPost (model X.prog X.w) X.A X.xe none (EP X pins σ Q) (.ref D) s3.heap.objs.size (.error e) s') s₁) none { s5 with heap := h' } := fun h' eb => by
        have I6 : Inv (X.blk s3 H3 scope ce [it]) [] (wipe σ (own.map (·.2))) H5 { s5 with heap := h' } := I5.turned (t' := s5.toks) (fun b o hb e => eb b o hb e) g0 g1 g3 g4 g5
        generalize ({ s5 with heap := h' } : Shared) = s6 at I6
        have I7 : Inv X pins σ H5 s6 := I3.call' (ch := [it]) I6.os I6.base I6.hok I6.bare fun b hb => ⟨(f3 b hb).1.2.2.2.1, (f3 b hb).1.2.1, (f3 b hb).1.2.2.2.2.1, (f3 b hb).1.2.2.2.2.2⟩
        have nC : H5 s3.heap.objs.size = none := by
          have z : H5 ce.locals = none := I6.free
          rw [cL] at z
          exact z
        obtain ⟨m, hn, _⟩ := I6.loc
        have hn : s6.heap.Ns ce.locals m := hn
        rw [cL] at hn
        refine ⟨m, hn, fun h'' sb => ?_⟩
        obtain ⟨f0, f1, f2, f3, f4, f5⟩ := I3.fpOk (Nat.le_refl _) nC
        have w6 : W xs.length H5 := by rw [← hn0]; exact w5
        exact ⟨.ref D, H5, I7.turned (t' := s6.toks) (fun b o hb e => (sb.2 b hb).trans e) f0 f1 f3 f4 f5, rfl, wend H5 w6⟩
      rcases hot3 with z | ⟨x1, o, vs, hh, e1, e2, e3, e4, e5, e6⟩
      · exact wpAny_pyNext_list_end (I5.ok.hd z) st5 pl5.isList hi5 fin
      · obtain ⟨h2, hk2⟩ : ∃ sl, s5.heap.get? x1 = some { o with slots := sl } := I5.base.any e1 e4 fun z => e6 (List.mem_singleton.mp z)
        exact list_end_hot (x1 := x1) ⟨hh, _, vs, hk2, e2, e3⟩ e6 st5 pl5.isList hi5 fin
    | some x =>
      obtain ⟨u, hu, ru⟩ := rv5.get hx
      have hil : i < xs.length := (List.getElem?_eq_some_iff.mp hx).1
      refine wpAny_pyNext_list_item st5 pl5.isList (x := u) (by simpa using hu) fun h' st' sb => ?_
      have I6 : Inv (X.blk s3 H3 scope ce [it]) [] (wipe σ (own.map (·.2))) H5 { s5 with heap := h' } := I5.turned (t' := s5.toks) (fun b o hb e => (sb.2 b hb).trans e) g0 g1 g3 g4 g5
      obtain ⟨oi, ei, ci, di⟩ := id st'
      refine go_of (s := { s5 with heap := h' }) ei ci di (by decide) ?_
      have ei7 : ({ s5 with heap := h' } : Shared).heap.get? it = some oi := ei
      generalize ({ s5 with heap := h' } : Shared) = s7 at I6 ei7
      have I7' := I6.pinned (fp := [it]) (fun b hb => by rw [List.mem_singleton.mp hb]; exact stat I6 n5) (fun b hb => by rw [List.mem_singleton.mp hb]; exact ⟨oi, ei7, fun v z => by rw [di] at z; cases z⟩)
      refine thnF (pg.run _ s7 _ H5 x u _ I7' ru (wstep i x H5 hx w5)) fun _ s8 ⟨σ8, H8, I8, hw8, q8⟩ => ?_
      refine thnF (pt.run _ s8 σ8 H8 _ I8 q8) fun b s9 ⟨H9, I9, q9⟩ => ?_
      have fin : ∀ {s' : Shared} {H' : Hp}, Inv (X.blk s3 H3 scope ce [it]) ([] ++ pinsAt [it] s7.heap) σ8 H' s' → W (i + 1) H' → ∃ m, m < n ∧ ∃ i H', i + m = xs.length ∧ Inv (X.blk s3 H3 scope ce [it]) [] (wipe σ (own.map (·.2))) H' s' ∧ s'.heap.IsListIter it a i ∧ H' it = none ∧ W i H' := fun {s' H'} I' w' => by
        obtain ⟨p1, p2, _⟩ := I'.pin (it, oi) (List.mem_append_right _ (List.mem_append_right _ (mem_pinsAt (List.mem_singleton.mpr rfl) ei7)))
        have hl : (wipe σ (own.map (·.2))).length = σ8.length := by rw [← hw8, wipe_length]
        refine ⟨n - 1, by omega, i + 1, H', by omega, (I'.unpinned (pins := [])).weak hl (fun j v e => ?_), ⟨oi, p1, ci, di⟩, p2, w'⟩
        rw [← hw8] at e
        exact (wipe_some e).1
      cases b with
      | false =>
        simp only [Bool.false_eq_true, if_false] at q9 ⊢
        exact fin I9 q9
      | true =>
        simp only [if_true] at q9 ⊢
        refine thnF (pe.run _ s9 σ8 H9 _ I9 q9) fun z s10 ⟨yv, H10, I10, r10, acc, hD10, hz10, nx⟩ => ?_
        exact app_ok (X := X.blk s3 H3 scope ce [it]) I10 hD10 hz10 r10 fun s11 I11 => fin I11 nx
  exact codeAny_compStart_list loop (wpAny_pyIter_listiter st4 loop)
end
/-! ### a tuple is taken apart -/
section
variable {prog : Program} {w : World} {A : Around} {E : Value → Shared → Prop} {s : Shared}
theorem tup_end_hot {it l x1 : Addr} {i : Nat} {items : Array Value} {Q : Option Value → Shared → Prop} (hot : HotAt A x1 s.heap) (hx1 : x1 ≠ it) (hit : s.heap.IsTupleIter it l i) (ht : IsTup s.heap l items) (hx : items[i]? = none)
    (hQ : ∀ h', Heap.ExtBut it s.heap h' → Q none { s with heap := h' }) : wpAny (model prog w) A (pyNext (.ref it)) Q E s := by
  obtain ⟨o, ho, _, hd⟩ := id hit
  obtain ⟨hh, o1, vs1, h1, d1, c1⟩ := hot
  obtain ⟨ol, hol, _, nl, hdl⟩ := ht
  have nn : ¬ ((Value.ref l == Value.none) = true) := Bool.false_ne_true
  have ty := hit.typeIs
  unfold pyNext
  refine wpAny_bind (wpAny_attempt (wpAny_callSpecial?_slot (name := Str.ofString "__next__") ty slot_tupleiter_next (wpAny_call_entry slot_tupleiter_next ty entry_tupleiter_next ?_ (args_tupleiter_next _))))
  show wpAny _ _ (field (.ref it) 0 >>= _) _ _ s
  refine wpAny_bind (wpAny_field ho hd (x := .ref l) rfl (?_ : wpAny _ _ (if (Value.ref l == Value.none) = true then _ else _) _ _ s))
  rw [if_neg nn]
  refine wpAny_bind (wpAny_field ho hd (x := .int i 0) rfl (wpAny_bind (wpAny_seqItems hol hdl ?_)))
  simp only [Int.toNat_natCast, hx]
  refine wpAny_bind (wpAny_rule (wpAny_bind (wpAny_setField ho hd (by simp) (?_ : wpAny _ _ (newExc (.type "StopIteration") [] >>= _) _ _ _))))
  simp only [newExc, newTuple]
  have h1' : (s.heap.update it (Obj.mapFields (·.setIfInBounds 0 .none))).get? x1 = some o1 := by
    rw [Heap.get?_update_other _ _ (Ne.symm hx1)]
    exact h1
  refine wpAny_bind (wpAny_bind (wpAny_newObj_type (wpAny_bind (m := firstArgMember _ _) (wpAny_of_eq (a := Value.none) (by first | rfl | (simp only [firstArgMember]; rfl)) (wpAny_newObj_type ?_ (by size_fits)))) (by size_fits)))
  refine raiseNew_hot ⟨hh, o1, vs1, Heap.get?_push_of_some _ (Heap.get?_push_of_some _ h1'), d1, c1⟩ (Nat.ne_of_lt (Heap.lt_size (Heap.get?_push_of_some _ h1'))) (Heap.get?_push_size _ rfl) rfl (by first | (simp; done) | (simp; omega)) ?_
  refine wpAny_bind (wpAny_isInstance (T := "StopIteration") (b := true) ⟨_, Heap.get?_update_self _ (Heap.get?_push_size _ rfl) rfl, rfl⟩ isSubtype_stop (wpAny_pure (hQ _ fun b ob hb e => ?_)))
  have z : (s.heap.update it (Obj.mapFields (·.setIfInBounds 0 .none))).get? b = some ob := by
    rw [Heap.get?_update_other _ _ (Ne.symm hb)]
    exact e
  have z1 := Heap.get?_push_of_some { cls := .type "tuple", data := .seq #[] } z
  rw [Heap.get?_update_other _ _ (Nat.ne_of_gt (Heap.lt_size (Heap.get?_push_of_some _ z)))]
  exact Heap.get?_push_of_some _ (Heap.get?_push_of_some _ z)
theorem assign_tup_hot {env : Env} {elts : List Expr} {k : Nat} {pos : Pos} {t x1 : Addr} {items : Array Value} {Q : Unit → Shared → Prop} (hot : HotAt A x1 s.heap) (ht : IsTup s.heap t items) (hn : (assignEach elts env).length = items.size) (hstar : (assignEach elts env).findIdx? (·.1) = none)
    (h : ∀ h', Heap.ExtBut s.heap.objs.size s.heap h' → wpAny (model prog w) A (assignInOrder ((assignEach elts env).map (·.2)) items.toList) Q E { s with heap := h' }) : wpAny (model prog w) A (assign (.Tuple elts k pos) env (.ref t)) Q E s := by
  obtain ⟨hh, o1, vs1, h1, d1, c1⟩ := hot
  have hlt : t ≠ s.heap.objs.size := by obtain ⟨o, ho, _⟩ := ht; exact Nat.ne_of_lt (Heap.lt_size ho)
  have hx1 : x1 ≠ s.heap.objs.size := Nat.ne_of_lt (Heap.lt_size h1)
  rw [assign_Tuple]
  unfold unpack
  rw [hn, hstar]
  refine wpAny_bind (wpAny_standAt (wpAny_bind (wpAny_holding ?_)))
  unfold unpackItems notIterableAtAll
  refine wpAny_bind (wpAny_bind (wpAny_specialOf ht.typeIs slot_tuple_iter.lookup (wpAny_pure ?_)))
  simp only [Bool.false_eq_true, if_false]
  refine wpAny_bind (wpAny_holding (iter_tuple ht (wpAny_bind (wpAny_holding (draw_tuple hlt items.size 0 _ _ ⟨_, Heap.get?_push_size _ rfl, rfl, rfl⟩ (ht.push _) (by omega) fun h2 it2 sb2 => ?_)))))
  rw [show List.take items.size (List.drop 0 items.toList) = items.toList by rw [List.drop_zero]; exact List.take_of_length_le (by simp), if_neg (by simp)]
  have hx2 : h2.get? x1 = some o1 := sb2.extBut x1 o1 hx1 (Heap.get?_push_of_some _ h1)
  refine wpAny_bind (wpAny_holding (tup_end_hot ⟨hh, o1, vs1, hx2, d1, c1⟩ hx1 it2 ((ht.push _).extBut sb2.extBut hlt) (by simp) fun h3 e3 => ?_))
  simp only [Option.isSome_none, Bool.false_eq_true, if_false]
  exact wpAny_pure (h h3 fun b o hb e => e3 b o hb (sb2.extBut b o hb (Heap.get?_push_of_some _ e)))
end
section
variable {X : Cx} {pos : Pos}
/-- the handled exception's context, or none is handled -/
def PzX (X : Cx) : Prop := X.calm = true ∨ ∀ (pins : List (Addr × Obj)) (σ : L2.St) (H : Hp) (s : Shared), Inv X pins σ H s → ∃ x1, HotAt X.A x1 s.heap
theorem pg_tupH {es : List Expr} {k : Nat} {t : TGs} {n : Nat} (hz : PzX X) (h : PGs X es t) (hn : (assignEach es X.env).length = n := by rfl) (hst : (assignEach es X.env).findIdx? (·.1) = none := by rfl) : PG X (.Tuple es k pos) (gTup X.K n t) := by
  rcases hz with hc | hz
  · exact pg_tup hc h hn hst
  · refine ⟨fun pins s σ H v u Q I r hw => ?_⟩
    obtain ⟨a, xs, e1, hq, hl, hw⟩ := hw
    subst e1
    cases r
    obtain ⟨its, rv, ht, hs⟩ := I.tuple hq
    obtain ⟨x1, hot⟩ := hz pins σ H s I
    refine assign_tup_hot hot ht (by simp [hn, ← hl, rv.length]) hst fun h' hx => ?_
    exact h.run pins _ σ H xs _ Q (I.kept (t' := s.toks) fun b o e => hx b o (Nat.ne_of_lt (Heap.lt_size e)) e) (by simpa using rv) hw
/-- in a block -/
theorem blk_pz (hz : X.calm = true ∨ HotC X) {pins : List (Addr × Obj)} {σ : L2.St} {s : Shared} {H : Hp} {fp : List Addr} (at' : AtB X pins σ s H fp) {scope : Scope} {ce : Env} : PzX (X.blk s H scope ce fp) := by
  rcases hz with z | ⟨p, ⟨hh, vs, e1, c1⟩, hp⟩
  · exact .inl z
  · refine .inr fun pins' σ' H' s' I' => ?_
    obtain ⟨I0, f0⟩ := at'
    obtain ⟨g, n, nl, nf, _⟩ := I0.pin p (List.mem_append_left _ hp)
    obtain ⟨sl, hk⟩ : ∃ sl, s'.heap.get? p.1 = some { p.2 with slots := sl } := I'.base.any g n fun z => (f0 _ z).2.2.2.2.2 p (List.mem_append_left _ hp) rfl
    exact ⟨p.1, hh, _, vs, hk, e1, c1⟩
end
end OS

end

section
set_option Elab.async false
set_option linter.all false
set_option maxRecDepth 100000
set_option maxHeartbeats 1000000
/-! methods -/
namespace OS
open PySem PySem.Spec PyProof.Rows L2 O
theorem bandd {a b : Bool} (h : (a && b) = true) : a = true ∧ b = true := by simpa using h
section
variable {Z : Zx} {K : PySem.W.Frag} {H : Hp} {X : Cx}
theorem toDs_get : ∀ {xs : List PV} {i : Nat}, (toDs xs)[i]? = (xs[i]?).map toD
  | [], _ => rfl
  | x :: xs, 0 => rfl
  | x :: xs, i + 1 => by
    show (toDs xs)[i]? = _
    rw [toDs_get]; rfl
theorem idxOf_inv {x : PV} : ∀ {xs : List PV} {m n : Nat}, idxOfP x xs m = some n → ∃ j z, n = m + j ∧ xs[j]? = some z ∧ PV.beq z x = true ∧ ∀ i y, i < j → xs[i]? = some y → PV.beq y x = false
  | [], _, _, h => by cases h
  | y :: xs, m, n, h => by
    unfold idxOfP at h
    by_cases e : PV.beq y x = true
    · rw [if_pos e] at h
      cases h
      exact ⟨0, y, rfl, rfl, e, fun i _ hi => absurd hi (Nat.not_lt_zero i)⟩
    · rw [if_neg e] at h
      obtain ⟨j, z, h1, h2, h3, h4⟩ := idxOf_inv h
      refine ⟨j + 1, z, by omega, h2, h3, fun i w hi hw => ?_⟩
      cases i with
      | zero => cases hw; simpa using e
      | succ i => exact h4 i w (by omega) hw
theorem list_data {xs : List PV} {vs : List V} {a : Addr} (hf : xs.all fits = true) (h1 : H a = some (.lst vs)) (h2 : RepL Z K H xs vs) : SeqAt.shaped (.list (toDs xs)) = true ∧ Dp K H (.ref a) (.list (toDs xs)) := by
  have hr : Rep Z K H (.lst xs) (.ref a) := ⟨a, vs, rfl, h1, h2⟩
  obtain ⟨d1, d2, d3⟩ := fit_data 13 (.lst xs) (.ref a) (by show xs.all (PV.fit 12) = true; exact hf) hr
  refine ⟨?_, d3⟩
  unfold SeqAt.shaped
  rw [show PyData.canLay0 (.list (toDs xs)) = true from d1, Bool.true_and]
  have : PyData.depth (.list (toDs xs)) ≤ 13 := d2
  exact decide_eq_true (by omega)
theorem mt_indexP (hu : X.A.units + 65 < cLine) : MtR X "list.index" (rPm Z X.K (mt .index)) := by
  intro pins s σ H x xs v us Q I rx rv h
  obtain ⟨M, p, ps, r, ow, hx, hxs, hf, h⟩ := h
  have hf : indexP p ps = .ok r := hf
  unfold indexP at hf
  split at hf
  · rename_i ys y _
    obtain ⟨a, vs, rfl, h1, h2⟩ := hx
    obtain ⟨w, _, rfl, h3, rfl⟩ := hxs
    split at hf
    · rename_i hc
      obtain ⟨hc, hl⟩ := bandd hc
      obtain ⟨hc1, hc2⟩ := bandd hc
      split at hf
      · rename_i n e
        cases hf
        obtain ⟨j, z, e1, e2, e3, e4⟩ := idxOf_inv e
        have hy : Rep Z X.K H y w := by
          cases y with
          | lst zs =>
            obtain ⟨b, us', rfl, g1, g2⟩ := h3
            exact ⟨b, us', rfl, g1, RepL.up ow g2⟩
          | _ => exact Rep.up ow h3
        obtain ⟨k1, k2⟩ := list_data hc2 h1 (RepL.up ow h2)
        obtain ⟨k3, k4⟩ := fits_shaped hc1 hy
        have fz : fits z = true := List.all_eq_true.mp hc2 z (List.mem_of_getElem? e2)
        refine mt_indexD hu pins s σ H _ _ v us Q I rx rv ⟨a, w, toD y, toDs ys, j, toD z, rfl, rfl, k2, k4, k1, k3, by rw [toDs_get, e2]; rfl, by rw [eqv_beq 12 z y fz hc1]; exact e3, fun m z' hm hz' => ?_, ?_⟩
        · rw [toDs_get] at hz'
          cases e5 : ys[m]? with
          | none => rw [e5] at hz'; cases hz'
          | some q =>
            rw [e5] at hz'
            cases hz'
            rw [eqv_beq 12 q y (List.all_eq_true.mp hc2 q (List.mem_of_getElem? e5)) hc1]
            exact e4 m q hm e5
        · have : (n : Int) = (j : Nat) := by omega
          rw [← this]
          exact h _ _ (Ext.refl H) rfl
      · cases hf
    · cases hf
  · cases hf
theorem count_D {y : PV} (hy : fits y = true) : ∀ {ys : List PV}, ys.all fits = true → (toDs ys).countP (fun z => PyData.eqv z (toD y)) = (ys.filter fun z => PV.beq z y).length
  | [], _ => rfl
  | z :: ys, h => by
    rw [List.all_cons, Bool.and_eq_true] at h
    show List.countP _ (toD z :: toDs ys) = _
    rw [List.countP_cons, count_D hy h.2, List.filter_cons, eqv_beq 12 z y h.1 hy]
    split <;> simp
theorem mt_countP (hu : X.A.units + 65 < cLine) : MtR X "list.count" (rPm Z X.K (mt .count)) := by
  intro pins s σ H x xs v us Q I rx rv h
  obtain ⟨M, p, ps, r, ow, hx, hxs, hf, h⟩ := h
  have hf : countP p ps = .ok r := hf
  unfold countP at hf
  split at hf
  · rename_i ys y _
    obtain ⟨a, vs, rfl, h1, h2⟩ := hx
    obtain ⟨w, _, rfl, h3, rfl⟩ := hxs
    obtain ⟨hc, rfl⟩ := if_inv hf
    obtain ⟨hc1, hc2⟩ := bandd hc
    have hy : Rep Z X.K H y w := by
      cases y with
      | lst zs =>
        obtain ⟨b, us', rfl, g1, g2⟩ := h3
        exact ⟨b, us', rfl, g1, RepL.up ow g2⟩
      | _ => exact Rep.up ow h3
    obtain ⟨sl, hl⟩ := list_data hc2 h1 (RepL.up ow h2)
    obtain ⟨sd, hyd⟩ := fits_shaped hc1 hy
    cases rx
    cases rv with
    | cons ry rt =>
      rename_i uy ut
      cases rt
      obtain ⟨bs, r1⟩ := Dp.reads I _ w uy hyd ry
      have hxs : PyData.canLayAll0 (toDs ys) = true := SeqAt.canLay_of_shaped sl
      have hroom : X.A.units + 1 + min (PyData.depthAll (toDs ys)) (toD y).depth < cLine := room_in_shaped sd hu
      cases hl with
      | lst hs ha =>
        obtain ⟨its, rv, ⟨⟨cls, dd, data, sls⟩, n, ho, hc, hdn, hdt⟩, hlen⟩ := I.list hs
        simp only at hc hdt
        subst hc hdt
        obtain ⟨as, h4⟩ := Dp.readsAll I (toDs ys) _ its ha rv
        have hmap : its.map (SeqAt.readOf s.heap) = toDs ys := SeqAt.readsAll_map (toDs ys) its as hxs h4
        refine call_meets PySem.F.slot_list_count ⟨_, ho, rfl⟩ PySem.F.entry_list_count (PySem.F.args_list_count_2 _ _)
          (SeqAt.list_countAt a its.toArray n dd sls uy (fun u => PyData.eqv (SeqAt.readOf s.heap u) (toD y))) ⟨ho, SeqAt.items_eqAt (vs := its.toArray) (show ReadsAll s.heap its.toArray.toList (toDs ys) as from h4) r1 hxs (SeqAt.canLay_of_shaped sd) hroom, ?_⟩
        have e : its.toArray.toList.countP (fun u => PyData.eqv (SeqAt.readOf s.heap u) (toD y)) = (ys.filter fun z => PV.beq z y).length := by
          rw [← count_D hc1 hc2, ← hmap, List.countP_map]
          rfl
        rw [e]
        exact ⟨.int ((ys.filter fun z => PV.beq z y).length : Nat), H, I.tok _, ⟨_, rfl⟩, h _ _ (Ext.refl H) rfl⟩
  · cases hf
end
end OS

end

section
set_option Elab.async false
set_option linter.all false
set_option maxRecDepth 100000
set_option maxHeartbeats 1000000
/-! methods of texts: startswith, partition -/
namespace OS
open PySem PySem.Spec PyProof.Rows L2 O PySem.Builtin.Str
theorem str_ext {x : Str} {l : List Nat} (h : x.cps.toList = l) : x = cps l := by
  obtain ⟨a⟩ := x
  subst h
  rfl
theorem cps_toList (l : List Nat) : (cps l).cps.toList = l := rfl
theorem cps_len (l : List Nat) : (cps l).length = l.length := rfl
theorem sw_eq (a b : List Nat) : Txt.startswith (cps a) (cps b) = (a.take b.length == b) := by
  unfold Txt.startswith
  rw [StrLaws.subAt_eq, cps_toList, cps_toList, cps_len, cps_len, List.drop_zero, Nat.zero_add]
  by_cases h : b.length ≤ a.length
  · rw [decide_eq_true h, Bool.true_and]
  · rw [decide_eq_false h, Bool.false_and]
    symm
    rw [beq_eq_false_iff_ne]
    intro z
    have := congrArg List.length z
    rw [List.length_take] at this
    omega
theorem partC_none {c : Nat} : ∀ {s acc : List Nat}, (∀ i : Nat, s[i]? ≠ some c) → partC c acc s = none
  | [], acc, _ => rfl
  | x :: s, acc, h => by
    have h0 : ¬ x = c := fun z => h 0 (by rw [z]; rfl)
    unfold partC
    rw [if_neg h0]
    exact partC_none fun i => h (i + 1)
theorem partC_some {c : Nat} : ∀ {s acc : List Nat} {i : Nat}, s[i]? = some c → (∀ k, k < i → s[k]? ≠ some c) → partC c acc s = some (acc ++ s.take i, s.drop (i + 1))
  | [], acc, i, h, _ => by simp at h
  | x :: s, acc, 0, h, _ => by
    have h0 : x = c := by simpa using h
    unfold partC
    rw [if_pos h0]
    simp
  | x :: s, acc, i + 1, h, hn => by
    have h0 : ¬ x = c := fun z => hn 0 (by omega) (by rw [z]; rfl)
    unfold partC
    rw [if_neg h0, partC_some (i := i) (by simpa using h) fun k hk => by simpa using hn (k + 1) (by omega)]
    simp
theorem part_eq (a : List Nat) (c : Nat) : Txt.partition (cps a) (cps [c]) = match partC c [] a with
    | some (x, y) => (cps x, cps [c], cps y)
    | none => (cps a, cps [], cps []) := by
  unfold Txt.partition
  rcases StrLaws.occ_head (cps a) (cps [c]) 1 (Nat.le_refl 1) with ⟨h1, h2⟩ | ⟨i, r, h1, h2, h3⟩
  · rw [h1, partC_none fun i z => h2 i ((StrLaws.subAt_one (cps a) c i).mpr z)]
    rfl
  · rw [h1, partC_some ((StrLaws.subAt_one (cps a) c i).mp h2) fun k hk z => h3 k hk ((StrLaws.subAt_one (cps a) c k).mpr z)]
    have e1 : strSub (cps a) 0 i = cps (a.take i) := str_ext (by rw [StrLaws.strSub_toList]; simp)
    have e2 : strSub (cps a) (i + (cps [c]).length) (cps a).length = cps (a.drop (i + 1)) := str_ext (by
      rw [StrLaws.strSub_toList, cps_toList, cps_len, cps_len]
      exact List.take_of_length_le (by rw [List.length_drop]; simp))
    simp only [List.nil_append]
    rw [e1, e2]
theorem partC_mem {c : Nat} : ∀ {s acc x y : List Nat}, partC c acc s = some (x, y) → (∀ d ∈ x, d ∈ acc ∨ d ∈ s) ∧ (∀ d ∈ y, d ∈ s) ∧ c ∈ s
  | [], acc, x, y, h => by cases h
  | z :: s, acc, x, y, h => by
    unfold partC at h
    split at h
    · rename_i e
      cases h
      exact ⟨fun d hd => .inl hd, fun d hd => List.mem_cons_of_mem _ hd, by rw [e]; exact List.mem_cons_self ..⟩
    · obtain ⟨h1, h2, h3⟩ := partC_mem h
      refine ⟨fun d hd => ?_, fun d hd => List.mem_cons_of_mem _ (h2 d hd), List.mem_cons_of_mem _ h3⟩
      rcases h1 d hd with q | q
      · rcases List.mem_append.mp q with q | q
        · exact .inl q
        · rw [List.mem_singleton.mp q]; exact .inr (List.mem_cons_self ..)
      · exact .inr (List.mem_cons_of_mem _ q)
section
variable {Z : Zx} {K : PySem.W.Frag} {H : Hp} {X : Cx}
theorem mt_swP : MtR X "str.startswith" (rPm Z X.K (mt .startswith)) := by
  intro pins s σ H x xs v us Q I rx rv h
  obtain ⟨M, p, ps, r, ow, hx, hxs, hf, h⟩ := h
  have hf : startswithP p ps = .ok r := hf
  unfold startswithP at hf
  split at hf
  · rename_i a b _
    obtain ⟨rfl, oa⟩ := hx
    obtain ⟨w, _, rfl, h3, rfl⟩ := hxs
    obtain ⟨rfl, ob⟩ := h3
    cases hf
    refine mt_startswith pins s σ H _ _ v us Q I rx rv ⟨cps a, cps b, rfl, rfl, ?_⟩
    rw [sw_eq]
    exact h _ _ (Ext.refl H) rfl
  · cases hf
theorem mt_ptP : MtR X "str.partition" (rPm Z X.K (mt .partition)) := by
  intro pins s σ H x xs v us Q I rx rv h
  obtain ⟨M, p, ps, r, ow, hx, hxs, hf, h⟩ := h
  have hf : partitionP p ps = .ok r := hf
  unfold partitionP at hf
  split at hf
  · rename_i a c _
    obtain ⟨rfl, oa⟩ := hx
    obtain ⟨w, _, rfl, h3, rfl⟩ := hxs
    obtain ⟨rfl, ob⟩ := h3
    split at hf
    · rename_i hl
      refine mt_partition pins s σ H _ _ v us Q I rx rv ⟨cps a, cps [c], rfl, rfl, rfl, ?_, fun t ht => ?_⟩
      · rw [cps_len]
        have := of_decide_eq_true hl
        exact Nat.le_trans this (by rw [sizeLine_eq]; omega)
      rw [part_eq]
      have o2 : ∀ {o : HO}, Own (upd H t o) M := fun {o} => ow.go (T := Z.T) (Ext.new ht)
      have nM := ow.new ht
      cases e : partC c [] a with
      | none =>
        rw [e] at hf
        cases hf
        exact h _ _ (Ext.new ht) ⟨t, _, rfl, SqQ.non (SqT.of (Hm.of upd_same nM)) rfl, _, _, rfl, ⟨rfl, oa⟩, _, _, rfl, ⟨rfl, fun d hd => by cases hd⟩, _, _, rfl, ⟨rfl, fun d hd => by cases hd⟩, rfl⟩
      | some q =>
        obtain ⟨x1, y1⟩ := q
        rw [e] at hf
        cases hf
        obtain ⟨m1, m2, m3⟩ := partC_mem e
        exact h _ _ (Ext.new ht) ⟨t, _, rfl, SqQ.non (SqT.of (Hm.of upd_same nM)) rfl, _, _, rfl, ⟨rfl, fun d hd => by
          rcases m1 d hd with z | z
          · cases z
          · exact oa d z⟩, _, _, rfl, ⟨rfl, ob⟩, _, _, rfl, ⟨rfl, fun d hd => oa d (m2 d hd)⟩, rfl⟩
    · cases hf
  · cases hf
end
theorem idxC_some {c : Nat} : ∀ {s : List Nat} {n j : Nat}, idxOfC c s n = some j → ∃ i, j = n + i ∧ s[i]? = some c ∧ ∀ k, k < i → s[k]? ≠ some c
  | [], _, _, h => by cases h
  | y :: s, n, j, h => by
    unfold idxOfC at h
    split at h
    · rename_i e
      cases h
      exact ⟨0, rfl, by rw [e]; rfl, fun k hk => absurd hk (Nat.not_lt_zero _)⟩
    · rename_i e
      obtain ⟨i, h1, h2, h3⟩ := idxC_some h
      refine ⟨i + 1, by omega, by simpa using h2, fun k hk => ?_⟩
      cases k with
      | zero => intro z; simp at z; exact e z
      | succ k => simpa using h3 k (by omega)
theorem mt_sixP {X : Cx} {Z : Zx} : MtR X "str.index" (rPm Z X.K (mt .sindex)) := by
  intro pins s σ H x xs v us Q I rx rv h
  obtain ⟨M, p, ps, r, ow, hx, hxs, hf, h⟩ := h
  have hf : sindexP p ps = .ok r := hf
  unfold sindexP at hf
  split at hf
  · rename_i a c _
    obtain ⟨rfl, oa⟩ := hx
    obtain ⟨w, _, rfl, h3, rfl⟩ := hxs
    obtain ⟨rfl, ob⟩ := h3
    split at hf
    · cases e : idxOfC c a 0 with
      | none => rw [e] at hf; cases hf
      | some j =>
        rw [e] at hf
        cases hf
        obtain ⟨i, e1, e2, e3⟩ := idxC_some e
        have e1 : j = i := by omega
        subst e1
        have e2' := (StrLaws.subAt_one (cps a) c j).mpr e2
        rcases StrLaws.occ_head (cps a) (cps [c]) 1 (Nat.le_refl 1) with ⟨h1, h2⟩ | ⟨i', r', h1, h2, h3⟩
        · exact absurd e2' (h2 j)
        · have : i' = j := by
            have q1 := (StrLaws.subAt_one (cps a) c i').mp h2
            rcases Nat.lt_trichotomy i' j with q | q | q
            · exact absurd q1 (e3 i' q)
            · exact q
            · exact absurd e2' (h3 j q)
          subst this
          exact mt_sindex pins s σ H _ _ v us Q I rx rv ⟨cps a, cps [c], i', r', rfl, rfl, h1, h _ _ (Ext.refl H) rfl⟩
    · cases hf
  · cases hf
theorem lstrip_drop (cs : List Nat) : ∀ s : List Nat, lstripC cs s = s.drop (s.takeWhile fun c => decide (c ∈ cs)).length
  | [] => rfl
  | c :: r => by
    unfold lstripC
    rw [List.takeWhile_cons]
    by_cases h : c ∈ cs
    · rw [if_pos h, lstrip_drop cs r]
      simp [h]
    · rw [if_neg h]
      simp [h]
theorem lstrip_eq (a b : List Nat) : Txt.lstripChars (cps a) (cps b) = cps (lstripC b a) := by
  unfold Txt.lstripChars
  rw [stripBy_eq, lstrip_drop]
  have e : (cps b).cps.contains = fun c => decide (c ∈ b) := by
    funext c
    rw [Bool.eq_iff_iff]
    simp
  rw [e]
  refine str_ext ?_
  rw [StrLaws.strSub_toList]
  unfold stripLo stripHi
  simp only [if_true, if_false, Bool.false_eq_true]
  rw [cps_len]
  exact List.take_of_length_le (by rw [List.length_drop]; exact Nat.le_refl _)
theorem splitC_eq (c : Nat) : ∀ (a acc : List Nat), TL.spl [c] 0 acc a = splitC c acc a
  | [], acc => rfl
  | x :: a, acc => by
    unfold TL.spl splitC
    by_cases h : x = c
    · have : TL.pre [c] (x :: a) = true := by simp [TL.pre, h]
      rw [if_pos this, if_pos h]
      exact congrArg _ (splitC_eq c a [])
    · have : ¬ TL.pre [c] (x :: a) = true := by simp [TL.pre, h]
      rw [if_neg this, if_neg h]
      exact splitC_eq c a (acc ++ [x])
theorem splitC_mem {c : Nat} : ∀ {s acc y : List Nat} {d : Nat}, y ∈ splitC c acc s → d ∈ y → d ∈ acc ∨ d ∈ s
  | [], acc, y, d, h, hd => by
    rw [List.mem_singleton.mp h] at hd
    exact .inl hd
  | x :: s, acc, y, d, h, hd => by
    unfold splitC at h
    split at h
    · rcases List.mem_cons.mp h with rfl | h
      · exact .inl hd
      · rcases splitC_mem h hd with z | z
        · cases z
        · exact .inr (List.mem_cons_of_mem _ z)
    · rcases splitC_mem h hd with z | z
      · rcases List.mem_append.mp z with z | z
        · exact .inl z
        · rw [List.mem_singleton.mp z]; exact .inr (List.mem_cons_self ..)
      · exact .inr (List.mem_cons_of_mem _ z)
theorem strs_repG {Z : Zx} {K : PySem.W.Frag} {H : Hp} : ∀ {l : List (List Nat)}, (∀ t ∈ l, okS t) → RepL Z K H (l.map .str) ((l.map cps).map V.str)
  | [], _ => rfl
  | t :: l, ok => ⟨_, _, rfl, ⟨rfl, ok t (List.mem_cons_self ..)⟩, strs_repG fun u hu => ok u (List.mem_cons_of_mem _ hu)⟩
section
variable {Z : Zx} {K : PySem.W.Frag} {H : Hp} {X : Cx}
theorem mt_lsP : MtR X "str.lstrip" (rPm Z X.K (mt .lstrip)) := by
  intro pins s σ H x xs v us Q I rx rv h
  obtain ⟨M, p, ps, r, ow, hx, hxs, hf, h⟩ := h
  have hf : lstripP p ps = .ok r := hf
  unfold lstripP at hf
  split at hf
  · rename_i a b _
    obtain ⟨rfl, oa⟩ := hx
    obtain ⟨w, _, rfl, h3, rfl⟩ := hxs
    obtain ⟨rfl, ob⟩ := h3
    split at hf
    · rename_i hl
      cases hf
      have hl := of_decide_eq_true hl
      refine mt_lstripChars pins s σ H _ _ v us Q I rx rv ⟨cps a, cps b, rfl, rfl, by rw [cps_len, sizeLine_eq]; omega, ?_⟩
      rw [lstrip_eq]
      refine h _ _ (Ext.refl H) ⟨rfl, fun d hd => oa d ?_⟩
      rw [lstrip_drop] at hd
      exact List.mem_of_mem_drop hd
    · cases hf
  · cases hf
theorem mt_spP : MtR X "str.split" (rPm Z X.K (mt .split)) := by
  intro pins s σ H x xs v us Q I rx rv h
  obtain ⟨M, p, ps, r, ow, hx, hxs, hf, h⟩ := h
  have hf : splitP p ps = .ok r := hf
  unfold splitP at hf
  split at hf
  · rename_i a c _
    obtain ⟨rfl, oa⟩ := hx
    obtain ⟨w, _, rfl, h3, rfl⟩ := hxs
    obtain ⟨rfl, ob⟩ := h3
    split at hf
    · rename_i hl
      cases hf
      obtain ⟨hl, hc⟩ := bandd hl
      have hl := of_decide_eq_true hl
      have hc := of_decide_eq_true hc
      have e : Txt.split (cps a) (cps [c]) = (splitC c [] a).map cps := by
        rw [← splitC_eq]
        exact SX.split_S (a := a) (b := [c]) (by simp) (by simpa using hc)
      refine mt_split pins s σ H _ _ v us Q I rx rv ⟨cps a, cps [c], rfl, rfl, rfl, by rw [cps_len, sizeLine_eq]; omega, fun t ht => ?_⟩
      rw [e]
      exact h _ _ (Ext.new ht) ⟨t, _, rfl, Hm.of upd_same (ow.new ht), strs_repG fun y hy d hd => (splitC_mem hy hd).elim (fun z => by cases z) (oa d)⟩
    · cases hf
  · cases hf
end
/-! ### dicts -/
theorem cps_inj {a b : List Nat} (h : cps a = cps b) : a = b := by
  have := congrArg (fun s : Str => s.cps.toList) h
  exact this
section
variable {Z : Zx} {K : PySem.W.Frag} {T : List (Addr × Str)} {H H' : Hp} {X : Cx}
theorem kvs_nil {vs : List (Key × V)} (h : KVs Z K H [] vs) : vs = [] := by
  obtain ⟨h1, _, _⟩ := h
  simpa using h1
theorem kvs_cons {kv : List Nat × PV} {kvs : List (List Nat × PV)} {vs : List (Key × V)} (h : KVs Z K H (kv :: kvs) vs) : ∃ v r, vs = (.inr (cps kv.1), v) :: r ∧ okS kv.1 ∧ Rep Z K H kv.2 v ∧ KVs Z K H kvs r := by
  obtain ⟨h1, h2, h3⟩ := h
  cases vs with
  | nil => simp at h1
  | cons q r =>
    obtain ⟨k, v⟩ := q
    simp only [List.map_cons, List.cons.injEq] at h1
    obtain ⟨rfl, h1⟩ := h1
    obtain ⟨v', r', e, g1, g2⟩ := h3
    simp only [List.map_cons, List.cons.injEq] at e
    obtain ⟨rfl, rfl⟩ := e
    exact ⟨v, r, rfl, h2 kv (List.mem_cons_self ..), g1, h1, fun x hx => h2 x (List.mem_cons_of_mem _ hx), g2⟩
theorem kvs_mk {kv : List Nat × PV} {kvs : List (List Nat × PV)} {v : V} {r : List (Key × V)} (ho : okS kv.1) (hv : Rep Z K H kv.2 v) (h : KVs Z K H kvs r) : KVs Z K H (kv :: kvs) ((.inr (cps kv.1), v) :: r) := by
  obtain ⟨h1, h2, h3⟩ := h
  refine ⟨by simp [h1], fun x hx => ?_, v, _, rfl, hv, h3⟩
  rcases List.mem_cons.mp hx with rfl | hx
  · exact ho
  · exact h2 x hx
theorem kvs_len {kvs : List (List Nat × PV)} {vs : List (Key × V)} (h : KVs Z K H kvs vs) : kvs.length = vs.length := by
  have := congrArg List.length h.1
  simpa using this.symm
theorem kvs_get {x : List Nat} : ∀ {kvs : List (List Nat × PV)} {vs : List (Key × V)}, KVs Z K H kvs vs → (∃ p v, O.dget kvs x = some p ∧ valV vs (.inr (cps x)) = some v ∧ Rep Z K H p v) ∨ (O.dget kvs x = none ∧ valV vs (.inr (cps x)) = none)
  | [], vs, h => by
    rw [kvs_nil h]
    exact .inr ⟨rfl, rfl⟩
  | kv :: kvs, vs, h => by
    obtain ⟨v, r, rfl, h1, h2, h3⟩ := kvs_cons h
    by_cases e : kv.1 = x
    · refine .inl ⟨kv.2, v, ?_, ?_, h2⟩
      · unfold O.dget
        rw [List.find?_cons]
        simp [e]
      · rw [valV_pos (by rw [e])]
    · have e' : ¬ (Sum.inr (cps kv.1) : Key) = .inr (cps x) := fun z => e (cps_inj (Sum.inr.inj z))
      have a1 : O.dget (kv :: kvs) x = O.dget kvs x := by
        unfold O.dget
        rw [List.find?_cons]
        simp [e]
      rw [a1, valV_neg e']
      exact kvs_get h3
theorem kvs_any {x : List Nat} : ∀ {kvs : List (List Nat × PV)} {vs : List (Key × V)}, KVs Z K H kvs vs → (kvs.any fun kv => decide (kv.1 = x)) = (vs.any fun kv => decide (kv.1 = (.inr (cps x) : Key)))
  | [], vs, h => by
    rw [kvs_nil h]; rfl
  | kv :: kvs, vs, h => by
    obtain ⟨v, r, rfl, h1, h2, h3⟩ := kvs_cons h
    rw [List.any_cons, List.any_cons, kvs_any h3]
    congr 1
    rw [Bool.eq_iff_iff, decide_eq_true_eq, decide_eq_true_eq]
    exact ⟨fun z => by rw [z], fun z => cps_inj (Sum.inr.inj z)⟩
theorem kvs_repl {x : List Nat} {p : PV} {u : V} (hp : Rep Z K H p u) : ∀ {kvs : List (List Nat × PV)} {vs : List (Key × V)}, KVs Z K H kvs vs → KVs Z K H (kvs.map fun kv => if kv.1 = x then (kv.1, p) else kv) (vs.map fun kv => if kv.1 = (.inr (cps x) : Key) then (kv.1, u) else kv)
  | [], vs, h => by
    rw [kvs_nil h]
    exact ⟨rfl, fun _ z => (by cases z), rfl⟩
  | kv :: kvs, vs, h => by
    obtain ⟨v, r, rfl, h1, h2, h3⟩ := kvs_cons h
    rw [List.map_cons, List.map_cons]
    by_cases e : kv.1 = x
    · rw [if_pos e, if_pos (by rw [e])]
      exact kvs_mk (kv := (kv.1, p)) h1 hp (kvs_repl hp h3)
    · rw [if_neg e, if_neg fun z => e (cps_inj (Sum.inr.inj z))]
      exact kvs_mk h1 h2 (kvs_repl hp h3)
theorem kvs_snoc {x : List Nat} {p : PV} {u : V} (ho : okS x) (hp : Rep Z K H p u) : ∀ {kvs : List (List Nat × PV)} {vs : List (Key × V)}, KVs Z K H kvs vs → KVs Z K H (kvs ++ [(x, p)]) (vs ++ [(.inr (cps x), u)])
  | [], vs, h => by
    rw [kvs_nil h]
    exact kvs_mk (kv := (x, p)) ho hp ⟨rfl, fun _ z => (by cases z), rfl⟩
  | kv :: kvs, vs, h => by
    obtain ⟨v, r, rfl, h1, h2, h3⟩ := kvs_cons h
    exact kvs_mk h1 h2 (kvs_snoc ho hp h3)
theorem kvs_put {x : List Nat} {p : PV} {u : V} {kvs : List (List Nat × PV)} {vs : List (Key × V)} (ho : okS x) (hp : Rep Z K H p u) (h : KVs Z K H kvs vs) : KVs Z K H (dput kvs x p) (putK vs (.inr (cps x)) u) := by
  unfold dput putK
  rw [kvs_any h]
  split
  · exact kvs_repl hp h
  · exact kvs_snoc ho hp h
theorem KVs.go {kvs : List (List Nat × PV)} {vs : List (Key × V)} (e : Ext T H H') (h : KVs Z K H kvs vs) : KVs Z K H' kvs vs := ⟨h.1, h.2.1, RepL.go e h.2.2⟩
end
end OS

end

section
set_option Elab.async false
set_option linter.all false
set_option maxRecDepth 100000
set_option maxHeartbeats 1000000
/-! dict(t), t a tuple of pairs -/
namespace OS
open PySem PySem.Spec PyProof.Rows L2 O
section
variable {X : Cx} {pins : List (Addr × Obj)} {σ : L2.St} {H : Hp} {s : Shared}
theorem pair_vals (I : Inv X pins σ H s) : ∀ {ps : List Addr} {kvs : List (Key × V)}, Paired (fun p kv => SqT X.K H p [kV kv.1, kv.2]) ps kvs →
    ∃ (prs : List (Key × Value)) (us : List Value), KV kvs prs ∧ prs.length = ps.length ∧ us.length = ps.length ∧
      ∀ (j : Nat) (q : Key × Value) (u : Value), prs[j]? = some q → us[j]? = some u → ∃ b, ps[j]? = some b ∧ IsTup s.heap b #[u, q.2] ∧ keyIs q.1 u = true
  | _, _, .nil => ⟨[], [], .nil, rfl, rfl, fun j q u e => by simp at e⟩
  | _, _, .cons (a := p) (b := kv) h t => by
    obtain ⟨prs, us, r, l1, l2, hp⟩ := pair_vals I t
    obtain ⟨its, rv, ht, _⟩ := I.tuple h
    obtain ⟨u, y, ei, ru, ry⟩ := vals2 rv
    subst ei
    refine ⟨(kv.1, y) :: prs, u :: us, .cons ⟨rfl, ry⟩ r, by simp [l1], by simp [l2], fun j q u' e e' => ?_⟩
    cases j with
    | zero =>
      cases (show some (kv.1, y) = some q from e)
      cases (show some u = some u' from e')
      exact ⟨p, rfl, ht, kV_is (P := X.prog) (w := X.w) ru⟩
    | succ j => exact hp j q u' (by simpa using e) (by simpa using e')
theorem pl_obj (I : Inv X pins σ H s) {a : Addr} (h : Pl X.K H a) : ∃ o, s.heap.get? a = some o ∧ o.dict = none := by
  rcases h with ⟨o, u, h1, h2⟩ | ⟨o, h1, h2⟩
  · exact ⟨o, (I.hok a _ h1).1, h2⟩
  · exact ⟨o, I.kIn a o h1, h2⟩
end
section
variable {X : Cx}
theorem call_dictPl (hcalm : X.calm = true) : CallR X (.type "dict") (fun xs H Q => ∃ (a : Addr) (ps : List Addr) (kvs : List (Key × V)), xs = [.ref a] ∧ SqT X.K H a (ps.map V.ref) ∧ Pl X.K H a ∧ Paired (fun p kv => SqT X.K H p [kV kv.1, kv.2]) ps kvs ∧
    ∀ p, H p = none → Q (.ref p) (upd H p (.dK (mergeK [] kvs)))) := by
  intro pins s σ H xs us Q I r q
  obtain ⟨a, ps, kvs, ex, hq, hpl, hp, q⟩ := q
  subst ex
  obtain ⟨u, eu, rx⟩ := vals1 r
  subst eu
  cases rx
  obtain ⟨its, rv, ⟨o, ho, hc, n, hdat⟩, hz⟩ := I.tuple hq
  obtain ⟨o2, ho2, hdn⟩ := pl_obj I hpl
  rw [ho] at ho2
  cases ho2
  have ei := refs_at rv
  subst ei
  rw [List.length_map] at hz
  obtain ⟨prs, ks, rel, l1, l2, hpr⟩ := pair_vals I hp
  have hzl : (ks.zip (prs.map (·.2))).length = ps.length := by simp [l1, l2]
  have hget : ∀ (j : Nat) (k v : Value), (ks.zip (prs.map (·.2)))[j]? = some (k, v) → ∃ q, prs[j]? = some q ∧ q.2 = v ∧ ks[j]? = some k := fun j k v e => by
    rw [List.getElem?_zip_eq_some] at e
    obtain ⟨e1, e2⟩ := e
    rw [List.getElem?_map] at e2
    cases h : prs[j]? with
    | none => rw [h] at e2; cases e2
    | some q => rw [h] at e2; exact ⟨q, rfl, by simpa using e2, e1⟩
  have P := PairArg.tuple (prog := X.prog) (w := X.w) a (ps.map Value.ref).toArray (fun j => ps.getD j 0) (ks.zip (prs.map (·.2)))
  refine PySem.call_dict_pairs (knd := mixKind X.prog X.w) (kvs := prs) P (I.ok.hd hcalm) ⟨⟨o, n, ho, hc, hdn, hdat⟩, by simp [hzl], fun j k v e => ?_⟩ ⟨by rw [hzl, l1], fun i key v e => ?_⟩ (by rw [hzl]; exact hz) fun h' tk hd' k => ?_
  · obtain ⟨q', e1, e2, e3⟩ := hget j k v e
    obtain ⟨b, g1, g2, g3⟩ := hpr j q' k e1 e3
    have : ps.getD j 0 = b := by simp [List.getD, g1]
    dsimp only
    rw [this]
    exact ⟨by simp [g1], .inl (by rw [← e2]; exact g2)⟩
  · obtain ⟨q', e1, e2, e3⟩ := hget i key v e
    obtain ⟨b, g1, g2, g3⟩ := hpr i q' key e1 e3
    exact ⟨q'.1, by rw [e1, ← e2], g3⟩
  · have hm : (s.heap.objs.size == sysModules) = false := beq_eq_false_iff_ne.mpr (Nat.ne_of_gt I.big)
    have hlen : (mergeK [] kvs).length ≤ sizeLine := by
      refine Nat.le_trans (length_mergeK kvs []) ?_
      rw [List.length_nil, Nat.zero_add, rel.length, l1]
      exact hz
    refine ⟨.ref s.heap.objs.size, upd H s.heap.objs.size (.dK (mergeK [] kvs)), I.laid (t' := tk) (fun b o e => k b o (by simp) e) (Nat.le_refl _) ?_, rfl, q _ (I.hok.fresh (Nat.le_refl _))⟩
    exact ⟨hlen, hm, merged [] prs, KV.merge rel .nil, hd'⟩
end
section
variable {Z : Zx} {K : PySem.W.Frag} {H : Hp}
/-- the pairs of a tree -/
theorem rep_pairs : ∀ {xs : List PV} {kvs : List (List Nat × PV)} {vs : List V}, pairs xs = some kvs → RepL Z K H xs vs → ∃ (ps : List Addr) (us : List (Key × V)), vs = ps.map V.ref ∧ Paired (fun p kv => SqT K H p [kV kv.1, kv.2]) ps us ∧ KVs Z K H kvs us
  | [], kvs, vs, h, r => by
    cases h
    rw [show vs = [] from r]
    exact ⟨[], [], rfl, .nil, rfl, fun _ z => (by cases z), rfl⟩
  | x :: xs, kvs, vs, h, r => by
    obtain ⟨v, rs, rfl, hv, hr⟩ := r
    unfold pairs at h
    split at h
    · rename_i heq; cases heq
    · rename_i k p r' heq
      cases heq
      cases hp : pairs xs with
      | none => rw [hp] at h; cases h
      | some kv' =>
        rw [hp] at h
        cases h
        obtain ⟨ps, us, e1, e2, e3⟩ := rep_pairs hp hr
        obtain ⟨a, ws, rfl, hq, w1, _, rfl, ⟨rfl, ok⟩, w2, _, rfl, hw, rfl⟩ := hv
        refine ⟨a :: ps, (.inr (cps k), w2) :: us, by rw [e1]; rfl, .cons hq.1 e2, ?_⟩
        refine ⟨by simp [e3.1], fun kv hkv => ?_, ⟨w2, _, rfl, hw, e3.2.2⟩⟩
        rcases List.mem_cons.mp hkv with rfl | hkv
        · exact ok
        · exact e3.2.1 kv hkv
    · cases h
theorem kvs_fold : ∀ {kvs : List (List Nat × PV)} {us : List (Key × V)} {acc : List (List Nat × PV)} {as : List (Key × V)}, KVs Z K H kvs us → KVs Z K H acc as → KVs Z K H (kvs.foldl (fun acc kv => dput acc kv.1 kv.2) acc) (mergeK as us)
  | [], us, acc, as, h, ha => by
    have : us = [] := by
      have := h.1
      simpa using this
    subst this
    exact ha
  | kv :: kvs, us, acc, as, h, ha => by
    obtain ⟨h1, h2, h3⟩ := h
    cases us with
    | nil => simp at h1
    | cons u us =>
      obtain ⟨uk, uv⟩ := u
      simp only [List.map_cons, List.cons.injEq] at h1
      obtain ⟨v, r, e, hv, hr⟩ := h3
      simp only [List.map_cons, List.cons.injEq] at e
      obtain ⟨rfl, rfl⟩ := e
      obtain ⟨rfl, h1⟩ := h1
      show KVs Z K H (kvs.foldl _ (dput acc kv.1 kv.2)) (mergeK (putK as (.inr (cps kv.1)) uv) us)
      exact kvs_fold ⟨h1, fun x hx => h2 x (List.mem_cons_of_mem _ hx), hr⟩ (kvs_put (h2 kv (List.mem_cons_self ..)) hv ha)
/-- pairs are tuples -/
theorem pairs_tb : ∀ {xs : List PV} {kvs : List (List Nat × PV)}, pairs xs = some kvs → xs.all isTB = true
  | [], _, _ => rfl
  | x :: xs, kvs, h => by
    unfold pairs at h
    split at h
    · rename_i heq; cases heq
    · rename_i k p r' heq
      cases heq
      cases hp : pairs xs with
      | none => rw [hp] at h; cases h
      | some kv' => rw [List.all_cons, pairs_tb hp]; rfl
    · cases h
end
end OS

end

section
set_option Elab.async false
set_option linter.all false
set_option maxRecDepth 100000
set_option maxHeartbeats 4000000
/-! sets of texts: made of a list, measured, sorted -/
namespace OS
open PySem PySem.Spec PyProof.Rows L2 O PySem.Froz
def ledOf (w : World) : Bool := !w.params.followText "set-order"
def obj0 (w : World) : Obj := { cls := .type "set", dict := none, data := .set #[] 0 (.fresh 0 0 (ledOf w)) }
/-- the payload holds the texts l; its table can be walked -/
structure TsOk (P : Program) (w : World) (D : SD) (l : List Str) : Prop where
  tx : TxOk P w D l
  ris : Ris D.2.2.place.toList
  led : D.2.2.led = ledOf w
  nd : l.Nodup
section
variable {P : Program} {w : World} {A : Around} {E : Value → Shared → Prop} {s : Shared}
theorem ts_tail {ep : Nat} {es1 : Array (Int × Value)} {t2 : SetTable} {b : Bool} (r : Ris t2.place.toList) (h : t2.led = ledOf w) : Ris (tailTx ep es1 t2 b).2.2.place.toList ∧ (tailTx ep es1 t2 b).2.2.led = ledOf w := by
  unfold tailTx
  split
  · exact ⟨relayAll_ris _ _ _, (relayAll_led _ _ _).trans h⟩
  · exact ⟨r, h⟩
theorem ts_add {D : SD} {l : List Str} {k : Str} (u : Tok) (T : TsOk P w D l) (hk : k ∉ l) : TsOk P w (addTx (hashStr w k) (.str k u) D) (k :: l) := by
  have q : Ris (addTx (hashStr w k) (.str k u) D).2.2.place.toList ∧ (addTx (hashStr w k) (.str k u) D).2.2.led = ledOf w := by
    have r1 := layNew_ris D.2.2 D.1 (hashStr w k) (.str k u) T.ris
    have r2 := (layNew_led D.2.2 D.1 (hashStr w k) (.str k u)).trans T.led
    unfold addTx
    refine ts_tail ?_ ?_
    · split
      · exact r1
      · exact r1
    · split
      · exact r2
      · exact r2
  exact ⟨add_ok u T.tx, q.1, q.2, List.nodup_cons.mpr ⟨hk, T.nd⟩⟩
/-- a text that is there already -/
theorem add_old {a : Addr} {C : String} {D : SD} {l : List Str} {k : Str} {u : Tok} {Q : Bool → Shared → Prop} (ho : s.heap.get? a = some (sObj C D)) (T : TxOk P w D l) (hk : k ∈ l) (hb : l.length < scanBound) (h : Q false s) :
    wpAny (model P w) A (setAddHashed a (.str k u) (hashStr w k)) Q E s := by
  obtain ⟨es, ep, t⟩ := D
  have d1 : (sObj C (es, ep, t)).data = .set es ep t := rfl
  have d2 : es.size < scanBound := by have e : es.size = l.length := T.sz; rw [e]; exact hb
  have d3 : ElemsOf (strKind P w) es.toList := T.el
  obtain ⟨j, hj⟩ : ∃ j, List.findIdx? (fun e => (strKind P w).is k e.2) es.toList = some j := by
    cases hr : List.findIdx? (fun e => (strKind P w).is k e.2) es.toList with
    | some j => exact ⟨j, rfl⟩
    | none =>
      exfalso
      obtain ⟨e, he, z⟩ := (T.mem k).mp hk
      have y := List.findIdx?_eq_none_iff.mp hr e he
      rw [z] at y; cases y
  unfold setAddHashed setAddHashedIn
  refine wpAny_holding (wpAny_bind (wpAny_setState_of ho d1 T.fit ?_)); dsimp only
  rw [byScan_of rfl d2 d3]; simp only [↓reduceIte]
  unfold setAddByScan
  refine wpAny_bind (wpAny_bind (wpAny_rule (wpAny_bind (wpAny_setScan_of (knd := strKind P w) (k := k) (is_str k u) ho d1 T.fit d3 ?_))))
  rw [hj]; dsimp only
  exact wpAny_pure (wpAny_pure h)
/-- what is in l: of the first i texts, each once -/
def Fst (xs : List Str) (i : Nat) (l : List Str) : Prop := (∀ k, k ∈ l ↔ k ∈ xs.take i) ∧ l.length ≤ i
theorem loop_txts {I : Addr} {fp wr : List Addr} {G : Array GenState → Array GenState → Prop} {n : Nat} {Pv : Nat → Value → Prop} {St : Nat → Shared → Prop} {R : Result → Shared → Prop}
    (W : WalksS P w A.in1 I fp wr G n Pv St) {S : Addr} (fr : S ∉ fp) {xs : List Str} (hn : xs.length = n) (hb : n + 1 < scanBound) (hv : ∀ i v, Pv i v → ∃ t, v = .str (xs.getD i Str.empty) t) :
    ∀ (k i : Nat) (s : Shared) (D : SD) (l : List Str), n - i = k → i ≤ n → St i s → s.heap.get? S = some (sObj "set" D) → TsOk P w D l → Fst xs i l →
      (∀ s' D' l', Moved (S :: wr) G s s' → s'.heap.get? S = some (sObj "set" D') → TsOk P w D' l' → Fst xs n l' → R (.ok (.ret .none)) s') →
      codeAny (model P w) A (.builtin "set.update.loop" ⟨[.ref S, .ref I], []⟩) R s := by
  have nw : S ∉ wr := fun z => fr (W.sub _ z)
  have up : ∀ b ∈ wr, b ∈ S :: wr := fun b z => List.mem_cons_of_mem _ z
  intro k
  induction k with
  | zero =>
    intro i s D l e1 e2 hst ho T g hR
    obtain rfl : i = n := by omega
    refine codeAny_builtin F.entry_set_update_loop ?_; rw [Around.under_plainId F.plain_set_update_loop _]
    change wpAny _ A.in1 (pyNext (.ref I) >>= _) _ _ s
    refine wpAny_bind (W.done s _ _ hst fun s' mv => ?_)
    change wpAny _ A.in1 (ret Value.none) _ _ s'
    exact wpAny_pure (hR s' D l (mv.mono up) (mv.heap S _ nw ho) T g)
  | succ k ih =>
    intro i s D l e1 e2 hst ho T g hR
    have lt : i < n := by omega
    refine codeAny_builtin F.entry_set_update_loop ?_; rw [Around.under_plainId F.plain_set_update_loop _]
    change wpAny _ A.in1 (pyNext (.ref I) >>= _) _ _ s
    refine wpAny_bind (W.item i s _ _ lt hst fun v s' pv hst' mv => ?_)
    obtain ⟨t, rfl⟩ := hv i v pv
    have ho' := mv.heap S _ nw ho
    have lx : i < xs.length := by omega
    have gx : xs.getD i Str.empty = xs[i] := by rw [List.getD_eq_getElem?_getD, List.getElem?_eq_getElem lx]; rfl
    have tk : xs.take (i + 1) = xs.take i ++ [xs[i]] := by rw [List.take_succ, List.getElem?_eq_getElem lx]; rfl
    generalize hk : xs.getD i Str.empty = key at *
    change wpAny _ A.in1 (holding [Value.str key t] (setAdd S (.str key t)) >>= _) _ _ s'
    refine wpAny_bind (wpAny_holding ?_); unfold setAdd
    refine wpAny_holding (wpAny_bind ((strKind P w).pyHash (k := key) (is_str _ _) ?_))
    by_cases m : key ∈ l
    · refine add_old (l := l) (D := D) (s := { s' with toks := s'.toks + 1 }) ho' T.tx m (by have := g.2; omega) ?_
      refine wpAny_pure ⟨plainId_quiet F.plain_set_update_loop _, ih (i + 1) _ D l (by omega) lt (W.frame _ s' _ _ hst' (Nat.le_succ _) fun b _ o e => e) ho' T ⟨fun j => ?_, Nat.le_succ_of_le g.2⟩ fun s2 D2 l2 mv2 => hR s2 D2 l2 (Moved.trans W.gtrans ((mv.mono up).then_heap (Nat.le_succ _) fun b o _ e => e) mv2)⟩
      rw [tk, List.mem_append, List.mem_singleton, ← g.1 j, ← gx]
      exact ⟨.inl, fun z => z.elim id fun z => by rw [z]; exact m⟩
    · refine add_x (l := l) (D := D) (s := { s' with toks := s'.toks + 1 }) ho' T.tx m (by have := g.2; omega) ?_
      have sb : ∀ b, b ≠ S → ∀ o, s'.heap.get? b = some o → (s'.heap.update S (fun _ => sObj "set" (addTx (hashStr w key) (.str key t) D))).get? b = some o := fun b hb o e => PySem.Heap.get?_update_of_ne _ (Ne.symm hb) e
      refine wpAny_pure ⟨plainId_quiet F.plain_set_update_loop _, ih (i + 1) _ _ (key :: l) (by omega) lt (W.frame _ s' _ _ hst' (Nat.le_succ _) fun b hf o e => sb b (fun z => fr (z ▸ hf)) o e) (get_upd _ ho' rfl) (ts_add t T m) ⟨fun j => ?_, Nat.succ_le_succ g.2⟩ fun s2 D2 l2 mv2 => hR s2 D2 l2 (Moved.trans W.gtrans ((mv.mono up).then_heap (Nat.le_succ _) fun b o hb e => sb b (fun z => hb (by rw [z]; exact List.mem_cons_self ..)) o e) mv2)⟩
      rw [tk, List.mem_append, List.mem_singleton, List.mem_cons, g.1 j, ← gx]
      exact ⟨fun z => z.elim .inr .inl, fun z => z.elim .inr .inl⟩
theorem ts_nil : TsOk P w (#[], 0, .fresh 0 0 (ledOf w)) [] := ⟨TxOk.nil rfl, List.Pairwise.nil, rfl, List.nodup_nil⟩
/-- set(xs), xs a list of texts -/
theorem set_txts {l : Addr} {its : Array Value} {xs : List Str} {Q : Value → Shared → Prop} (hh : A.handled = none) (hl : s.heap.IsList l its) (hi : StrsAre its.toList xs) (hb : xs.length + 1 < scanBound)
    (h : ∀ (h' : Heap) (tk : Nat) (D : SD) (ys : List Str), h'.get? s.heap.objs.size = some (sObj "set" D) → TsOk P w D ys → (∀ k, k ∈ ys ↔ k ∈ xs) → (∀ b o, s.heap.get? b = some o → h'.get? b = some o) → Q (.ref s.heap.objs.size) { s with heap := h', toks := tk }) :
    wpAny (model P w) A (call (.type "set") [.ref l]) Q E s := by
  have size : xs.length = its.size := by rw [← StrsAre.len_eq hi, Array.length_toList]
  obtain ⟨cc, tl, hmro⟩ := PySem.F.called_set.mro
  have k1 := PySem.F.called_set.made; have k2 := PySem.F.called_set.sub
  refine wpAny_call (codeAny_of_tree ?_); change wpAny _ _ (callAny (.type "set") _) _ _ _
  refine wpAny_pure ⟨Code.quiet_builtin _ (by decide +kernel), codeAny_builtin PySem.F.entry_type_call ?_⟩
  rw [Around.under_plain (weight_type_call_type "set" [Value.ref l] []) rfl]
  have k3 := PySem.F.called_set.notType; have k4 := PySem.F.called_set.canCreate; have k5 := PySem.F.typeCall_set_1 (.ref l)
  repeat (any_goals (first | assumption | wp_step))
  refine codeAny_mono (code_set_led1 (.ref l) (E := E) (Q₁ := fun v s1 => v = .ref s.heap.objs.size ∧ s1 = { s with heap := s.heap.push (obj0 w) }) ⟨rfl, rfl⟩) fun r s1 hr => ?_
  cases r with
  | error e => exact hr
  | ok fl =>
    cases fl with
    | ret v =>
      obtain ⟨rfl, rfl⟩ := hr
      have gS : (s.heap.push (obj0 w)).get? s.heap.objs.size = some (obj0 w) := Heap.get?_push_size _ rfl
      have tS : Shared.TypeIs { s with heap := s.heap.push (obj0 w) } (.ref s.heap.objs.size) "set" := ⟨_, gS, rfl⟩
      have k6 := PySem.F.called_set.init.lookup; have k7 := PySem.F.called_set.init.bind (.ref s.heap.objs.size)
      repeat (any_goals (first | assumption | wp_step))
      refine codeAny_mono (codeAny_call_builtin (R := wants (fun r s2 => r = .none ∧ ∃ h' tk D ys, s2 = { s with heap := h', toks := tk } ∧ h'.get? s.heap.objs.size = some (sObj "set" D) ∧ TsOk P w D ys ∧ (∀ k, k ∈ ys ↔ k ∈ xs) ∧ ∀ b o, s.heap.get? b = some o → h'.get? b = some o) E) PySem.F.called_set.init.plain PySem.F.entry_set_init (check_set_init_1 tS ?_)) fun r2 s2 hr2 => ?_
      · obtain ⟨⟨c1, c2, c3, c4⟩, g1, g2, nl, g3⟩ := hl
        simp only at g2 g3
        subst g2 g3
        have gl : (s.heap.push (obj0 w)).get? l = some ⟨.type "list", c2, .seq its nl, c4⟩ := Heap.get?_push_of_some _ g1
        have k8 := PySem.F.sub_list_set; have k9 := PySem.F.sub_list_frozenset
        have k0 : (Value.type "list" == Value.type "dict") = false := by decide
        have L1 : (s.heap.push (obj0 w)).IsList l its := ⟨_, gl, rfl, nl, rfl⟩
        unfold Builtin.«set.__init__» noKeywords Builtin.Frozenset.updateFrom
        generalize hPI : pyIter = PI
        wp_walk
        subst hPI
        refine wpAny_pyIter_list L1 (wpAny_bind (wpAny_runValue ?_))
        have ll : l < s.heap.objs.size := Heap.lt_size g1
        have h3 : A.in1.in1.in1.handled = none := by simp [hh]
        have n1 : l ≠ (s.heap.push (obj0 w)).objs.size := by rw [Heap.size_push]; exact Nat.ne_of_lt (Nat.lt_succ_of_lt ll)
        have n2 : s.heap.objs.size ∉ [(s.heap.push (obj0 w)).objs.size, l] := fun z => by
          rw [Heap.size_push] at z
          rcases List.mem_cons.mp z with z | z
          · exact absurd z (Nat.ne_of_lt (Nat.lt_succ_self _))
          · exact absurd (List.mem_singleton.mp z) (Nat.ne_of_gt ll)
        refine loop_txts (P := P) (w := w) ((Walks.list h3 _ l n1 its).toS) n2 size (by rw [← size]; exact hb) (fun i v hv => SS.strs_at hi i v (by rw [Array.getElem?_toList]; exact hv)) (its.size - 0) 0 _ (#[], 0, .fresh 0 0 (ledOf w)) [] (by omega) (Nat.zero_le _) ⟨⟨_, Heap.get?_push_size _ rfl, rfl, rfl⟩, L1.push _⟩ (Heap.get?_push_of_some _ gS) ts_nil ⟨fun j => by simp, Nat.le_refl _⟩ fun s2 D2 l2 mv e2 T2 g2 => ?_
        obtain ⟨h', x1, x2, tk', x3⟩ := s2
        obtain rfl : x1 = s.gens := mv.gens
        obtain rfl : x2 = s.drawn := mv.drawn
        obtain rfl : x3 = s.os := mv.os
        change wpAny _ _ _ _ _ _
        refine wpAny_pure ?_; change wpAny _ _ (ret Value.none) _ _ _
        refine wpAny_pure ⟨rfl, h', tk', D2, l2, rfl, e2, T2, fun k => by rw [g2.1 k, ← size, List.take_length], fun b o e => ?_⟩
        have lb : b < s.heap.objs.size := Heap.lt_size e
        refine mv.heap b o (fun z => ?_) (Heap.get?_push_of_some _ (Heap.get?_push_of_some _ e))
        rcases List.mem_cons.mp z with z | z
        · exact absurd z (Nat.ne_of_lt lb)
        · rw [List.mem_singleton.mp z, Heap.size_push] at lb
          exact absurd lb (Nat.not_lt_of_le (Nat.le_succ _))
      · cases r2 with
        | error e => exact hr2
        | ok f2 =>
          cases f2 with
          | ret v =>
            obtain ⟨rfl, h', tk, D, ys, rfl, z1, z2, z3, z4⟩ := hr2
            repeat (any_goals (first | assumption | wp_step))
            exact h h' tk D ys z1 z2 z3 z4
          | _ => exact hr2.elim
    | _ => exact hr.elim
end
end OS

end

section
set_option Elab.async false
set_option linter.all false
set_option maxRecDepth 100000
set_option maxHeartbeats 4000000
namespace OS
open PySem PySem.Spec PyProof.Rows L2 O PySem.Froz
/-- the set of the texts l at a -/
def SetTx (P : Program) (w : World) (a : Addr) (l : List Str) : HO := .ext fun h => ∃ D, h.get? a = some (sObj "set" D) ∧ TsOk P w D l
theorem setTx_new {P : Program} {w : World} {H : Hp} {h : Heap} {a : Addr} {D : SD} {l : List Str} (e : h.get? a = some (sObj "set" D)) (T : TsOk P w D l) : ObjOk P w H h a (SetTx P w a l) :=
  ⟨⟨D, e, T⟩, ⟨_, e⟩, fun h1 h2 ⟨D', e', T'⟩ k => ⟨D', k _ e', T'⟩⟩
section
variable {X : Cx}
theorem setTx_get {pins : List (Addr × Obj)} {σ : L2.St} {H : Hp} {s : Shared} {a : Addr} {l : List Str} (I : Inv X pins σ H s) (ha : H a = some (SetTx X.prog X.w a l)) : ∃ D, s.heap.get? a = some (sObj "set" D) ∧ TsOk X.prog X.w D l := (I.hok a _ ha).1
theorem cr_setTx (hc : X.calm = true) : CallR X (.type "set") (fun xs H Q => ∃ (a : Addr) (ss : List Str), xs = [.ref a] ∧ SqL X.K H a (ss.map V.str) ∧ ss.length < 1000 ∧ ∀ p ys, H p = none → ys.Nodup → (∀ k, k ∈ ys ↔ k ∈ ss) → Q (.ref p) (upd H p (SetTx X.prog X.w p ys))) := by
  intro pins s σ H xs us Q I r h
  obtain ⟨a, ss, rfl, hq, hl, q⟩ := h
  rw [Vals.ref1 r]
  obtain ⟨its, rv, pl, hz⟩ := I.list hq
  refine set_txts (I.ok.hd hc) pl.isList (xs := ss) (by simpa using strsAre_of rv) (by unfold scanBound; omega) fun h' tk D ys e1 T m k => ?_
  have hn : H s.heap.objs.size = none := I.hok.fresh (Nat.le_refl _)
  exact ⟨.ref _, _, I.laid (t' := tk) k (Nat.le_refl _) (setTx_new e1 T), rfl, q _ ys hn T.nd m⟩
theorem cr_lenTx : CallR X (.builtin "len") (fun xs H Q => ∃ (a : Addr) (l : List Str), xs = [.ref a] ∧ H a = some (SetTx X.prog X.w a l) ∧ l.length < 64 ∧ Q (.int l.length) H) := by
  intro pins s σ H xs us Q I r h
  obtain ⟨a, l, rfl, ha, hl, q⟩ := h
  rw [Vals.ref1 r]
  obtain ⟨D, e, T⟩ := setTx_get I ha
  obtain ⟨es, ep, t⟩ := D
  have hs : es.size = l.length := T.tx.sz
  refine call_len_set (es := es) (ep := ep) (t := t) e ⟨rfl, rfl, rfl⟩ rfl T.tx.fit (by rw [hs]; omega) ⟨.int l.length, H, I.tok _, ⟨_, by rw [hs]⟩, q⟩
theorem strs_of_elems {P : Program} {w : World} : ∀ {vs : List Value}, (∀ v ∈ vs, ∃ k t, v = Value.str k t) → ∃ ks, StrsAre vs ks
  | [], _ => ⟨[], .nil⟩
  | v :: vs, h => by
    obtain ⟨k, t, rfl⟩ := h v (List.mem_cons_self ..)
    obtain ⟨ks, hk⟩ := strs_of_elems (P := P) (w := w) (vs := vs) fun u hu => h u (List.mem_cons_of_mem _ hu)
    exact ⟨k :: ks, .cons k t hk⟩
theorem is_strOf {P : Program} {w : World} {k : Str} {v : Value} (h : (strKind P w).is k v = true) : ∃ t, v = .str k t := by
  have h : Value.isStrOf k v = true := h
  cases v <;> simp [Value.isStrOf] at h
  subst h
  exact ⟨_, rfl⟩
theorem strsAre_mem {vs : List Value} {ks : List Str} (h : StrsAre vs ks) (k : Str) : k ∈ ks ↔ ∃ t, Value.str k t ∈ vs := by
  induction h with
  | nil => simp
  | cons n t hr ih =>
    simp only [List.mem_cons, ih]
    constructor
    · rintro (rfl | ⟨u, hu⟩)
      · exact ⟨t, .inl rfl⟩
      · exact ⟨u, .inr hu⟩
    · rintro ⟨u, hu | hu⟩
      · cases hu; exact .inl rfl
      · exact .inr ⟨u, hu⟩
theorem perm_of_sub {α : Type} [DecidableEq α] : ∀ {m l : List α}, m.Nodup → l.length = m.length → (∀ x ∈ m, x ∈ l) → l.Perm m
  | [], l, _, hl, _ => by
    have : l = [] := by simpa using hl
    rw [this]
  | x :: m, l, nd, hl, hm => by
    rw [List.nodup_cons] at nd
    have hx := hm x (List.mem_cons_self ..)
    have p := List.perm_cons_erase hx
    refine p.trans (List.Perm.cons x (perm_of_sub nd.2 ?_ fun y hy => ?_))
    · rw [List.length_erase_of_mem hx]; simp at hl; omega
    · exact (List.mem_erase_of_ne fun z => nd.1 (by rw [← z]; exact hy)).mpr (hm y (List.mem_cons_of_mem _ hy))
/-- sorted(set) of texts -/
theorem cr_srtTx (hc : X.calm = true) : CallR X (.builtin "sorted") (fun xs H Q => ∃ (a : Addr) (l : List Str), xs = [.ref a] ∧ H a = some (SetTx X.prog X.w a l) ∧ l.length < 64 ∧ ∀ p ys, H p = none → ys.Perm l → sortedS ys = true → Q (.ref p) (upd H p (.lst (ys.map V.str)))) := by
  intro pins s σ H xs us Q I r h
  obtain ⟨a, l, rfl, ha, h64, q⟩ := h
  rw [Vals.ref1 r]
  obtain ⟨D, e, T⟩ := setTx_get I ha
  obtain ⟨es, ep, t⟩ := D
  have hs : es.size = l.length := T.tx.sz
  have hled : X.w.params.followText "set-order" = true ∨ t.led = true := by
    have : t.led = !X.w.params.followText "set-order" := T.led
    rw [this]
    cases X.w.params.followText "set-order" <;> simp
  refine Calls.call_function_entry kind_sorted plain_sorted entry_sorted (args_sorted1 _) ?_
  unfold Builtin.«sorted»
  refine wpAny_bind (m := checkCount "sorted" 1 1 _) (wpAny_pure ?_)
  refine wpAny_bind (collect_set (A := X.A.in1) (I.ok.hd hc) ⟨_, e, rfl, rfl⟩ T.tx.fit (by rw [hs]; unfold scanBound; omega) T.ris hled fun s1 vs k1 hz g1 o1 pm => ?_)
  have hvl : vs.length = l.length := by rw [pm.length_eq, List.length_map, Array.length_toList]; exact hs
  have hL : vs.length ≤ sizeLine := by rw [hvl, sizeLine_eq]; omega
  have is1 : ∀ v ∈ vs, ∃ k t, v = Value.str k t := fun v hv => by
    obtain ⟨e0, he, rfl⟩ := List.mem_map.mp (pm.mem_iff.mp hv)
    obtain ⟨⟨k, hk, _⟩, _⟩ := T.tx.el e0 he
    obtain ⟨t, ht⟩ := is_strOf hk
    exact ⟨k, t, ht⟩
  obtain ⟨ks, hS⟩ := strs_of_elems (P := X.prog) (w := X.w) is1
  have pk : ks.Perm l := by
    refine perm_of_sub T.nd (by rw [← hS.length, hvl]) fun k hk => ?_
    obtain ⟨e0, he, z⟩ := (T.tx.mem k).mp hk
    obtain ⟨t, ht⟩ := is_strOf z
    refine (strsAre_mem hS k).mpr ⟨t, pm.mem_iff.mpr (List.mem_map.mpr ⟨e0, he, ht⟩)⟩
  refine wpAny_bind (wpAny_newList ?_ hL)
  have hoL : (s1.heap.push (seqObj "list" vs.toArray 0)).get? s1.heap.objs.size = some (seqObj "list" vs.toArray 0) := Heap.get?_push_size _ rfl
  refine wpAny_bind (wpAny_holding (wpAny_call_entry slot_list_sort ⟨_, hoL, rfl⟩ entry_list_sort (list_sort_treeKAny strKind_oneLt hoL hS.keysOf (fun v₁ v₂ rest e => keyKind_strs (by rw [← e]; exact hS)) hL fun st' a1 a2 => ⟨_, rfl, ?_⟩) (args_list_sort _)))
  obtain ⟨ss', h1, h2, h3⟩ := sorted_out_str hS a1 a2
  obtain ⟨ep', hat⟩ := sortedHeap_at (out := (arrOf st').map (·.2)) hoL
  have keep : ∀ b o, s.heap.get? b = some o → (sortedHeap (s1.heap.push (seqObj "list" vs.toArray 0)) s1.heap.objs.size vs ((arrOf st').map (·.2))).get? b = some o := fun b o hb => by
    have hb1 := k1 b o hb
    have hlt := Heap.lt_size hb1
    rw [sortedHeap_old (Nat.ne_of_lt hlt) (by rw [Heap.size_push]; exact Nat.lt_succ_of_lt hlt)]
    exact Heap.get?_push_of_some _ hb1
  have hn : H s1.heap.objs.size = none := I.hok.fresh hz
  have hlen : (ss'.map V.str).length ≤ sizeLine := by rw [List.length_map, (h2.trans pk).length_eq, sizeLine_eq]; omega
  obtain ⟨hh, g, dr, tk, os⟩ := s1
  have J : Inv X pins σ (upd H hh.objs.size (.lst (ss'.map V.str))) { s with heap := sortedHeap (hh.push (seqObj "list" vs.toArray 0)) hh.objs.size vs ((arrOf st').map (·.2)), gens := g, drawn := dr, toks := tk } :=
    I.call (ch := []) (Un.laid keep hz hn) (I.hok.laid keep hz ⟨hlen, _, ep', strsAre_vals h1, by rw [Array.toArray_toList]; exact hat⟩) (by rw [show g = s.gens from g1]; exact I.bare) (fun _ z => nomatch z)
  cases o1
  exact wpAny_pure ⟨_, rfl, .ref hh.objs.size, _, J, rfl, q _ ss' hn (h2.trans pk) h3⟩
end
end OS

end

section
set_option Elab.async false
set_option linter.all false
set_option maxRecDepth 100000
set_option maxHeartbeats 4000000
/-! sets of tuples of texts, no two alike: made of a list, measured -/
namespace OS
open PySem PySem.Spec PyProof.Rows L2 O PySem.Froz
/-! ### drawing places out of a list -/
def drawn {α : Type} (L : List α) (o : List Nat) : List α := o.filterMap fun i => L[i]?
theorem drawn_cons {α : Type} {L : List α} {o : List Nat} {i : Nat} {x : α} (h : L[i]? = some x) : drawn L (i :: o) = x :: drawn L o := List.filterMap_cons_some h
theorem drawn_map {α β : Type} (f : α → β) (L : List α) (o : List Nat) : drawn (L.map f) o = (drawn L o).map f := by
  unfold drawn
  rw [List.map_filterMap]
  exact congrArg (fun g => List.filterMap g o) (funext fun i => List.getElem?_map ..)
theorem drawn_range {α : Type} (L : List α) : ∀ n, n ≤ L.length → drawn L (List.range n) = L.take n
  | 0, _ => rfl
  | n + 1, h => by
    have e : L[n]? = some L[n] := List.getElem?_eq_getElem h
    have ih := drawn_range L n (Nat.le_of_lt h)
    unfold drawn at ih ⊢
    rw [List.range_succ, List.filterMap_append, ih, List.take_succ, e, List.filterMap_cons_some e]
    rfl
theorem drawn_perm {α : Type} {L : List α} {o : List Nat} (h : o.Perm (List.range L.length)) : (drawn L o).Perm L := by
  have p : (drawn L o).Perm (drawn L (List.range L.length)) := h.filterMap _
  rw [drawn_range L _ (Nat.le_refl _), List.take_length] at p
  exact p
theorem drawn_get {α β : Type} (g : α → β) (d : β) {L : List α} : ∀ {o : List Nat}, (∀ i ∈ o, i < L.length) → (drawn L o).map g = o.map fun i => (L.map g).getD i d
  | [], _ => rfl
  | i :: o, h => by
    have lt := h i (List.mem_cons_self ..)
    rw [drawn_cons (List.getElem?_eq_getElem lt), List.map_cons, List.map_cons, drawn_get g d fun j hj => h j (List.mem_cons_of_mem _ hj)]
    refine congrArg (· :: _) ?_
    rw [List.getD_eq_getElem?_getD, List.getElem?_map, List.getElem?_eq_getElem lt]
    rfl
/-! ### rows of texts -/
abbrev IsU (P : Program) (w : World) (h : Heap) (k : List Str) (a : Addr) : Prop := IsTupleKey (strKind P w) h k a
abbrev uh (P : Program) (w : World) (k : List Str) : Int := tupleKeyHash (strKind P w) k
abbrev Pr := Addr × List Str
def ent (P : Program) (w : World) (p : Pr) : Int × Value := (uh P w p.2, .ref p.1)
section
variable {P : Program} {w : World} {A : Around} {E : Value → Shared → Prop} {s : Shared}
theorem isU_go {h h' : Heap} {k : List Str} {b : Addr} (x : IsU P w h k b) (g : ∀ o, h.get? b = some o → h'.get? b = some o) : IsU P w h' k b := by
  obtain ⟨o, its, n, e, r⟩ := x
  exact ⟨o, its, n, g o e, r⟩
theorem all_txts {k : List Str} {vs : List Value} (h : ItemsAre (strKind P w) k vs) : ∀ v ∈ vs, ∃ c t, v = Value.str c t := by
  induction h with
  | nil => exact fun v z => nomatch z
  | cons h1 _ ih =>
    intro v z
    rcases List.mem_cons.mp z with rfl | z
    · obtain ⟨t, e⟩ := is_strOf h1
      exact ⟨_, t, e⟩
    · exact ih v z
/-- a loop over texts that asks each and goes on -/
theorem asks_txts {β : Type} {vs : Array Value} {b0 : β} {f : Value → β → Sem (ForInStep β)} {Q : β → Shared → Prop} (hv : ∀ v ∈ vs.toList, ∃ c t, v = Value.str c t)
    (hf : ∀ c t, f (.str c t) b0 = pure (.yield b0)) (h : Q b0 s) : wpAny (model P w) A (forIn vs b0 f) Q E s := by
  rw [← Array.forIn_toList]
  generalize vs.toList = l at hv
  induction l with
  | nil => exact wpAny_pure h
  | cons v l ih =>
    obtain ⟨c, t, rfl⟩ := hv v (List.mem_cons_self ..)
    rw [List.forIn_cons, hf c t]
    exact wpAny_bind (wpAny_pure (ih fun u hu => hv u (List.mem_cons_of_mem _ hu)))
theorem cls_txts {k : List Str} {b : Addr} {Q : Bool → Shared → Prop} (x : IsU P w s.heap k b) (h : Q false s) : wpAny (model P w) A (ofAClassStatement 8 (.ref b)) Q E s := by
  have ty := x.typeIs
  obtain ⟨o, its, n, ho, hc, hd, hi⟩ := x
  unfold ofAClassStatement
  refine wpAny_bind (wpAny_typeOf ty ?_)
  have tt : (("tuple" : String) == "tuple") = true := by decide
  simp only [tt, if_true, Bool.not_true, Bool.false_eq_true, if_false]
  try refine wpAny_bind (wpAny_pure ?_)
  try simp only [Bool.not_true, Bool.false_eq_true, if_false]
  change wpAny _ _ (seqItems? (.ref b) >>= _) _ _ s
  refine wpAny_bind (wpAny_seqItems ho hd ?_)
  dsimp only
  refine wpAny_bind (asks_txts (all_txts hi) (fun c t => rfl) ?_)
  exact wpAny_pure h
theorem byv_one (n : Nat) (c : Str) (t : Tok) : hashByValue n (.str c t) = pure false := by cases n <;> rfl
/-- texts' hashes aren't told by value; a row without texts is -/
theorem byv_txts {k : List Str} {b : Addr} {Q : Bool → Shared → Prop} (x : IsU P w s.heap k b) (h : ∀ v, Q v s) : wpAny (model P w) A (hashByValue 8 (.ref b)) Q E s := by
  have ty := x.typeIs
  obtain ⟨o, its, n, ho, hc, hd, hi⟩ := x
  unfold hashByValue
  refine wpAny_bind (wpAny_specialOf ty F.slot_tuple_hash.lookup ?_)
  change wpAny _ _ (seqItems? (.ref b) >>= _) _ _ s
  refine wpAny_bind (wpAny_seqItems ho hd ?_)
  refine wpAny_bind ?_
  change wpAny _ _ (forIn its _ _) _ _ s
  rw [← Array.forIn_toList]
  have all := all_txts hi
  generalize its.toList = l at all
  cases l with
  | nil => exact wpAny_pure (wpAny_pure (h true))
  | cons v l =>
    obtain ⟨c, t, rfl⟩ := all v (List.mem_cons_self ..)
    rw [List.forIn_cons, byv_one]
    exact wpAny_bind (wpAny_bind (wpAny_pure (wpAny_pure (wpAny_pure (wpAny_pure (h false))))))
theorem unseen {k : List Str} {b : Addr} {Q : Bool → Shared → Prop} (x : IsU P w s.heap k b) {ys : List Value} (hy : ∀ y ∈ ys, ∃ k' c, y = Value.ref c ∧ IsU P w s.heap k' c) (h : Q false s) :
    wpAny (model P w) A (searchCouldBeSeen (.ref b) ys) Q E s := by
  unfold searchCouldBeSeen
  refine wpAny_bind ?_
  refine wpAny_forIn_list _ (fun rest r s' => r.1 = none ∧ s' = s ∧ ∀ y ∈ rest, ∃ k' c, y = Value.ref c ∧ IsU P w s.heap k' c) _ ?_ ?_ _ _ ⟨rfl, rfl, hy⟩
  · rintro v rest r s' ⟨e1, rfl, all⟩
    obtain ⟨k', c, rfl, y⟩ := all v (List.mem_cons_self ..)
    have left := fun u (z : u ∈ rest) => all u (List.mem_cons_of_mem _ z)
    dsimp only
    by_cases same : (b == c || (carriedByValue (.ref b) && carriedByValue (.ref c))) = true
    · exact wp_if_pos same (wpAny_pure ⟨rfl, rfl, left⟩)
    · refine wp_if_neg same (wpAny_bind (wpAny_eqIsQuiet_tuple x ?_))
      simp only [Bool.not_true, Bool.false_eq_true, if_false]
      refine wpAny_bind (wpAny_eqIsQuiet_tuple y ?_)
      simp only [Bool.not_true, Bool.false_eq_true, if_false]
      refine wpAny_bind (cls_txts x ?_)
      simp only [Bool.false_eq_true, if_false]
      refine wpAny_bind (cls_txts y ?_)
      simp only [Bool.false_eq_true, if_false]
      exact wpAny_pure ⟨rfl, rfl, left⟩
  · rintro ⟨r1, r2⟩ s' ⟨e1, rfl, _⟩
    simp only at e1
    subst e1
    exact wpAny_pure h
/-! ### the set -/
structure SU (P : Program) (w : World) (h : Heap) (a : Addr) (L : List Pr) (D : SD) : Prop where
  at_ : h.get? a = some (sObj "set" D)
  row : D.1.toList = L.map (ent P w)
  tab : TabOk D.2.2 (L.map fun p => uh P w p.2)
  led : w.params.followText "set-order" = true ∨ D.2.2.led = true
  room : L.length * 5 < D.2.2.mask * 3
  few : L.length < 64
variable {a : Addr} {L : List Pr} {D : SD}
theorem row_len {es : Array (Int × Value)} (h : es.toList = L.map (ent P w)) : es.size = L.length := by
  rw [← Array.length_toList, h, List.length_map]
theorem row_at {es : Array (Int × Value)} (h : es.toList = L.map (ent P w)) {i : Nat} {p : Pr} (e : L[i]? = some p) : es[i]? = some (ent P w p) := by
  rw [← Array.getElem?_toList, h, List.getElem?_map, e]; rfl
theorem fits_of {t : SetTable} {n : Nat} (h1 : t.place.size = n) (h2 : t.dummies = #[]) (h3 : n ≤ t.mask) : t.fits n = true := by
  unfold SetTable.fits SetTable.fill
  rw [h2, h1]
  simpa using h3
theorem SU.fits (S : SU P w s.heap a L D) : D.2.2.fits D.1.size = true := by
  have h1 := S.tab.sz
  have h2 := row_len S.row
  have h3 := S.room
  rw [List.length_map] at h1
  exact fits_of (h1.trans h2.symm) S.tab.dm (by omega)
theorem calm_probe (m : Nat) : ∀ (n : Nat) (p : SetTable.Probe), p.dummy = none → (nth m p n).dummy = none
  | 0, _, h => h
  | n + 1, p, h => calm_probe m n (adv m p) (by unfold adv; split <;> exact h)
/-- the search for what isn't there ends at the first empty slot -/
theorem seek {x : Addr} {k : List Str} (S : SU P w s.heap a L D) (new : ∀ p ∈ L, IsU P w s.heap p.2 p.1 ∧ p.2 ≠ k) (hx : IsU P w s.heap k x) (hu : A.units < cLine) {st : SetTable.Probe} (e0 : st = D.2.2.probeStart (uh P w k)) {K : Nat} (hK : K < 10 * SetTable.turns D.2.2.mask)
    (out : (nth D.2.2.mask st K).j ∉ D.2.2.place.toList) (ins : ∀ c, c < K → (nth D.2.2.mask st c).j ∈ D.2.2.place.toList) {Q : SetFound → Shared → Prop} (h : Q (.free (nth D.2.2.mask st K).j false) s) :
    ∀ (f c : Nat) (o : Option SetTable.Probe), o.getD (D.2.2.probeStart (uh P w k)) = nth D.2.2.mask st c → c ≤ K → K - c < f → wpAny (model P w) A (setSearchFrom a (.ref x) (uh P w k) true f o) Q E s
    := by
  have fit := S.fits
  obtain ⟨es, ep, t⟩ := D
  simp only at e0 hK out ins h fit
  intro f
  induction f with
  | zero => exact fun c _ _ _ z => absurd z (Nat.not_lt_zero _)
  | succ f ih =>
    intro c o eo hc hf
    simp only at eo ih
    have hd : (sObj "set" (es, ep, t)).data = .set es ep t := rfl
    rw [setSearchFrom_succ]
    refine wpAny_bind (wpAny_setState_of S.at_ hd fit ?_)
    dsimp only
    refine wp_if_neg (by unfold SetTable.gaveWay; rw [mask_odd S.tab.mok]; decide) ?_
    try refine wpAny_bind (wpAny_pure ?_)
    rw [eo]
    have sh : ∀ q, nth t.mask (nth t.mask st c) q = nth t.mask st (c + q) := fun q => (nth_add t.mask c st q).symm
    have nd : (nth t.mask st c).dummy = none := calm_probe _ _ _ (by rw [e0]; rfl)
    have spec := go_spec t S.tab.ris S.tab.dm (fun i => (es[i]?.map (·.1)).getD 0) (uh P w k) (10 * SetTable.turns t.mask) (K - c) _ nd (by omega) (fun q hq => by rw [sh]; exact ins _ (by omega)) (by rw [sh, Nat.add_sub_cancel' hc]; exact out)
    rcases spec with ⟨q, i, hq, hi, _, _, pr⟩ | ⟨_, pr⟩
    · have pr' : t.probe (fun i => (es[i]?.map (·.1)).getD 0) (uh P w k) (nth t.mask st c) = some (.candidate (nth t.mask st (c + q)).j i (nth t.mask st (c + (q + 1)))) := by
        rw [← sh, ← sh]; exact pr
      rw [pr']
      dsimp only
      rw [sh] at hi
      have li : i < L.length := by
        have z1 := (List.getElem?_eq_some_iff.mp hi).1
        have z2 := S.tab.sz
        rw [List.length_map] at z2
        rw [Array.length_toList] at z1
        simp only at z2
        omega
      have ep1 : L[i]? = some L[i] := List.getElem?_eq_getElem li
      generalize L[i] = p at ep1
      obtain ⟨hp, ne⟩ := new p (List.mem_of_getElem? ep1)
      have ee : es[i]? = some (ent P w p) := row_at S.row ep1
      have go : wpAny (model P w) A (searchRest a (.ref x) (uh P w k) true f es t (nth t.mask st (c + q)).j i (nth t.mask st (c + (q + 1)))) Q E s := by
        unfold searchRest
        rw [ee]
        change wpAny _ _ (holding [Value.ref p.1] (eqBool (.ref p.1) (.ref x)) >>= _) _ _ s
        refine wpAny_bind (wpAny_holding (wpAny_eqBool_tuple hu hp hx ?_))
        refine wpAny_bind (wpAny_setState_of S.at_ hd fit ?_)
        dsimp only
        refine wp_if_neg (by simp [ne]) ?_
        try refine wpAny_bind (wpAny_pure ?_)
        rw [sameMem]
        dsimp only
        simp only [if_true, slot_live S.tab.ris hi, ee]
        change wpAny _ _ (isSame (.ref p.1) (.ref p.1) >>= _) _ _ s
        refine wpAny_bind (wpAny_isSame_ref_self (wpAny_bind (wpAny_pure ?_)))
        simp only [if_true]
        refine wp_if_neg (by simp [ne]) ?_
        exact ih (c + (q + 1)) _ rfl (by omega) (by omega)
      by_cases hl : t.led = true
      · refine wp_if_neg (by simp [hl]) ?_
        try refine wpAny_bind (wpAny_pure ?_)
        exact go
      · refine wp_if_pos (by simp [hl]) (wpAny_bind (unseen hx (fun y hy => ?_) ?_))
        · obtain ⟨e, he, rfl⟩ := List.mem_map.mp hy
          have m : e ∈ es.toList := by
            have : e ∈ es ∧ e.1 = uh P w k := by simpa using he
            simpa using this.1
          have r := S.row
          simp only at r
          rw [r] at m
          obtain ⟨p2, m2, rfl⟩ := List.mem_map.mp m
          exact ⟨p2.2, p2.1, rfl, (new p2 m2).1⟩
        · refine wp_if_neg (by decide) ?_
          try refine wpAny_bind (wpAny_pure ?_)
          exact go
    · have pr' : t.probe (fun i => (es[i]?.map (·.1)).getD 0) (uh P w k) (nth t.mask st c) = some (.empty (nth t.mask st K).j none) := by
        rw [show (nth t.mask st K) = nth t.mask (nth t.mask st c) (K - c) by rw [sh, Nat.add_sub_cancel' hc]]; exact pr
      rw [pr']
      exact wpAny_pure h
theorem drawn_arr {o : Array Nat} {es : Array (Int × Value)} (row : es.toList = L.map (ent P w)) : (o.filterMap (es[·]?)).toList = (drawn L o.toList).map (ent P w) := by
  rw [Array.toList_filterMap, ← drawn_map, ← row]
  exact congrArg (fun g => List.filterMap g o.toList) (funext fun i => (Array.getElem?_toList ..).symm)
theorem hash_arr {o : Array Nat} {es : Array (Int × Value)} (row : es.toList = L.map (ent P w)) (lt : ∀ i ∈ o.toList, i < L.length) : (o.toList.map fun i => (es.map (·.1)).getD i 0) = (drawn L o.toList).map fun p => uh P w p.2 := by
  rw [drawn_get (fun p => uh P w p.2) 0 lt]
  refine List.map_congr_left fun i _ => ?_
  have e : (es.map (·.1)).toList = L.map fun p => uh P w p.2 := by rw [Array.toList_map, row, List.map_map]; rfl
  rw [Array.getD_eq_getD_getElem?, ← Array.getElem?_toList, e, List.getD_eq_getElem?_getD]
/-- the table laid anew -/
theorem relay {wanted M : Nat} (e : s.heap.get? a = some (sObj "set" D)) (row : D.1.toList = L.map (ent P w)) (fit : D.2.2.fits D.1.size = true) (led : w.params.followText "set-order" = true ∨ D.2.2.led = true) (few : L.length < 64)
    (hw : SetTable.sizeAbove wanted - 1 = M) (hM : MaskOk M) (h128 : SetTable.sizeAbove wanted ≤ 128) (room : L.length * 5 < M * 3) {Q : Unit → Shared → Prop}
    (h : ∀ h' L' D', Heap.SameBut a s.heap h' → SU P w h' a L' D' → L'.Perm L → Q () { s with heap := h' }) : wpAny (model P w) A (setRelay a wanted) Q E s := by
  obtain ⟨es, ep, t⟩ := D
  simp only at row fit led
  have hd : (sObj "set" (es, ep, t)).data = .set es ep t := rfl
  have n := row_len row
  obtain ⟨t', o, e1, pm, T, em, el, _, _⟩ := relaid_ok t (hs := es.map (·.1)) (wanted := wanted) hw hM (by rw [Array.size_map, n]; omega)
  rw [Array.size_map, n] at pm
  have lt : ∀ i ∈ o.toList, i < L.length := fun i z => List.mem_range.mp (pm.mem_iff.mp z)
  have r := drawn_arr (o := o) row
  have pl := drawn_perm pm
  rw [hash_arr row lt] at T
  have n2 := (row_len r).trans pl.length_eq
  rw [setRelay_eq]
  refine wpAny_bind (wpAny_setState_of e hd fit ?_)
  dsimp only
  refine wp_if_neg (by rw [sizeLine_eq]; omega) ?_
  try refine wpAny_bind (wpAny_pure ?_)
  rw [e1]
  dsimp only
  refine wpAny_bind ?_
  refine wp_if_neg (by rw [n2, n]; simp) ?_
  try refine wpAny_bind (wpAny_pure ?_)
  refine wpAny_pure ?_
  dsimp only
  refine wpAny_storeSet_of e hd ?_ (by rw [n2, sizeLine_eq]; omega)
  refine h _ (drawn L o.toList) (_, ep + 1, t') (Heap.SameBut.update ..) ⟨store_at e hd, r, T, by rw [el]; exact led, by rw [pl.length_eq, em]; exact room, by rw [pl.length_eq]; exact few⟩ pl
theorem mid_perm {α : Type} (L : List α) (i : Nat) (x : α) : (L.take i ++ x :: L.drop i).Perm (x :: L) := by
  have p : (L.take i ++ x :: L.drop i).Perm (x :: (L.take i ++ L.drop i)) := List.perm_middle
  rwa [List.take_append_drop] at p
theorem sought {x : Addr} {k : List Str} (S : SU P w s.heap a L D) (new : ∀ p ∈ L, IsU P w s.heap p.2 p.1 ∧ p.2 ≠ k) (hx : IsU P w s.heap k x) (hu : A.units < cLine) {Q : SetFound → Shared → Prop}
    (h : ∀ K, way D.2.2.mask (uh P w k) K ∉ D.2.2.place.toList → (∀ c, c < K → way D.2.2.mask (uh P w k) c ∈ D.2.2.place.toList) → Q (.free (way D.2.2.mask (uh P w k) K) false) s) : wpAny (model P w) A (setSearch a (.ref x) (uh P w k) true) Q E s := by
  have room := S.room
  obtain ⟨K, hK, out, ins⟩ := S.tab.first (by rw [List.length_map]; omega) (uh P w k)
  have big : K < 100000 := by
    have : 10 * SetTable.turns D.2.2.mask ≤ 1420 := by
      unfold SetTable.turns
      rcases S.tab.mok with e | e | e <;> omega
    omega
  unfold setSearch
  exact seek (st := D.2.2.probeStart (uh P w k)) S new hx hu rfl hK out ins (h K out ins) 100000 0 none rfl (Nat.zero_le _) (by omega)
/-- one more, unlike the others -/
theorem more {x : Addr} {k : List Str} (S : SU P w s.heap a L D) (new : ∀ p ∈ L, IsU P w s.heap p.2 p.1 ∧ p.2 ≠ k) (hx : IsU P w s.heap k x) (hu : A.units < cLine) (few : L.length + 1 < 64) {Q : Bool → Shared → Prop}
    (h : ∀ h' L' D', Heap.SameBut a s.heap h' → SU P w h' a L' D' → L'.Perm ((x, k) :: L) → Q true { s with heap := h' }) : wpAny (model P w) A (setAddHashed a (.ref x) (uh P w k)) Q E s := by
  have fit := S.fits
  have n := row_len S.row
  have sz := S.tab.sz
  have room := S.room
  rw [List.length_map] at sz
  unfold setAddHashed
  refine wpAny_holding ?_
  rw [show (100000 : Nat) = 99999 + 1 from rfl, setAddHashedIn_succ]
  have sk := fun Q h => sought (Q := Q) (E := E) (A := A) S new hx hu h
  have put := fun K (out : way D.2.2.mask (uh P w k) K ∉ D.2.2.place.toList) ins => S.tab.put (h := uh P w k) (K := K) out ins
  obtain ⟨at_, row, tab, led, _, few0⟩ := S
  obtain ⟨es, ep, t⟩ := D
  simp only at fit n sz room row tab led sk put
  have hd : (sObj "set" (es, ep, t)).data = .set es ep t := rfl
  refine wpAny_bind (wpAny_setState_of at_ hd fit ?_)
  dsimp only
  refine wp_if_neg (by simp [byScan, Value.scannable]) ?_
  try refine wpAny_bind (wpAny_pure ?_)
  refine wpAny_bind (sk _ fun K out ins => ?_)
  dsimp only
  refine wpAny_bind (wpAny_setState_of at_ hd fit ?_)
  dsimp only
  obtain ⟨q1, q2, q3, q4, q5, q6, q7, q8, q9⟩ := put K out ins
  generalize t.put (way t.mask (uh P w k) K) = pt at q1 q3 q4 q5 q6 q7 q8 q9 ⊢
  obtain ⟨t1, i⟩ := pt
  dsimp only at q1 q3 q4 q5 q6 q7 q8 q9 ⊢
  rw [← q1] at q2 q3
  have in1 : (SetTable.insertAt es i (uh P w k, Value.ref x)).toList = (L.take i ++ (x, k) :: L.drop i).map (ent P w) := by
    rw [SetTable.toList_insertAt, row, List.map_append, List.map_cons, List.map_take, List.map_drop]; rfl
  have pm := mid_perm L i (x, k)
  have hs1 : (L.map fun p => uh P w p.2).take i ++ uh P w k :: (L.map fun p => uh P w p.2).drop i = (L.take i ++ (x, k) :: L.drop i).map fun p => uh P w p.2 := by
    rw [List.map_append, List.map_cons, List.map_take, List.map_drop]
  rw [hs1] at q3
  generalize SetTable.insertAt es i (uh P w k, Value.ref x) = es1 at in1 ⊢
  generalize L.take i ++ (x, k) :: L.drop i = L1 at pm in1 q3
  have len : L1.length = L.length + 1 := pm.length_eq
  have n1 := (row_len in1).trans len
  -- whatever is marked, the rest goes alike
  have rest : ∀ t2 : SetTable, TabOk t2 (L1.map fun p => uh P w p.2) → t2.mask = t.mask → t2.led = t.led → t2.fill = L.length + 1 →
      wpAny (model P w) A (do
        storeSet a es1 t2
        if (!false && t2.tooFull) = true then setRelay a (SetTable.grown (es.size + 1))
        return true) Q E s := fun t2 T2 m2 l2 f2 => by
    have led2 : w.params.followText "set-order" = true ∨ t2.led = true := by rw [l2]; exact led
    have sz2 := T2.sz
    rw [List.length_map, len] at sz2
    refine wpAny_bind (wpAny_storeSet_of at_ hd ?_ (by rw [n1, sizeLine_eq]; omega))
    have sb : Heap.SameBut a s.heap (s.heap.update a (Obj.putSet es1 t2)) := Heap.SameBut.update ..
    have at2 : (s.heap.update a (Obj.putSet es1 t2)).get? a = some (sObj "set" (es1, ep + 1, t2)) := store_at at_ hd
    generalize s.heap.update a (Obj.putSet es1 t2) = h2 at sb at2 ⊢
    by_cases full : t2.tooFull = true
    · have f3 : (L.length + 1) * 5 ≥ t2.mask * 3 := by
        have z := full
        unfold SetTable.tooFull at z
        rwa [decide_eq_true_eq, f2] at z
      have go : ∀ M, SetTable.sizeAbove (SetTable.grown (L.length + 1)) - 1 = M → MaskOk M → SetTable.sizeAbove (SetTable.grown (L.length + 1)) ≤ 128 → (L.length + 1) * 5 < M * 3 → L.length + 1 ≤ t.mask →
          wpAny (model P w) A (do
            if (!false && t2.tooFull) = true then setRelay a (SetTable.grown (es.size + 1))
            return true) Q E { s with heap := h2 } := fun M z1 z2 z3 z4 z5 => by
        have c : (!false && t2.tooFull) = true := by simp [full]
        rw [n]
        first
          | (refine wpAny_bind ?_; refine wp_if_pos c ?_)
          | (refine wp_if_pos c ?_; refine wpAny_bind ?_)
        refine relay (s := { s with heap := h2 }) (D := (es1, ep + 1, t2)) at2 in1 (fits_of (sz2.trans n1.symm) T2.dm (by rw [n1, m2]; exact z5)) led2 (by rw [len]; exact few) z1 z2 z3 (by rw [len]; exact z4) fun h3 L3 D3 sb3 S3 p3 => ?_
        exact wpAny_pure (h h3 L3 D3 (sb.trans sb3) S3 (p3.trans pm))
      rcases tab.mok with e | e | e
      · have e4 : L.length = 4 := by rw [m2, e] at f3; rw [e] at room; omega
        exact go 31 (by rw [e4, size_20]) (.inr (.inl rfl)) (by rw [e4, size_20]; decide) (by omega) (by omega)
      · have e4 : L.length = 18 := by rw [m2, e] at f3; rw [e] at room; omega
        exact go 127 (by rw [e4, size_76]) (.inr (.inr rfl)) (by rw [e4, size_76]; decide) (by omega) (by omega)
      · exfalso; rw [m2, e] at f3; omega
    · have f3 : (L.length + 1) * 5 < t2.mask * 3 := by
        refine Nat.lt_of_not_le fun z => full ?_
        unfold SetTable.tooFull
        rwa [decide_eq_true_eq, f2]
      have c : ¬ (!false && t2.tooFull) = true := by simp [full]
      first
        | refine wp_if_neg c ?_
        | (refine wpAny_bind ?_; refine wp_if_neg c ?_; refine wpAny_pure ?_)
      try refine wpAny_bind (wpAny_pure ?_)
      exact wpAny_pure (h h2 L1 (es1, ep + 1, t2) sb ⟨at2, in1, T2, led2, by rw [len]; exact f3, by rw [len]; exact few⟩ pm)
  rw [List.length_map] at q9
  by_cases pl : t1.plain = true
  · first
      | (refine wpAny_bind ?_; refine wp_if_pos pl ?_; refine byv_txts hx fun v => ?_)
      | refine wp_if_pos pl (wpAny_bind (byv_txts hx fun v => ?_))
    cases v
    · exact rest { t1 with plain := false } ⟨q3.ris, q3.dm, q3.sz, q3.mok, q3.bd, q3.reach⟩ q4 q5 q9
    · exact rest t1 q3 q4 q5 q9
  · first
      | (refine wpAny_bind ?_; refine wp_if_neg pl ?_; refine wpAny_pure ?_)
      | (refine wp_if_neg pl ?_)
    try refine wpAny_bind (wpAny_pure ?_)
    exact rest t1 q3 q4 q5 q9
/-- the first i of a list of rows stand in the set -/
structure Inn (P : Program) (w : World) (h : Heap) (S : Addr) (xs : List Pr) (i : Nat) (L : List Pr) (D : SD) : Prop where
  su : SU P w h S L D
  pm : L.Perm (xs.take i)
theorem Inn.go {h h' : Heap} {S : Addr} {xs : List Pr} {i : Nat} (I : Inn P w h S xs i L D) (g : ∀ o, h.get? S = some o → h'.get? S = some o) : Inn P w h' S xs i L D :=
  ⟨⟨g _ I.su.at_, I.su.row, I.su.tab, I.su.led, I.su.room, I.su.few⟩, I.pm⟩
theorem loop_rows {I : Addr} {fp wr : List Addr} {G : Array GenState → Array GenState → Prop} {n : Nat} {Pv : Nat → Value → Prop} {St : Nat → Shared → Prop} {R : Result → Shared → Prop}
    (W : WalksS P w A.in1 I fp wr G n Pv St) {S : Addr} (fr : S ∉ fp) {xs : List Pr} (hn : xs.length = n) (few : n < 64) (nd : (xs.map (·.2)).Nodup) (hv : ∀ i v, Pv i v → ∃ p, xs[i]? = some p ∧ v = .ref p.1)
    (h0 : Heap) (rows : ∀ p ∈ xs, IsU P w h0 p.2 p.1) (S0 : h0.get? S = none) (w0 : ∀ b ∈ wr, h0.get? b = none) (hu : A.in1.units < cLine) :
    ∀ (k i : Nat) (s : Shared) (D : SD) (L : List Pr), n - i = k → i ≤ n → St i s → (∀ b o, h0.get? b = some o → s.heap.get? b = some o) → Inn P w s.heap S xs i L D →
      (∀ s' D' L', Moved (S :: wr) G s s' → Inn P w s'.heap S xs n L' D' → R (.ok (.ret .none)) s') →
      codeAny (model P w) A (.builtin "set.update.loop" ⟨[.ref S, .ref I], []⟩) R s := by
  have nw : S ∉ wr := fun z => fr (W.sub _ z)
  have up : ∀ b ∈ wr, b ∈ S :: wr := fun b z => List.mem_cons_of_mem _ z
  have old : ∀ {s s' : Shared}, Moved wr G s s' → (∀ b o, h0.get? b = some o → s.heap.get? b = some o) → ∀ b o, h0.get? b = some o → s'.heap.get? b = some o := fun mv hk b o e =>
    mv.heap b o (fun z => by rw [w0 b z] at e; cases e) (hk b o e)
  intro k
  induction k with
  | zero =>
    intro i s D L e1 e2 hst hk g hR
    obtain rfl : i = n := by omega
    refine codeAny_builtin F.entry_set_update_loop ?_; rw [Around.under_plainId F.plain_set_update_loop _]
    change wpAny _ A.in1 (pyNext (.ref I) >>= _) _ _ s
    refine wpAny_bind (W.done s _ _ hst fun s' mv => ?_)
    change wpAny _ A.in1 (ret Value.none) _ _ s'
    exact wpAny_pure (hR s' D L (mv.mono up) (g.go fun o e => mv.heap S o nw e))
  | succ k ih =>
    intro i s D L e1 e2 hst hk g hR
    have lt : i < n := by omega
    refine codeAny_builtin F.entry_set_update_loop ?_; rw [Around.under_plainId F.plain_set_update_loop _]
    change wpAny _ A.in1 (pyNext (.ref I) >>= _) _ _ s
    refine wpAny_bind (W.item i s _ _ lt hst fun v s' pv hst' mv => ?_)
    obtain ⟨p, hp, rfl⟩ := hv i v pv
    have k' := old mv hk
    have g' := g.go (h' := s'.heap) fun o e => mv.heap S o nw e
    have row : ∀ q ∈ xs, IsU P w s'.heap q.2 q.1 := fun q hq => isU_go (rows q hq) (k' _)
    have tk : xs.take (i + 1) = xs.take i ++ [p] := by rw [List.take_succ, hp]; rfl
    have new : ∀ q ∈ L, IsU P w s'.heap q.2 q.1 ∧ q.2 ≠ p.2 := fun q hq => by
      have m := g.pm.mem_iff.mp hq
      refine ⟨row q (List.mem_of_mem_take m), fun z => ?_⟩
      have d : ((xs.take (i + 1)).map (·.2)).Nodup := (List.take_sublist _ _).map _ |>.nodup nd
      rw [tk, List.map_append, List.nodup_append] at d
      exact d.2.2 q.2 (List.mem_map.mpr ⟨q, m, rfl⟩) p.2 (by simp) z
    have ln : L.length = i := by rw [g.pm.length_eq, List.length_take, hn]; omega
    have px : p ∈ xs := List.mem_of_getElem? hp
    change wpAny _ A.in1 (holding [Value.ref p.1] (setAdd S (.ref p.1)) >>= _) _ _ s'
    refine wpAny_bind (wpAny_holding ?_); unfold setAdd
    refine wpAny_holding (wpAny_bind (wpAny_pyHash_tuple hu (row p px) ?_))
    refine more (s := { s' with toks := s'.toks + (p.2.length + 1) }) g'.su new (row p px) hu (by omega) fun h2 L2 D2 sb S2 p2 => ?_
    have sb' : ∀ b, b ≠ S → ∀ o, s'.heap.get? b = some o → h2.get? b = some o := fun b hb o e => (sb.2 b hb).trans e
    refine wpAny_pure ⟨plainId_quiet F.plain_set_update_loop _, ih (i + 1) _ D2 L2 (by omega) lt (W.frame _ s' _ _ hst' (Nat.le_add_right _ _) fun b hf o e => sb' b (fun z => fr (z ▸ hf)) o e) (fun b o e => sb' b (fun z => by rw [z, S0] at e; cases e) o (k' b o e)) ⟨S2, ?_⟩ fun s3 D3 L3 mv3 => hR s3 D3 L3 (Moved.trans W.gtrans ((mv.mono up).then_heap (Nat.le_add_right _ _) fun b o hb e => sb' b (fun z => hb (by rw [z]; exact List.mem_cons_self ..)) o e) mv3)⟩
    rw [tk]
    exact p2.trans ((g.pm.cons p).trans (List.perm_append_singleton p _).symm)
theorem su_nil {h : Heap} (e : h.get? a = some (obj0 w)) : SU P w h a [] (#[], 0, .fresh 0 0 (ledOf w)) where
  at_ := e
  row := rfl
  tab := ⟨List.Pairwise.nil, rfl, rfl, .inl rfl, fun x hx => (by cases hx), fun i h j hi => (by simp at hi)⟩
  led := by
    unfold ledOf
    cases w.params.followText "set-order"
    · exact .inr rfl
    · exact .inl rfl
  room := by show 0 * 5 < 7 * 3; decide
  few := by show 0 < 64; decide
/-- set(xs), xs a list of rows of texts, no two alike -/
theorem set_rows {l : Addr} {its : Array Value} (xs : List Pr) {Q : Value → Shared → Prop} (hh : A.handled = none) (hl : s.heap.IsList l its) (hi : its.toList = xs.map fun p => Value.ref p.1) (rows : ∀ p ∈ xs, IsU P w s.heap p.2 p.1)
    (few : xs.length < 64) (nd : (xs.map (·.2)).Nodup) (hu : A.units + 3 < cLine)
    (h : ∀ (h' : Heap) (tk : Nat) (D : SD) (L : List Pr), SU P w h' s.heap.objs.size L D → L.Perm xs → (∀ b o, s.heap.get? b = some o → h'.get? b = some o) → Q (.ref s.heap.objs.size) { s with heap := h', toks := tk }) :
    wpAny (model P w) A (call (.type "set") [.ref l]) Q E s := by
  have size : xs.length = its.size := by rw [← Array.length_toList, hi, List.length_map]
  obtain ⟨cc, tl, hmro⟩ := PySem.F.called_set.mro
  have k1 := PySem.F.called_set.made; have k2 := PySem.F.called_set.sub
  refine wpAny_call (codeAny_of_tree ?_); change wpAny _ _ (callAny (.type "set") _) _ _ _
  refine wpAny_pure ⟨Code.quiet_builtin _ (by decide +kernel), codeAny_builtin PySem.F.entry_type_call ?_⟩
  rw [Around.under_plain (weight_type_call_type "set" [Value.ref l] []) rfl]
  have k3 := PySem.F.called_set.notType; have k4 := PySem.F.called_set.canCreate; have k5 := PySem.F.typeCall_set_1 (.ref l)
  repeat (any_goals (first | assumption | wp_step))
  refine codeAny_mono (code_set_led1 (.ref l) (E := E) (Q₁ := fun v s1 => v = .ref s.heap.objs.size ∧ s1 = { s with heap := s.heap.push (obj0 w) }) ⟨rfl, rfl⟩) fun r s1 hr => ?_
  cases r with
  | error e => exact hr
  | ok fl =>
    cases fl with
    | ret v =>
      obtain ⟨rfl, rfl⟩ := hr
      have gS : (s.heap.push (obj0 w)).get? s.heap.objs.size = some (obj0 w) := Heap.get?_push_size _ rfl
      have tS : Shared.TypeIs { s with heap := s.heap.push (obj0 w) } (.ref s.heap.objs.size) "set" := ⟨_, gS, rfl⟩
      have k6 := PySem.F.called_set.init.lookup; have k7 := PySem.F.called_set.init.bind (.ref s.heap.objs.size)
      repeat (any_goals (first | assumption | wp_step))
      refine codeAny_mono (codeAny_call_builtin (R := wants (fun r s2 => r = .none ∧ ∃ h' tk D L, s2 = { s with heap := h', toks := tk } ∧ SU P w h' s.heap.objs.size L D ∧ L.Perm xs ∧ ∀ b o, s.heap.get? b = some o → h'.get? b = some o) E) PySem.F.called_set.init.plain PySem.F.entry_set_init (check_set_init_1 tS ?_)) fun r2 s2 hr2 => ?_
      · obtain ⟨⟨c1, c2, c3, c4⟩, g1, g2, nl, g3⟩ := hl
        simp only at g2 g3
        subst g2 g3
        have gl : (s.heap.push (obj0 w)).get? l = some ⟨.type "list", c2, .seq its nl, c4⟩ := Heap.get?_push_of_some _ g1
        have k8 := PySem.F.sub_list_set; have k9 := PySem.F.sub_list_frozenset
        have k0 : (Value.type "list" == Value.type "dict") = false := by decide
        have L1 : (s.heap.push (obj0 w)).IsList l its := ⟨_, gl, rfl, nl, rfl⟩
        unfold Builtin.«set.__init__» noKeywords Builtin.Frozenset.updateFrom
        generalize hPI : pyIter = PI
        wp_walk
        subst hPI
        refine wpAny_pyIter_list L1 (wpAny_bind (wpAny_runValue ?_))
        have ll : l < s.heap.objs.size := Heap.lt_size g1
        have h3 : A.in1.in1.in1.handled = none := by simp [hh]
        have n1 : l ≠ (s.heap.push (obj0 w)).objs.size := by rw [Heap.size_push]; exact Nat.ne_of_lt (Nat.lt_succ_of_lt ll)
        have n2 : s.heap.objs.size ∉ [(s.heap.push (obj0 w)).objs.size, l] := fun z => by
          rw [Heap.size_push] at z
          rcases List.mem_cons.mp z with z | z
          · exact absurd z (Nat.ne_of_lt (Nat.lt_succ_self _))
          · exact absurd (List.mem_singleton.mp z) (Nat.ne_of_gt ll)
        have no : ∀ b, s.heap.objs.size ≤ b → s.heap.get? b = none := fun b hb => by
          cases q : s.heap.get? b with
          | none => rfl
          | some o => exact absurd (Nat.lt_of_lt_of_le (Heap.lt_size q) hb) (Nat.lt_irrefl _)
        refine loop_rows (P := P) (w := w) ((Walks.list h3 _ l n1 its).toS) n2 size (by rw [← size]; exact few) nd (fun i v hv => ?_) s.heap rows (no _ (Nat.le_refl _)) (fun b hb => no b (by
            rw [List.mem_singleton.mp hb, Heap.size_push]
            exact Nat.le_succ _)) hu (its.size - 0) 0 _ (#[], 0, .fresh 0 0 (ledOf w)) [] (by omega) (Nat.zero_le _) ⟨⟨_, Heap.get?_push_size _ rfl, rfl, rfl⟩, L1.push _⟩ (fun b o e => Heap.get?_push_of_some _ (Heap.get?_push_of_some _ e)) ⟨su_nil (Heap.get?_push_of_some _ gS), List.Perm.refl _⟩ fun s2 D2 l2 mv I2 => ?_
        · have q : its.toList[i]? = some v := by rw [Array.getElem?_toList]; exact hv
          rw [hi, List.getElem?_map] at q
          cases e : xs[i]? with
          | none => rw [e] at q; cases q
          | some p => rw [e] at q; exact ⟨p, rfl, (Option.some.inj q).symm⟩
        obtain ⟨h', x1, x2, tk', x3⟩ := s2
        obtain rfl : x1 = s.gens := mv.gens
        obtain rfl : x2 = s.drawn := mv.drawn
        obtain rfl : x3 = s.os := mv.os
        change wpAny _ _ _ _ _ _
        refine wpAny_pure ?_; change wpAny _ _ (ret Value.none) _ _ _
        have pm := I2.pm
        rw [← size, List.take_length] at pm
        refine wpAny_pure ⟨rfl, h', tk', D2, l2, rfl, I2.su, pm, fun b o e => ?_⟩
        have lb : b < s.heap.objs.size := Heap.lt_size e
        refine mv.heap b o (fun z => ?_) (Heap.get?_push_of_some _ (Heap.get?_push_of_some _ e))
        rcases List.mem_cons.mp z with z | z
        · exact absurd z (Nat.ne_of_lt lb)
        · rw [List.mem_singleton.mp z, Heap.size_push] at lb
          exact absurd lb (Nat.not_lt_of_le (Nat.le_succ _))
      · cases r2 with
        | error e => exact hr2
        | ok f2 =>
          cases f2 with
          | ret v =>
            obtain ⟨rfl, h', tk, D, L, rfl, z1, z2, z3⟩ := hr2
            repeat (any_goals (first | assumption | wp_step))
            exact h h' tk D L z1 z2 z3
          | _ => exact hr2.elim
    | _ => exact hr.elim
end
end OS

end

section
set_option Elab.async false
set_option linter.all false
set_option maxRecDepth 100000
set_option maxHeartbeats 4000000
/-! sets of rows of texts: the calls set(..), len(..) -/
namespace OS
open PySem PySem.Spec PyProof.Rows L2 O PySem.Froz
def SetRw (P : Program) (w : World) (a : Addr) (n : Nat) : HO := .ext fun h => ∃ L D, SU P w h a L D ∧ L.length = n
theorem su_go {P : Program} {w : World} {h h' : Heap} {a : Addr} {L : List Pr} {D : SD} (S : SU P w h a L D) (g : ∀ o, h.get? a = some o → h'.get? a = some o) : SU P w h' a L D :=
  ⟨g _ S.at_, S.row, S.tab, S.led, S.room, S.few⟩
theorem setRw_new {P : Program} {w : World} {H : Hp} {h : Heap} {a : Addr} {D : SD} {L : List Pr} (S : SU P w h a L D) : ObjOk P w H h a (SetRw P w a L.length) :=
  ⟨⟨L, D, S, rfl⟩, ⟨_, S.at_⟩, fun h1 h2 ⟨L', D', S', e'⟩ k => ⟨L', D', su_go S' (k), e'⟩⟩
theorem row_items {P : Program} {w : World} {vs : List Value} {ks : List Str} (h : StrsAre vs ks) : PySem.ItemsAre (strKind P w) ks vs := by
  induction h with
  | nil => exact .nil
  | cons n t _ ih => exact .cons (is_str n t) ih
theorem refs_back {ps : List Pr} : ∀ {us : List Value}, Vals (ps.map fun p => V.ref p.1) us → us = ps.map fun p => Value.ref p.1 := by
  induction ps with
  | nil => intro us r; cases r; rfl
  | cons p ps ih =>
    intro us r
    cases r with
    | cons r1 r2 => rw [ih r2, show _ = Value.ref p.1 from r1]; rfl
section
variable {X : Cx} {pins : List (Addr × Obj)} {σ : L2.St} {H : Hp} {s : Shared}
theorem row_heap (I : Inv X pins σ H s) {t : Addr} {k : List Str} (h : SqT X.K H t (k.map V.str)) : IsU X.prog X.w s.heap k t := by
  obtain ⟨its, r, ⟨o, ho, hc, n, hd⟩, _⟩ := I.tuple h
  exact ⟨o, its.toArray, n, ho, hc, hd, by simpa using row_items (vals_strsAre r)⟩
def rSetRw (K : PySem.W.Frag) (P : Program) (w : World) : List V → Hp → VK → Prop := fun xs H Q => ∃ (l : Addr) (ps : List Pr), xs = [.ref l] ∧ SqL K H l (ps.map fun p => V.ref p.1) ∧ (∀ p ∈ ps, SqT K H p.1 (p.2.map V.str)) ∧ ps.length < 64 ∧ (ps.map (·.2)).Nodup ∧
  ∀ p, H p = none → Q (.ref p) (upd H p (SetRw P w p ps.length))
theorem cr_setRw (hc : X.calm = true) (hu : X.A.units + 65 < cLine) : CallR X (.type "set") (rSetRw X.K X.prog X.w) := by
  intro pins s σ H xs us Q I r h
  obtain ⟨l, ps, rfl, hl, rows, few, nd, q⟩ := h
  rw [Vals.ref1 r]
  obtain ⟨its, rv, pl, hz⟩ := I.list hl
  have hn : H s.heap.objs.size = none := I.hok.fresh (Nat.le_refl _)
  refine set_rows ps (I.ok.hd hc) pl.isList (by simpa using refs_back rv) (fun p hp => row_heap I (rows p hp)) few nd (by omega) fun h' tk D L S pm k => ?_
  refine ⟨.ref _, _, I.laid (t' := tk) k (Nat.le_refl _) (setRw_new S), rfl, ?_⟩
  rw [pm.length_eq]
  exact q _ hn
def rLenRw (P : Program) (w : World) : List V → Hp → VK → Prop := fun xs H Q => ∃ (a : Addr) (n : Nat), xs = [.ref a] ∧ H a = some (SetRw P w a n) ∧ n < 64 ∧ Q (.int n) H
theorem cr_lenRw : CallR X (.builtin "len") (rLenRw X.prog X.w) := by
  intro pins s σ H xs us Q I r h
  obtain ⟨a, n, rfl, ha, hl, q⟩ := h
  rw [Vals.ref1 r]
  obtain ⟨L, D, S, e⟩ := (I.hok a _ ha).1
  have fit := S.fits
  have hs := (row_len S.row).trans e
  obtain ⟨es, ep, t⟩ := D
  refine call_len_set (es := es) (ep := ep) (t := t) S.at_ ⟨rfl, rfl, rfl⟩ rfl fit (by rw [hs]; omega) ⟨.int n, H, I.tok _, ⟨_, by rw [hs]⟩, q⟩
/-- either kind -/
theorem cr_set2 (hc : X.calm = true) (hu : X.A.units + 65 < cLine) : CallR X (.type "set") (fun xs H Q => (∃ (a : Addr) (ss : List Str), xs = [.ref a] ∧ SqL X.K H a (ss.map V.str) ∧ ss.length < 1000 ∧ ∀ p ys, H p = none → ys.Nodup → (∀ k, k ∈ ys ↔ k ∈ ss) → Q (.ref p) (upd H p (SetTx X.prog X.w p ys))) ∨ rSetRw X.K X.prog X.w xs H Q) := by
  intro pins s σ H xs us Q I r h
  rcases h with h | h
  · exact cr_setTx hc pins s σ H xs us Q I r h
  · exact cr_setRw hc hu pins s σ H xs us Q I r h
theorem cr_len2 : CallR X (.builtin "len") (fun xs H Q => (∃ (a : Addr) (l : List Str), xs = [.ref a] ∧ H a = some (SetTx X.prog X.w a l) ∧ l.length < 64 ∧ Q (.int l.length) H) ∨ rLenRw X.prog X.w xs H Q) := by
  intro pins s σ H xs us Q I r h
  rcases h with h | h
  · exact cr_lenTx pins s σ H xs us Q I r h
  · exact cr_lenRw pins s σ H xs us Q I r h
theorem rows_rep {Z : Zx} {K : PySem.W.Frag} : ∀ {ps : List PV} {vs : List V} {ss : List (List (List Nat))}, RepL Z K H ps vs → tupsP ps = some ss → ∃ prs : List Pr, vs = prs.map (fun p => V.ref p.1) ∧ prs.map (·.2) = ss.map (·.map cps) ∧ ∀ p ∈ prs, SqT K H p.1 (p.2.map V.str)
  | [], vs, ss, h, e => by
    cases e
    cases (show vs = [] from h)
    exact ⟨[], rfl, rfl, fun p z => nomatch z⟩
  | .tup xs :: ps, vs, ss, h, e => by
    obtain ⟨v, r, rfl, ⟨a, us, rfl, h1, h2⟩, h3⟩ := h
    simp only [tupsP] at e
    cases e1 : strsP xs with
    | none => rw [e1] at e; cases e
    | some ts =>
      rw [e1] at e
      cases e2 : tupsP ps with
      | none => rw [e2] at e; cases e
      | some ss' =>
        rw [e2] at e
        cases e
        obtain ⟨prs, z1, z2, z3⟩ := rows_rep h3 e2
        obtain ⟨z4, _⟩ := strs_rep h2 e1
        refine ⟨(a, ts.map cps) :: prs, by rw [z1]; rfl, by rw [List.map_cons, List.map_cons, z2], fun p hp => ?_⟩
        rcases List.mem_cons.mp hp with rfl | hp
        · have := h1.1
          rw [z4] at this
          exact this
        · exact z3 p hp
  | .non :: ps, vs, ss, h, e => nomatch e
  | .bl _ :: ps, vs, ss, h, e => nomatch e
  | .int _ :: ps, vs, ss, h, e => nomatch e
  | .str _ :: ps, vs, ss, h, e => nomatch e
  | .lst _ :: ps, vs, ss, h, e => nomatch e
  | .fn _ :: ps, vs, ss, h, e => nomatch e
  | .exc _ :: ps, vs, ss, h, e => nomatch e
  | .scr _ :: ps, vs, ss, h, e => nomatch e
  | .clo _ _ :: ps, vs, ss, h, e => nomatch e
  | .lam _ _ :: ps, vs, ss, h, e => nomatch e
  | .obj _ :: ps, vs, ss, h, e => nomatch e
theorem rows_nodup {ss : List (List (List Nat))} (h : ss.Nodup) : (ss.map (·.map cps)).Nodup := by
  rw [List.Nodup, List.pairwise_map]
  refine h.imp fun hne e => hne ?_
  exact (List.map_inj_right (fun _ _ => cps_inj)).mp e
end
end OS

end

section
set_option Elab.async false
set_option linter.all false
set_option maxRecDepth 100000
set_option maxHeartbeats 1000000
/-! sorted(xs, key=lambda y: y[0]) -/
namespace OS
open PySem PySem.Spec PyProof.Rows L2 O
section
variable {prog : Program} {w : World} {A : Around} {s : Shared}
/-- the lambda called: its item's first -/
theorem lam_first {f t c' : Addr} {q y k : Str} {params : Arguments} {scope : Scope} {pm ctv : Value} {p1 p2 p3 : Pos} {j : Nat} {items : Array Value} {u : Tok}
    (hf : s.heap.get? f = some (PySem.W.kla_obj "<lambda>" q params (.Subscript (.Name y p1) (.Constant (.int 0) j p2) p3) scope [] pm c' ctv)) (hc : s.heap.CodeRec (.ref c') q) (lim : s.heap.NoLimit) (hroom : A.depth < recursionLimit)
    (hb : bindArgs (PySem.W.kla_fn "<lambda>" q params (.Subscript (.Name y p1) (.Constant (.int 0) j p2) p3) scope [] pm (.ref c') ctv) ⟨[.ref t], []⟩ = pure [(y, .ref t)])
    (h1 : scope.kind = .function) (h2 : scope.isCoroutine = false) (h3 : scope.isGenerator = false) (h4 : scope.names = [(y, .local)]) (hd : (y == ("__debug__" : Str)) = false) (ht : IsTup s.heap t items) (hi : items[0]? = some (.str k u)) :
    wpAny (model prog w) A (call (.ref f) [.ref t]) (PySem.W.KeyPure (.str k) s) (fun _ _ => False) s := by
  have hl : scope.names.lookup y = some .local := by rw [h4]; simp [List.lookup]
  have rc : codeAny (model prog w) A (.call (.ref f) ⟨[.ref t], []⟩) (fun r s' => ∃ v, r = .ok (.ret v) ∧ PySem.W.KeyPure (.str k) s v s') s := by
    refine PySem.W.kla_callFunE hroom hf rfl h2 h3 rfl hc ?_
    rw [hb]
    refine wpAny_pure (wpAny_newFunctionEnv (fun x hx => ?_) (fun x hx => ?_) (fun h₁ hns hsb => ⟨lim.fresh _ hsb, ?_⟩) h1)
    · rw [h4] at hx
      cases List.mem_singleton.mp hx
      intro z; cases z
    · cases List.mem_singleton.mp hx
      exact hl
    have kp : ∀ b o, s.heap.get? b = some o → h₁.get? b = some o := fun b o e => hsb.extBut b o (Nat.ne_of_lt (Heap.lt_size e)) (Heap.get?_push_of_some _ e)
    refine PySem.W.kla_codeExpr ?_
    refine wpAny_Subscript_Constant_late ?_
    refine wpAny_Name (wpAny_loadName_local h1 hl hns (v := .ref t) ?_ ?_) hd
    · simp [List.lookup]
    · have ht1 : IsTup h₁ t items := by
        obtain ⟨o, e1, e2⟩ := ht
        exact ⟨o, kp _ _ e1, e2⟩
      refine wpAny_Constant_int ?_
      refine ⟨"tuple", _, slot_tuple_getitem.lookup, ht1.typeIs, PyProof.Rows.getItem_tuple (j := 0) (x := .str k u) ht1 (by omega) (by omega) ?_ hi ⟨_, rfl, _, _, rfl, kp, .str _ _⟩⟩
      have : 0 < items.size := (Array.getElem?_eq_some_iff.mp hi).1
      exact seqIndex_of (k := 0) (by omega) (by omega)
  refine wpAny_call (codeAny_mono rc fun r s' hq => ?_)
  obtain ⟨v, rfl, q⟩ := hq
  exact q
section
variable {E : Value → Shared → Prop} {β : Type} {R : Value → β → Prop} {bs : List β}
/-- sorted(v, key=f), v anything that is collected -/
theorem sorted_keyC {v : Value} {f : Addr} {Q : Value → Shared → Prop} (k : β → PyData) (hal : PySem.W.AllAlike (bs.map k)) (hk : PySem.W.Sortable (bs.map k)) (hL : bs.length ≤ sizeLine) (hu : ∀ x, x ∈ bs → A.units + 2 + (k x).depth < cLine)
    (hc : ∀ R' : List Value → Shared → Prop, (∀ vs h1, PySem.W.EachIs R vs bs → (∀ b o, s.heap.get? b = some o → h1.get? b = some o) → R' vs { s with heap := h1 }) → wpAny (model prog w) A.in1 (collect v) R' E s)
    (turn : ∀ (u : Value) (x : β), R u x → x ∈ bs → ∀ (h : Heap) (tk : Nat), (∀ b o, s.heap.get? b = some o → h.get? b = some o) → wpAny (model prog w) A.in1.in1 (call (.ref f) [u]) (PySem.W.KeyPure (k x) { s with heap := h, toks := tk }) (fun _ _ => False) { s with heap := h, toks := tk })
    (h : ∀ (h1 h' : Heap) (out : List Value) (n tk : Nat), (∀ b o, s.heap.get? b = some o → h1.get? b = some o) → (∀ b o, h1.get? b = some o → h'.get? b = some o) → h'.get? h1.objs.size = some (seqObj "list" out.toArray n) → PySem.W.EachIs R out (bs.mergeSort (PySem.W.dataLe false k)) → Q (.ref h1.objs.size) { s with heap := h', toks := tk }) :
    wpAny (model prog w) A (call (.builtin "sorted") [v] [(Str.ofString "key", .ref f)]) Q E s := by
  refine call_function_entry_kw kind_sorted plain_sorted entry_sorted (ksk_s1 _ _) ?_
  unfold Builtin.«sorted»
  refine wpAny_bind (m := checkCount "sorted" 1 1 _) (wpAny_pure ?_)
  refine wpAny_bind (hc _ fun vs h1 e keep => ?_)
  have hl : vs.length = bs.length := e.length
  refine wpAny_bind (wpAny_newList ?_ (by rw [hl]; exact hL))
  have hoL : (h1.push (seqObj "list" vs.toArray 0)).get? h1.objs.size = some (seqObj "list" vs.toArray 0) := Heap.get?_push_size _ rfl
  have up : ∀ {g : Heap}, PySem.W.KeepsBut h1.objs.size (h1.push (seqObj "list" vs.toArray 0)) g → ∀ b o, h1.get? b = some o → g.get? b = some o := fun {g} kp b o q =>
    kp b o (Nat.ne_of_lt (Heap.lt_size q)) (Heap.get?_push_of_some _ q)
  refine wpAny_bind (wpAny_holding (PySem.W.list_sort_key_data (s := { s with heap := h1.push (seqObj "list" vs.toArray 0) }) (R := R) (bs := bs) (f := .ref f) (b := false) k hoL e hal hk hL (fun x hx => ?_) (ksk_l1 _ _) (ksk_t1 _ _) (fun u x hR hx g tk kp => turn u x hR hx g tk fun b o q => up kp b o (keep b o q)) fun out c h' tk kp hD _ hout => ?_))
  · have := hu x hx
    show A.units + 1 + 1 + (k x).depth < cLine
    omega
  · exact wpAny_pure ⟨_, rfl, h h1 h' out c tk keep (up kp) hD hout⟩
end
theorem pairs_map : ∀ {xs : List PV} {kvs : List (List Nat × PV)}, pairs xs = some kvs → xs = kvs.map fun kv => PV.tup [.str kv.1, kv.2]
  | [], kvs, h => by cases h; rfl
  | x :: xs, kvs, h => by
    unfold pairs at h
    split at h
    · rename_i e; cases e
    · rename_i k v r e
      cases e
      cases hp : pairs xs with
      | none => rw [hp] at h; cases h
      | some kv' =>
        rw [hp] at h
        cases h
        rw [List.map_cons, ← pairs_map hp]
    · cases h
section
variable {X : Cx} {Z : Zx} {E : XK}
theorem each_mapK {K : PySem.W.Frag} {G : Hp} : ∀ {us : List Value} {kvs : List (List Nat × PV)}, PySem.W.EachIs (fun u p => ∃ v, Rep Z K G p v ∧ RelV v u) us (kvs.map fun kv => PV.tup [.str kv.1, kv.2]) → PySem.W.EachIs (fun u kv => ∃ v, Rep Z K G (PV.tup [.str kv.1, kv.2]) v ∧ RelV v u) us kvs
  | _, [], h => by cases h; exact .nil
  | _, kv :: kvs, h => by cases h with | cons h1 h2 => exact .cons h1 (each_mapK h2)
theorem each_mapB {K : PySem.W.Frag} {G : Hp} : ∀ {us : List Value} {kvs : List (List Nat × PV)}, PySem.W.EachIs (fun u kv => ∃ v, Rep Z K G (PV.tup [.str kv.1, kv.2]) v ∧ RelV v u) us kvs → PySem.W.EachIs (fun u p => ∃ v, Rep Z K G p v ∧ RelV v u) us (kvs.map fun kv => PV.tup [.str kv.1, kv.2])
  | _, [], h => by cases h; exact .nil
  | _, kv :: kvs, h => by cases h with | cons h1 h2 => exact .cons h1 (each_mapB h2)
theorem pe_key0 {m : O.St → R PV} {x y : Str} {p pos lpos kpos p1 p2 p3 : Pos} {e : Expr} {params : Arguments} {scope : Scope} {j : Nat} {c P : Addr} (hc : X.calm = true) (hg : Gl X x) (hm : X.mg x = none) (hv : bootBuiltins x = some (.builtin "sorted")) (hn : x ≠ "__name__") (hdb : (x == ("__debug__" : Str)) = false)
    (hs : starEach [e] X.env = (false, eval e X.env) :: starEach [] X.env) (ha : PE X e (tO Z X.K E m))
    (TB : LamX.TabB X.base X.mg c P) (hcode : X.env.code = .ref c) (hmT : (P, X.env.qual ++ "<lambda>") ∈ Z.T) (hu : ∀ p ∈ Z.T, p.1 = P → p.2 = X.env.qual ++ "<lambda>") (hdef : defaultsOf params X.env = ([], []))
    (hb : ∀ (q : Str) (pm cv ctv v : Value), bindArgs (PySem.W.kla_fn "<lambda>" q params (.Subscript (.Name y p1) (.Constant (.int 0) j p2) p3) scope [] pm cv ctv) ⟨[v], []⟩ = pure [(y, v)])
    (h1 : scope.kind = .function) (h2 : scope.isCoroutine = false) (h3 : scope.isGenerator = false) (h4 : scope.names = [(y, .local)]) (hd : (y == ("__debug__" : Str)) = false) (hroom : X.A.depth < recursionLimit) (hun : X.A.units + 100 < cLine) :
    PE X (.Call (.Name x p) [e] [⟨some (Str.ofString "key"), .Lambda params (.Subscript (.Name y p1) (.Constant (.int 0) j p2) p3) scope lpos, kpos⟩] pos) (tM Z X.K E fun r => (m r).bind srtK0) := by
  refine ⟨fun pins s σ H Q I h => ?_⟩
  obtain ⟨ρ, M, sr, q⟩ := h
  refine wpAny_Call_Name_kw (ld_blt I hg hm hv ?_ hn hdb)
  have ta : tCons (tO Z X.K E m) tNil σ H fun vs H1 => ∃ pv v, vs = [v] ∧ SR Z X.K M H1 σ ρ ∧ Vw Z X.K M H1 pv v ∧ Ext Z.T H H1 ∧ Pk Z X.K E M H1 Q (srtK0 pv) := by
    refine ⟨ρ, M, sr, ?_⟩
    have q : Pk Z X.K E M H Q ((m ρ).bind srtK0) := q
    cases em : m ρ with
    | bad => rw [em] at q; exact q
    | exc k => rw [em] at q; exact q
    | ok pv =>
      rw [em] at q
      intro v H1 e1 w1
      exact ⟨pv, v, rfl, sr.go e1, w1, e1, Pk.go sr.own e1 q⟩
  refine PyProof.Rows.callWith_kw (thn ((pa_cons ha pa_nil hs).run pos pins s σ H _ I ta) fun us s1 ⟨vs, H1, I1, r1, q1⟩ => ?_) (by rw [hs]; rfl) (by rw [hs]; rfl) rfl rfl
  obtain ⟨pv, v, rfl, sr1, hw, e1, hq⟩ := q1
  obtain ⟨u, rfl, ru⟩ : ∃ u, us = [u] ∧ RelV v u := by
    cases r1 with
    | cons a b => cases b; exact ⟨_, rfl, a⟩
  show wpAny _ _ (evalAll ((do let v ← eval (.Lambda params (.Subscript (.Name y p1) (.Constant (.int 0) j p2) p3) scope lpos) X.env; standAt pos; pure v) :: [])) _ _ s1
  refine wpAny_evalAll_cons (wpAny_bind (LamX.lam_make2 I1 TB hcode hmT hu sr1.tabs hdef (fun z hz ez => ?_) fun f c' pm ctv H2 s2 I2 eN T2 hf hfn hfr hco => wpAny_bind (wpAny_standAt (wpAny_pure ?_))))
  · rw [h4] at hz
    cases List.mem_singleton.mp hz
    cases ez
  refine wpAny_evalAll_nil ?_
  show wpAny _ _ (call (.builtin "sorted") [u] [(Str.ofString "key", .ref f)]) _ _ s2
  have e2 : Ext Z.T H1 H2 := ⟨eN, fun _ => T2⟩
  have sr2 := sr1.go e2
  have hf : s2.heap.get? f = some (PySem.W.kla_obj "<lambda>" (X.env.qual ++ "<lambda>") params (.Subscript (.Name y p1) (.Constant (.int 0) j p2) p3) scope [] pm c' ctv) := by
    rw [h4] at hf
    exact hf
  obtain ⟨⟨oc, vsc, tc, hoc, hdc, hvc⟩, _, _⟩ := I2.hok c' _ hco
  have core : ∀ (xs : List PV) (kvs : List (List Nat × PV)) (vs : List V) (its : List Value), pairs xs = some kvs → kvs.length ≤ 1000000 → RepL Z X.K (Hm H2 M) xs vs → Vals vs its → Pk Z X.K E M H1 Q (.ok (.lst ((sortK kvs).map fun kv => .tup [.str kv.1, kv.2]))) →
      (∀ R' : List Value → Shared → Prop, (∀ h1, (∀ b o, s2.heap.get? b = some o → h1.get? b = some o) → R' its { s2 with heap := h1 }) → wpAny (model X.prog X.w) X.A.in1 (collect u) R' X.xe s2) → wpAny (model X.prog X.w) X.A (call (.builtin "sorted") [u] [(Str.ofString "key", .ref f)]) (EP X pins σ Q) X.xe s2 := by
    intro xs kvs vs its hp hlen hr rv hq hcol
    have ex := pairs_map hp
    subst ex
    refine sorted_keyC (R := fun u kv => ∃ v, Rep Z X.K (Hm H2 M) (PV.tup [.str kv.1, kv.2]) v ∧ RelV v u) (bs := kvs) (fun kv => PyData.str (cps kv.1)) (PySem.W.AllAlike.of fun _ _ => rfl) (PySem.W.Sortable.others fun _ => ⟨(by intro z; cases z), fun _ z => by cases z⟩) (by rw [sizeLine_eq]; omega) (fun kv _ => ?_)
      (fun R' hR => hcol R' fun h1 keep => hR its h1 (each_mapK (each_rel hr rv)) keep) (fun u' kv hR _ h tk keep => ?_) fun h1 h' out n tk keep keep' hat hout => ?_
    · show X.A.units + 2 + 0 < cLine
      omega
    · obtain ⟨v', rp, rvv⟩ := hR
      obtain ⟨t, ws, rfl, st, w1, wr, rfl, ⟨rfl, _⟩, _⟩ := rp
      cases rvv
      obtain ⟨its2, rv2, ⟨o, g1, g2, no, g4⟩, _⟩ := I2.tuple (sqT_up sr2.own st)
      obtain ⟨u1, us1, rfl, ru1⟩ : ∃ u1 us1, its2 = u1 :: us1 ∧ RelV (.str (cps kv.1)) u1 := by
        cases rv2 with
        | cons a b => exact ⟨_, _, rfl, a⟩
      obtain ⟨tk1, rfl⟩ := ru1
      exact lam_first (s := { s2 with heap := h, toks := tk }) (items := (Value.str (cps kv.1) tk1 :: us1).toArray) (u := tk1) (keep _ _ hf) ⟨c', oc, vsc, tc, rfl, keep _ _ hoc, hdc, hvc⟩ (I2.nolimit.keeps keep) hroom (hb _ _ _ _ _) h1 h2 h3 h4 hd ⟨o, keep _ _ g1, g2, no, g4⟩ (by simp)
    · obtain ⟨ovs, g1, g2⟩ := each_rep (each_mapB hout)
      have I3 : Inv X pins σ H2 { s2 with heap := h1 } := I2.kept (t' := s2.toks) keep
      have hfr : H2 h1.objs.size = none := I3.hok.fresh (Nat.le_refl _)
      have es : sortK kvs = kvs.mergeSort (PySem.W.dataLe false fun kv => PyData.str (cps kv.1)) := by
        rw [PySem.W.dataLe_str]
        unfold sortK
        congr 1
      have hl2 : ovs.length = kvs.length := by rw [← g1.length, List.length_map, List.length_mergeSort]
      refine ⟨.ref h1.objs.size, upd H2 h1.objs.size (.lst ovs), I3.laid (t' := tk) keep' (Nat.le_refl _) ⟨by rw [hl2, sizeLine_eq]; omega, out, n, g2, hat⟩, rfl, ?_⟩
      refine hq _ _ (e2.trans (Ext.new hfr)) ⟨_, _, rfl, Hm.of upd_same (sr2.own.new hfr), ?_⟩
      rw [es]
      exact RepL.go ((Ext.new (T := Z.T) hfr).Hm sr2.own) g1
  have hw2 : Vw Z X.K M H2 pv v := Vw.go sr1.own e2 hw
  cases pv with
  | lst xs =>
    have hq : Pk Z X.K E M H1 Q (match pairs xs with | some kvs => if lim xs.length then R.ok (PV.lst ((sortK kvs).map fun kv => PV.tup [.str kv.1, kv.2])) else .bad | none => .bad) := hq
    cases hp : pairs xs with
    | none => rw [hp] at hq; exact hq.elim
    | some kvs =>
      rw [hp] at hq
      simp only at hq
      by_cases hl : lim xs.length = true
      · rw [if_pos hl] at hq
        have hlen : kvs.length ≤ 1000000 := by
          have := of_decide_eq_true hl
          rw [pairs_map hp, List.length_map] at this
          exact this
        obtain ⟨a, vs, rfl, g1, g2⟩ := hw2
        cases ru
        obtain ⟨its, rv, pl, hz⟩ := I2.list (SqL.of (K := X.K) g1)
        obtain ⟨o, no, z1, z2, z3, z4⟩ := pl
        refine core xs kvs vs its hp hlen g2 rv hq fun R' hR => ?_
        exact wpAny_collect_seq a (.inl rfl) z1 z2 z4 (fun h' k => hR h' k) (by rw [List.size_toArray, ← rv.length]; exact hz)
      · rw [if_neg hl] at hq; exact hq.elim
  | tup xs =>
    have hq : Pk Z X.K E M H1 Q (match pairs xs with | some kvs => if lim xs.length then R.ok (PV.lst ((sortK kvs).map fun kv => PV.tup [.str kv.1, kv.2])) else .bad | none => .bad) := hq
    cases hp : pairs xs with
    | none => rw [hp] at hq; exact hq.elim
    | some kvs =>
      rw [hp] at hq
      simp only at hq
      by_cases hl : lim xs.length = true
      · rw [if_pos hl] at hq
        have hlen : kvs.length ≤ 1000000 := by
          have := of_decide_eq_true hl
          rw [pairs_map hp, List.length_map] at this
          exact this
        obtain ⟨a, vs, rfl, g1, g2⟩ := hw2
        cases ru
        obtain ⟨its, rv, ⟨o, z1, z2, no, z4⟩, hz⟩ := I2.tuple (sqT_up sr2.own g1)
        refine core xs kvs vs its hp hlen g2 rv hq fun R' hR => ?_
        exact wpAny_collect_seq a (.inr rfl) z1 z2 z4 (fun h' k => hR h' k) (by rw [List.size_toArray, ← rv.length]; exact hz)
      · rw [if_neg hl] at hq; exact hq.elim
  | _ => exact (show False from hq).elim
end
end
end OS

end

section
set_option Elab.async false
set_option linter.all false
set_option maxRecDepth 100000
set_option maxHeartbeats 1000000
/-! sorted(d.items()) -/
namespace OS
open PySem PySem.Spec PyProof.Rows L2 O
theorem each_get {α β : Type} {R : α → β → Prop} : ∀ {l : List α} {m : List β}, l.length = m.length → (∀ (j : Nat) (a : α) (b : β), l[j]? = some a → m[j]? = some b → R a b) → PySem.W.EachIs R l m
  | [], [], _, _ => .nil
  | [], _ :: _, h, _ => by simp at h
  | _ :: _, [], h, _ => by simp at h
  | a :: l, b :: m, h, f => .cons (f 0 a b rfl rfl) (each_get (by simpa using h) fun j x y hx hy => f (j + 1) x y hx hy)
theorem each_refs {β : Type} {P : Addr → β → Prop} : ∀ {out : List Value} {xs : List β}, PySem.W.EachIs (fun u x => ∃ b, u = Value.ref b ∧ P b x) out xs → ∃ bl : List Addr, out = bl.map Value.ref ∧ PySem.W.EachIs P bl xs
  | _, _, .nil => ⟨[], rfl, .nil⟩
  | _, _, .cons ⟨b, e, h⟩ r => by
    obtain ⟨bl, e2, h2⟩ := each_refs r
    exact ⟨b :: bl, by rw [e, e2]; rfl, .cons h h2⟩
theorem each_len {α β : Type} {R : α → β → Prop} : ∀ {l : List α} {m : List β}, PySem.W.EachIs R l m → l.length = m.length
  | _, _, .nil => rfl
  | _, _, .cons _ r => by rw [List.length_cons, List.length_cons, each_len r]
theorem vals_refs : ∀ bl : List Addr, Vals (bl.map V.ref) (bl.map Value.ref)
  | [] => .nil
  | b :: bl => .cons rfl (vals_refs bl)
theorem each_repL {Z : Zx} {K : PySem.W.Frag} {G : Hp} {P : Addr → PV → Prop} (f : ∀ b x, P b x → Rep Z K G x (.ref b)) : ∀ {bl : List Addr} {xs : List PV}, PySem.W.EachIs P bl xs → RepL Z K G xs (bl.map V.ref)
  | _, _, .nil => rfl
  | _, _, .cons h r => ⟨_, _, rfl, f _ _ h, each_repL f r⟩
section
variable {X : Cx} {Z : Zx}
def rItemsK : V → List V → Hp → VK → Prop := fun x xs H Q => ∃ (a : Addr) (kvs : List (Key × V)), x = .ref a ∧ xs = [] ∧ H a = some (.dK kvs) ∧ ∀ p, H p = none → Q (.ref p) (upd H p (L2.DX.itemsO p a))
theorem mt_itemsK : MtR X "dict.items" rItemsK := by
  intro pins s σ H x xs v us Q I rx rxs h
  obtain ⟨a, kvs, rfl, rfl, ha, q⟩ := h
  cases rx
  cases rxs
  obtain ⟨z, hd, vs, rel, dd⟩ := dk_of I.hok ha
  obtain ⟨es, ep, raw, _, _⟩ := Heap.DictOf.raw dd
  refine DT.callItems (es := es) (ep := ep) hd raw ?_
  have hf : H s.heap.objs.size = none := I.hok.fresh (Nat.le_refl _)
  exact ⟨.ref s.heap.objs.size, upd H s.heap.objs.size (L2.DX.itemsO s.heap.objs.size a), I.laid (t' := s.toks) (fun b u e => Heap.get?_push_of_some _ e) (Nat.le_refl _) (L2.DX.itemsO_ok (Heap.get?_push_size _ rfl)), rfl, q _ hf⟩
def rSortIK (Z : Zx) (K : PySem.W.Frag) : List V → Hp → VK → Prop := fun vs H Q => ∃ (p a : Addr) (kvs : List (Key × V)) (kv0 : List (List Nat × PV)) (M : List Addr), vs = [.ref p] ∧ H p = some (L2.DX.itemsO p a) ∧ H a = some (.dK kvs) ∧ Own H M ∧ KVs Z K (Hm H M) kv0 kvs ∧
  srtOk (kv0.map fun kv => PV.tup [.str kv.1, kv.2]) = true ∧ ∀ v H', Ext Z.T H H' → Rep Z K (Hm H' M) (.lst (sortD (kv0.map fun kv => PV.tup [.str kv.1, kv.2]))) v → Q v H'
theorem cr_sortIK (hc : X.calm = true) (hu : X.A.units + 65 < cLine) : CallR X (.builtin "sorted") (rSortIK Z X.K) := by
  intro pins s σ H vs us Q I r h
  obtain ⟨p, a, kvs, kv0, M, rfl, hp, ha, ow, ⟨kv1, kv2, kv3⟩, hok, q⟩ := h
  obtain rfl := Vals.ref1 r
  have view : s.heap.IsItemsView p a := (show ObjOk X.prog X.w H s.heap p (L2.DX.itemsO p a) from I.hok p _ hp).1
  obtain ⟨z, hd, vs', rel, dd⟩ := dk_of I.hok ha
  obtain ⟨es, ep, raw, hsz, hent⟩ := Heap.DictOf.raw dd
  have hh : X.A.handled = none := I.ok.hd hc
  unfold srtOk at hok
  rw [Bool.and_eq_true, Bool.and_eq_true, Bool.and_eq_true] at hok
  obtain ⟨k1, k2, k3, k4⟩ := hok
  have hlen : kv0.length ≤ 1000000 := by
    have := of_decide_eq_true k4
    simpa using this
  have l0 : kvs.length = kv0.length := by
    have := congrArg List.length kv1
    simpa using this
  have l1 : kvs.length = vs'.length := Paired.length rel
  have les : es.size = kv0.length := by omega
  refine DT.sortedI (es := es) (ep := ep) hh view raw (by rw [sizeLine_eq]; omega) fun h' tk as hk hlt hl hG => ?_
  have lak : as.length = kv0.length := by omega
  have nd : as.Nodup := List.Pairwise.imp (fun h => Nat.ne_of_lt h) hG.rise
  -- the pairs that were made
  have pr : ∀ (j : Nat) (b : Addr) (kv : List Nat × PV), as[j]? = some b → kv0[j]? = some kv → ∃ (v : V) (t : Tok) (u : Value), kvs[j]? = some (.inr (cps kv.1), v) ∧ okS kv.1 ∧ Rep Z X.K (Hm H M) kv.2 v ∧ RelV v u ∧ h'.get? b = some { cls := .type "tuple", data := .seq #[Value.str (cps kv.1) t, u] } := by
    intro j b kv hj hkv
    obtain ⟨en, he, hg⟩ := hG.pairs j b hj
    obtain ⟨hjl, een⟩ := Array.getElem?_eq_some_iff.mp he
    have hjl2 : j < vs'.length := by omega
    obtain ⟨⟨ky', u⟩, hpq⟩ : ∃ pq, vs'[j]? = some pq := ⟨_, List.getElem?_eq_getElem hjl2⟩
    obtain ⟨⟨ky, v⟩, he0, r1, r2⟩ := L2.DX.pget rel hpq
    obtain ⟨g1, g2⟩ := hent j hjl _ _ hpq
    have r1 : ky = ky' := r1
    subst r1
    have ek : ky = .inr (cps kv.1) := by
      have := congrArg (fun l => l[j]?) kv1
      simp only [List.getElem?_map, he0, hkv, Option.map_some] at this
      exact Option.some.inj this
    subst ek
    obtain ⟨v', hv', rv'⟩ := kv3.get (i := j) (p := kv.2) (by rw [List.getElem?_map, hkv]; rfl)
    rw [List.getElem?_map, he0] at hv'
    cases hv'
    obtain ⟨t, et⟩ : ∃ t, es[j].key = .str (cps kv.1) t := by
      rcases keyIs_shape (show keyIs (.inr (cps kv.1)) es[j].key = true from g1) with ⟨_, _, e, _⟩ | ⟨x, t, e, e2⟩
      · cases e
      · cases e; exact ⟨t, e2⟩
    refine ⟨v, t, es[j].val, he0, kv2 kv (List.mem_of_getElem? hkv), rv', by rw [g2]; exact r2, ?_⟩
    rw [hg, ← een, et]
  -- the heap of the sort
  have hal : PySem.W.AllAlike ((kv0.map fun kv => PV.tup [.str kv.1, kv.2]).map toD) := by
    intro d hd d' hd'
    obtain ⟨a, ha, rfl⟩ := List.mem_map.mp hd
    obtain ⟨b, hb, rfl⟩ := List.mem_map.mp hd'
    exact alike_eq (List.all_eq_true.mp (List.all_eq_true.mp k2 a ha) b hb)
  have hks : PySem.W.Sortable ((kv0.map fun kv => PV.tup [.str kv.1, kv.2]).map toD) := .inl fun d hd => by
    obtain ⟨a, ha, rfl⟩ := List.mem_map.mp hd
    obtain ⟨kv, _, rfl⟩ := List.mem_map.mp ha
    exact ⟨_, _, rfl⟩
  have hob : (h'.push { cls := .type "list", data := .seq (as.map Value.ref).toArray }).get? h'.objs.size = some (seqObj "list" (as.map Value.ref).toArray 0) := Heap.get?_push_size _ rfl
  have ka : ∀ b o, h'.get? b = some o → (h'.push { cls := .type "list", data := .seq (as.map Value.ref).toArray }).get? b = some o := fun b o e => Heap.get?_push_of_some _ e
  have ne0 : ∀ b o, h'.get? b = some o → b ≠ h'.objs.size := fun b o e => Nat.ne_of_lt (Heap.lt_size e)
  have pairOf : ∀ (j : Nat) (u : Value) (x : PV), (as.map Value.ref)[j]? = some u → (kv0.map fun kv => PV.tup [.str kv.1, kv.2])[j]? = some x → ∃ b kv, as[j]? = some b ∧ kv0[j]? = some kv ∧ u = .ref b ∧ x = .tup [.str kv.1, kv.2] := by
    intro j u x h1 h2
    rw [List.getElem?_map] at h1 h2
    cases e1 : as[j]? with
    | none => rw [e1] at h1; cases h1
    | some b =>
      cases e2 : kv0[j]? with
      | none => rw [e2] at h2; cases h2
      | some kv =>
        rw [e1] at h1; rw [e2] at h2
        cases h1; cases h2
        exact ⟨b, kv, rfl, rfl, rfl, rfl⟩
  have fitOf : ∀ kv ∈ kv0, kv.2.fit 11 = true := by
    intro kv hkv
    have := List.all_eq_true.mp k3 _ (List.mem_map.mpr ⟨kv, hkv, rfl⟩)
    have : ([PV.str kv.1, kv.2].all (PV.fit 11)) = true := this
    simp only [List.all_cons, Bool.and_eq_true] at this
    exact this.2.1
  generalize hh2 : h'.push { cls := .type "list", data := .seq (as.map Value.ref).toArray } = h2 at hob ka ⊢
  have redOf : ∀ (j : Nat) (b : Addr) (kv : List Nat × PV), as[j]? = some b → kv0[j]? = some kv → (∃ bs, Reads h' (.ref b) (toD (.tup [.str kv.1, kv.2])) bs) ∧ (toD kv.2).depth ≤ 11 := by
    intro j b kv h1 h2
    obtain ⟨v, t, u, g1, g2, g3, g4, g5⟩ := pr j b kv h1 h2
    obtain ⟨d1, d2, d3⟩ := fit_data 11 kv.2 v (fitOf kv (List.mem_of_getElem? h2)) (Rep.up ow g3)
    obtain ⟨bs, rb⟩ := Dp.reads I _ _ _ d3 g4
    refine ⟨⟨_, .tuple g5 rfl rfl (.cons (.str _ _) (.cons (PyProof.Rows.Reads.keeps hk rb) .nil))⟩, d2⟩
  have depOf : ∀ x ∈ (kv0.map fun kv => PV.tup [.str kv.1, kv.2]), (toD x).depth ≤ 12 := by
    intro x hx
    obtain ⟨kv, hkv, rfl⟩ := List.mem_map.mp hx
    obtain ⟨j, hj⟩ := List.mem_iff_getElem?.mp hkv
    have hjl : j < as.length := by rw [lak]; exact (List.getElem?_eq_some_iff.mp hj).1
    have := (redOf j _ kv (List.getElem?_eq_getElem hjl) hj).2
    show (PyData.tuple [.str (cps kv.1), toD kv.2]).depth ≤ 12
    simp only [PyData.depth, PyData.depthAll]
    omega
  refine PySem.W.list_sort_data (s := { s with heap := h2, toks := tk }) (R := fun u x => ∃ (j : Nat) (b : Addr) (kv : List Nat × PV), as[j]? = some b ∧ kv0[j]? = some kv ∧ u = .ref b ∧ x = .tup [.str kv.1, kv.2]) (enc := toD) (bs := kv0.map fun kv => PV.tup [.str kv.1, kv.2]) hob
    (each_get (by simp [lak]) fun j u x h1 h2 => ⟨j, pairOf j u x h1 h2⟩) (each_get (by simp [lak]) fun j u x h1 h2 => ?_) hal hks (by rw [List.length_map, sizeLine_eq]; omega) (fun x hx => ?_) fun out ho hout => ?_
  · obtain ⟨b, kv, q1, q2, rfl, rfl⟩ := pairOf j u x h1 h2
    obtain ⟨⟨bs, rb⟩, _⟩ := redOf j b kv q1 q2
    exact ⟨bs, PyProof.Rows.Reads.keeps ka rb, fun z => absurd (reads_lt rb _ z) (Nat.lt_irrefl _)⟩
  · have := depOf x hx
    show X.A.units + 1 + 1 + (toD x).depth < cLine
    omega
  · show EP X pins σ Q (.ref h'.objs.size) { s with heap := sortedHeap h2 h'.objs.size (as.map Value.ref) out.toArray, toks := tk }
    have hout2 := hout.mono (R' := fun u x => ∃ b, u = Value.ref b ∧ ∃ (j : Nat) (kv : List Nat × PV), as[j]? = some b ∧ kv0[j]? = some kv ∧ x = PV.tup [.str kv.1, kv.2]) fun u x ⟨j, b, kv, q1, q2, q3, q4⟩ => ⟨b, q3, j, kv, q1, q2, q4⟩
    obtain ⟨bl, eb, hb⟩ := each_refs hout2
    subst eb
    have kF : ∀ b o, b ≠ h'.objs.size → h2.get? b = some o → (sortedHeap h2 h'.objs.size (as.map Value.ref) (bl.map Value.ref).toArray).get? b = some o := fun b o hb e => (sortedHeap_old hb (Heap.lt_size e)).trans e
    have kS : ∀ b o, s.heap.get? b = some o → (sortedHeap h2 h'.objs.size (as.map Value.ref) (bl.map Value.ref).toArray).get? b = some o := fun b o e => kF b o (ne0 _ _ (hk b o e)) (ka _ _ (hk b o e))
    obtain ⟨eF, heF⟩ := sortedHeap_at (vs := as.map Value.ref) (out := (bl.map Value.ref).toArray) hob
    have I1 : Inv X pins σ H { s with heap := sortedHeap h2 h'.objs.size (as.map Value.ref) (bl.map Value.ref).toArray, toks := tk } := I.kept (t' := tk) kS
    have hn0 : H h'.objs.size = none := I.hok.fresh (Nat.le_of_lt hlt)
    have hbl : (bl.map V.ref).length ≤ sizeLine := by
      rw [List.length_map, each_len hb, List.length_mergeSort, List.length_map, sizeLine_eq]
      omega
    have I2 : Inv X pins σ (upd H h'.objs.size (.lst (bl.map V.ref))) { s with heap := sortedHeap h2 h'.objs.size (as.map Value.ref) (bl.map Value.ref).toArray, toks := tk } :=
      I1.take (h' := sortedHeap h2 h'.objs.size (as.map Value.ref) (bl.map Value.ref).toArray) (t' := tk) (fun b ob _ e => e) (I.fpOk (Nat.le_of_lt hlt) hn0) ⟨hbl, bl.map Value.ref, eF, vals_refs bl, heF⟩
    obtain ⟨H2, I3, g, qt⟩ := L2.DX.takeT (P := fun b vs => ∃ (j : Nat) (kvv : Key × V), as[j]? = some b ∧ kvs[j]? = some kvv ∧ vs = [kV kvv.1, kvv.2]) I as _ I2 nd fun b hbm => by
      obtain ⟨j, hj⟩ := List.mem_iff_getElem?.mp hbm
      have hjl : j < kv0.length := by rw [← lak]; exact (List.getElem?_eq_some_iff.mp hj).1
      obtain ⟨v, t, u, g1, g2, g3, g4, g5⟩ := pr j b _ hj (List.getElem?_eq_getElem hjl)
      have hbl : s.heap.objs.size ≤ b := Nat.le_of_lt (hG.above b hbm)
      refine ⟨hbl, ?_, _, ⟨j, _, hj, g1, rfl⟩, fun H3 => ⟨(by rw [sizeLine_eq]; show 2 ≤ 16777216; omega), _, .cons ⟨t, rfl⟩ (.cons g4 .nil), ⟨_, kF _ _ (ne0 _ _ g5) (ka _ _ g5), rfl, 0, rfl⟩⟩⟩
      rw [upd_ne (ne0 _ _ g5)]
      exact I.hok.fresh hbl
    have gr : ∀ b o, H b = some o → H2 b = some o := fun b o e => g b o (by rw [upd_ne (ne_of_none e hn0)]; exact e)
    have ex : Ext Z.T H H2 := ⟨fun b o e _ => gr b o e, fun t => t.ext gr⟩
    have nM : ∀ b, H b = none → b ∉ M := fun b e => ow.new e
    have el : sortD (kv0.map fun kv => PV.tup [.str kv.1, kv.2]) = (kv0.map fun kv => PV.tup [.str kv.1, kv.2]).mergeSort (PySem.W.dataLe false toD) := by rw [le_eq]; rfl
    refine ⟨.ref h'.objs.size, H2, I3, rfl, q _ H2 ex ⟨_, _, rfl, Hm.of (g _ _ upd_same) (nM _ hn0), ?_⟩⟩
    rw [el]
    refine each_repL (fun b x hx => ?_) hb
    obtain ⟨j, kv, q1, q2, rfl⟩ := hx
    obtain ⟨vs, ⟨j', kvv, j1, j2, ev⟩, hH⟩ := qt b (List.mem_of_getElem? q1)
    have eij : j' = j := (List.getElem?_inj (List.getElem?_eq_some_iff.mp j1).1 nd).mp (j1.trans q1.symm)
    subst eij
    obtain ⟨v, t, u, g1, g2, g3, g4, g5⟩ := pr _ b kv q1 q2
    rw [g1] at j2
    cases j2
    subst ev
    have hb0 : H b = none := I.hok.fresh (Nat.le_of_lt (hG.above b (List.mem_of_getElem? q1)))
    exact ⟨b, _, rfl, SqQ.non (SqT.of (Hm.of hH (nM b hb0))) rfl, _, _, rfl, ⟨rfl, g2⟩, _, _, rfl, Rep.go (ex.Hm ow) g3, rfl⟩
end
end OS

end

section
set_option Elab.async false
set_option linter.all false
set_option maxRecDepth 100000
set_option maxHeartbeats 2000000
/-! tuple(zip(x, y)) -/
namespace PySem
open Sem (wp)
section
variable {prog : Program} {w : World} {A : Around} {E : Value → Shared → Prop} {s : Shared} {z TI TO T i1 i2 : Addr} {fp1 fp2 : List Addr} {n1 n2 i : Nat} {P1 P2 : Nat → Value → Prop} {St1 St2 : Nat → Heap → Prop} {fl : Bool} {oT : Obj}
/-- the next pair, the first one being still held -/
theorem zh_item {Q : Value → Shared → Prop} (S : ZipSep2 z TI TO i1 i2 fp1 fp2) (D1 : Draws prog w A i1 fp1 n1 P1 St1) (D2 : Draws prog w A i2 fp2 n2 P2 St2) (hz : IsZipHeld s.heap z TI TO T fl) (hT : s.heap.get? T = some oT)
    (hTI : IsTupOf2 s.heap TI (.ref i1) (.ref i2)) (a1 : St1 i s.heap) (a2 : St2 i s.heap) (b1 : i < n1) (b2 : i < n2)
    (hQ : ∀ x y g tk, P1 i x → P2 i y → IsZipHeld g z TI TO T true → St1 (i + 1) g → St2 (i + 1) g → IsTupOf2 g s.heap.objs.size x y → g.objs.size = s.heap.objs.size + 1 → (∀ c o, c ≠ z → c ≠ i1 → c ≠ i2 → s.heap.get? c = some o → g.get? c = some o) → Q (.ref s.heap.objs.size) { s with heap := g, toks := tk }) :
    wpAny (model prog w) A (Builtin.«zip.__next__» ⟨[.ref z], []⟩) (fun fin s' => ∃ v, fin = .done (.ret v) ∧ Q v s') E s := by
  obtain ⟨hp, gs, d, tk0, os⟩ := s
  refine wpAny_bind (m := field (.ref z) 2) (wpAny_field hz rfl (x := .bool false) rfl (wpAny_bind (m := field (.ref z) 3) (wpAny_field hz rfl (x := .ref TI) rfl (wpAny_bind (wpAny_seqItems hTI rfl ?_)))))
  refine wpAny_bind (m := Builtin.SmallTypes.ownedTupleIsFree (.ref z)) (wpAny_tupleHeld_zip hz hT fun g0 z0 e0 => ?_)
  replace z0 : IsZipHeld g0 z TI TO T true := z0
  replace e0 : Heap.SameBut z hp g0 := e0
  simp only [Bool.false_eq_true, if_false]
  refine wpAny_bind ?_
  rw [← Array.forIn_toList]
  simp only [List.forIn_cons, List.forIn_nil]
  refine wpAny_bind (wpAny_bind (wpAny_holding ?_))
  refine wpAny_bind (m := Builtin.SmallTypes.nextOf (.ref i1)) (D1.item i ⟨g0, gs, d, tk0, os⟩ _ _ b1 (D1.over a1 e0 S.zf1) fun x p1 tk1 hx c1 e1 => wpAny_pure (wpAny_pure ?_))
  replace e1 : Heap.SameBut i1 g0 p1 := e1
  refine wpAny_bind (wpAny_bind (wpAny_holding ?_))
  refine wpAny_bind (m := Builtin.SmallTypes.nextOf (.ref i2)) (D2.item i ⟨p1, gs, d, tk1, os⟩ _ _ b2 (D2.over (D2.over a2 e0 S.zf2) e1 S.sep1_2) fun y p2 tk2 hy c2 e2 => wpAny_pure (wpAny_pure (wpAny_pure ?_)))
  replace e2 : Heap.SameBut i2 p1 p2 := e2
  refine wpAny_bind (m := newTuple [x, y]) (wpAny_newTuple ?_)
  have sz : p2.objs.size = hp.objs.size := by rw [e2.1, e1.1, e0.1]
  refine wpAny_pure ⟨_, rfl, ?_⟩
  have up : ∀ c o, p2.get? c = some o → (p2.push { cls := .type "tuple", data := .seq #[x, y] }).get? c = some o := fun c o e => Heap.get?_push_of_some _ e
  have hp2 : IsTupOf2 (p2.push { cls := .type "tuple", data := .seq #[x, y] }) p2.objs.size x y := Heap.get?_push_size _ rfl
  have hsz : (p2.push { cls := .type "tuple", data := .seq #[x, y] }).objs.size = p2.objs.size + 1 := Heap.size_push ..
  show Q (.ref p2.objs.size) ⟨_, gs, d, tk2, os⟩
  rw [sz] at hp2 hsz ⊢
  refine hQ x y _ tk2 hx hy (up _ _ (e2.extBut _ _ S.zi2 (e1.extBut _ _ S.zi1 z0))) (D1.frame _ _ _ (D1.over c1 e2 S.sep2_1) fun b _ o e => up b o e) (D2.frame _ _ _ c2 fun b _ o e => up b o e) hp2 hsz fun c o k1 k2 k3 e => up c o (e2.extBut _ _ k3 (e1.extBut _ _ k2 (e0.extBut _ _ k1 e)))
theorem zh_end {Q : Fin → Shared → Prop} (S : ZipSep2 z TI TO i1 i2 fp1 fp2) (D1 : Draws prog w A i1 fp1 n1 P1 St1) (D2 : Draws prog w A i2 fp2 n2 P2 St2) (hz : IsZipHeld s.heap z TI TO T fl) (hT : s.heap.get? T = some oT)
    (hTI : IsTupOf2 s.heap TI (.ref i1) (.ref i2)) (a1 : St1 i s.heap) (a2 : St2 i s.heap) (b1 : i ≤ n1) (b2 : i ≤ n2) (be : i = n1 ∨ i = n2)
    (hE : ∀ g tk e, (∀ c o, c ≠ z → c ≠ i1 → c ≠ i2 → s.heap.get? c = some o → g.get? c = some o) → (∃ o, g.get? e = some o ∧ o.cls = .type "StopIteration") → E (.ref e) { s with heap := g, toks := tk }) :
    wpAny (model prog w) A (Builtin.«zip.__next__» ⟨[.ref z], []⟩) Q E s := by
  obtain ⟨hp, gs, d, tk0, os⟩ := s
  refine wpAny_bind (m := field (.ref z) 2) (wpAny_field hz rfl (x := .bool false) rfl (wpAny_bind (m := field (.ref z) 3) (wpAny_field hz rfl (x := .ref TI) rfl (wpAny_bind (wpAny_seqItems hTI rfl ?_)))))
  refine wpAny_bind (m := Builtin.SmallTypes.ownedTupleIsFree (.ref z)) (wpAny_tupleHeld_zip hz hT fun g0 z0 e0 => ?_)
  replace e0 : Heap.SameBut z hp g0 := e0
  simp only [Bool.false_eq_true, if_false]
  refine wpAny_bind ?_
  rw [← Array.forIn_toList]
  simp only [List.forIn_cons, List.forIn_nil]
  refine wpAny_bind (wpAny_bind (wpAny_holding ?_))
  by_cases b3 : i = n1
  · refine wpAny_bind (m := Builtin.SmallTypes.nextOf (.ref i1)) (D1.done ⟨g0, gs, d, tk0, os⟩ _ _ (by rw [← b3]; exact D1.over a1 e0 S.zf1) fun q e e1 he => ?_)
    exact hE q tk0 e (fun c o k1 k2 _ x => e1 _ _ k2 (e0.extBut _ _ k1 x)) he
  · have b4 : i = n2 := be.resolve_left b3
    refine wpAny_bind (m := Builtin.SmallTypes.nextOf (.ref i1)) (D1.item i ⟨g0, gs, d, tk0, os⟩ _ _ (by omega) (D1.over a1 e0 S.zf1) fun x p1 tk1 hx c1 e1 => wpAny_pure (wpAny_pure ?_))
    replace e1 : Heap.SameBut i1 g0 p1 := e1
    refine wpAny_bind (wpAny_bind (wpAny_holding ?_))
    refine wpAny_bind (m := Builtin.SmallTypes.nextOf (.ref i2)) (D2.done ⟨p1, gs, d, tk1, os⟩ _ _ (by rw [← b4]; exact D2.over (D2.over a2 e0 S.zf2) e1 S.sep1_2) fun q e e2 he => ?_)
    exact hE q tk1 e (fun c o k1 k2 k3 x => e2 _ _ k3 (e1.extBut _ _ k2 (e0.extBut _ _ k1 x))) he
theorem zh_nextI {Q : Option Value → Shared → Prop} (S : ZipSep2 z TI TO i1 i2 fp1 fp2) (D1 : Draws prog w A.in1 i1 fp1 n1 P1 St1) (D2 : Draws prog w A.in1 i2 fp2 n2 P2 St2) (hz : IsZipHeld s.heap z TI TO T fl) (hT : s.heap.get? T = some oT)
    (hTI : IsTupOf2 s.heap TI (.ref i1) (.ref i2)) (a1 : St1 i s.heap) (a2 : St2 i s.heap) (b1 : i < n1) (b2 : i < n2)
    (hQ : ∀ x y g tk, P1 i x → P2 i y → IsZipHeld g z TI TO T true → St1 (i + 1) g → St2 (i + 1) g → IsTupOf2 g s.heap.objs.size x y → g.objs.size = s.heap.objs.size + 1 → (∀ c o, c ≠ z → c ≠ i1 → c ≠ i2 → s.heap.get? c = some o → g.get? c = some o) → Q (some (.ref s.heap.objs.size)) { s with heap := g, toks := tk }) :
    wpAny (model prog w) A (pyNext (.ref z)) Q E s := by
  have ty : s.TypeIs (.ref z) "zip" := ⟨_, hz, rfl⟩
  unfold pyNext
  refine wpAny_bind (wpAny_attempt (wpAny_callSpecial?_slot (name := Str.ofString "__next__") ty F.slot_zip_next (wpAny_call_entry F.slot_zip_next ty F.entry_zip_next (zh_item S D1 D2 hz hT hTI a1 a2 b1 b2 fun x y g tk c1 c2 c3 c4 c5 c6 c7 c8 => ?_) (F.args_zip_next_1 _))))
  exact wpAny_pure (hQ x y g tk c1 c2 c3 c4 c5 c6 c7 c8)
theorem zh_nextE {Q : Option Value → Shared → Prop} (S : ZipSep2 z TI TO i1 i2 fp1 fp2) (D1 : Draws prog w A.in1 i1 fp1 n1 P1 St1) (D2 : Draws prog w A.in1 i2 fp2 n2 P2 St2) (hz : IsZipHeld s.heap z TI TO T fl) (hT : s.heap.get? T = some oT)
    (hTI : IsTupOf2 s.heap TI (.ref i1) (.ref i2)) (a1 : St1 i s.heap) (a2 : St2 i s.heap) (b1 : i ≤ n1) (b2 : i ≤ n2) (be : i = n1 ∨ i = n2)
    (hQ : ∀ g tk, (∀ c o, c ≠ z → c ≠ i1 → c ≠ i2 → s.heap.get? c = some o → g.get? c = some o) → Q none { s with heap := g, toks := tk }) : wpAny (model prog w) A (pyNext (.ref z)) Q E s := by
  have ty : s.TypeIs (.ref z) "zip" := ⟨_, hz, rfl⟩
  unfold pyNext
  refine wpAny_bind (wpAny_attempt (wpAny_callSpecial?_slot (name := Str.ofString "__next__") ty F.slot_zip_next (wpAny_call_entry F.slot_zip_next ty F.entry_zip_next (zh_end S D1 D2 hz hT hTI a1 a2 b1 b2 be fun g tk e kp he => ?_) (F.args_zip_next_1 _))))
  obtain ⟨o, ho, hc⟩ := he
  exact wpAny_bind (wpAny_isInstance (T := "StopIteration") (b := true) ⟨o, ho, hc⟩ isSubtype_stop (wpAny_pure (hQ g tk kp)))
/-- what stands behind i pairs -/
structure ZxAt (z TI TO i1 i2 L : Addr) (P1 P2 : Nat → Value → Prop) (St1 St2 : Nat → Heap → Prop) (i : Nat) (acc : Array Value) (h : Heap) : Prop where
  ti : IsTupOf2 h TI (.ref i1) (.ref i2)
  s1 : St1 i h
  s2 : St2 i h
  len : acc.size = i
  prs : ∀ j, j < i → ∃ T x y, acc[j]? = some (.ref T) ∧ IsTupOf2 h T x y ∧ P1 j x ∧ P2 j y ∧ L < T
  zip : (i = 0 ∧ IsZip h z TI TO .none ∧ ∃ a b, IsTupOf2 h TO a b) ∨ (0 < i ∧ ∃ T f, IsZipHeld h z TI TO T f ∧ acc[0]? = some (.ref T))
end
section
variable {prog : Program} {w : World} {A : Around} {R : Result → Shared → Prop} {z TI TO i1 i2 L : Addr} {fp1 fp2 : List Addr} {n1 n2 : Nat} {P1 P2 : Nat → Value → Prop} {St1 St2 : Nat → Heap → Prop}
theorem zx_loop (S : ZipSep2 z TI TO i1 i2 fp1 fp2) (D1 : Draws prog w A.in1.in1 i1 fp1 n1 P1 St1) (D2 : Draws prog w A.in1.in1 i2 fp2 n2 P2 St2) (lt : ∀ b ∈ [z, TI, TO, i1, i2], b < L) (L1 : L ∉ fp1) (L2 : L ∉ fp2) (hn : min n1 n2 ≤ 1000000) (res : Value) :
    ∀ (k i : Nat) (s : Shared) (acc : Array Value) (c : Nat), min n1 n2 - i = k → i ≤ min n1 n2 → s.heap.get? L = some { cls := .type "list", dict := none, data := .seq acc c, slots := #[] } → ZxAt z TI TO i1 i2 L P1 P2 St1 St2 i acc s.heap →
    (∀ g tk acc' c', g.get? L = some { cls := .type "list", dict := none, data := .seq acc' c', slots := #[] } → acc'.size = min n1 n2 → (∀ j, j < min n1 n2 → ∃ T x y, acc'[j]? = some (.ref T) ∧ IsTupOf2 g T x y ∧ P1 j x ∧ P2 j y ∧ L < T) → (∀ b o, b ∉ [z, TI, TO, i1, i2, L] → s.heap.get? b = some o → g.get? b = some o) → R (.ok (.ret res)) { s with heap := g, toks := tk }) →
    codeAny (model prog w) A (.builtin "list.extend.loop" ⟨[.ref L, .ref z, res], []⟩) R s := by
  have nz : L ≠ z := Nat.ne_of_gt (lt z (by simp))
  have nTI : L ≠ TI := Nat.ne_of_gt (lt TI (by simp))
  have nTO : L ≠ TO := Nat.ne_of_gt (lt TO (by simp))
  have ni1 : L ≠ i1 := Nat.ne_of_gt (lt i1 (by simp))
  have ni2 : L ≠ i2 := Nat.ne_of_gt (lt i2 (by simp))
  have new : ∀ T : Addr, L < T → T ≠ z ∧ T ≠ TI ∧ T ≠ TO ∧ T ≠ i1 ∧ T ≠ i2 ∧ T ≠ L := fun T hT =>
    ⟨Nat.ne_of_gt (Nat.lt_trans (lt z (by simp)) hT), Nat.ne_of_gt (Nat.lt_trans (lt TI (by simp)) hT), Nat.ne_of_gt (Nat.lt_trans (lt TO (by simp)) hT), Nat.ne_of_gt (Nat.lt_trans (lt i1 (by simp)) hT), Nat.ne_of_gt (Nat.lt_trans (lt i2 (by simp)) hT), Nat.ne_of_gt hT⟩
  intro k
  induction k with
  | zero =>
    intro i s acc c hk hi hL Zx hR
    have last : i = min n1 n2 := by omega
    have be : i = n1 ∨ i = n2 := by omega
    have fin : ∀ (g : Heap) (tk : Nat), (∀ b o, b ≠ z → b ≠ TO → b ≠ i1 → b ≠ i2 → s.heap.get? b = some o → g.get? b = some o) → R (.ok (.ret res)) { s with heap := g, toks := tk } := fun g tk kp => by
      refine hR g tk acc c (kp L _ nz nTO ni1 ni2 hL) (by rw [Zx.len, last]) (fun j hj => ?_) (fun b o hb e => kp b o (fun q => hb (by simp [q])) (fun q => hb (by simp [q])) (fun q => hb (by simp [q])) (fun q => hb (by simp [q])) e)
      obtain ⟨T, x, y, q1, q2, q3, q4, q5⟩ := Zx.prs j (by rw [last]; exact hj)
      obtain ⟨m1, m2, m3, m4, m5, m6⟩ := new T q5
      exact ⟨T, x, y, q1, kp T _ m1 m3 m4 m5 q2, q3, q4, q5⟩
    refine codeAny_builtin F.entry_extend_loop (by
      rw [Around.under_plainId F.plain_extend_loop _]
      refine wpAny_bind (m := pyNext (.ref z)) ?_
      rcases Zx.zip with ⟨h0, hz, a, b, hTO⟩ | ⟨h0, T, f, hz, hT⟩
      · exact wpAny_pyNext_zipD2_end S D1 D2 hz Zx.ti hTO Zx.s1 Zx.s2 (by omega) (by omega) be fun g tk kp => wpAny_pure (fin g tk kp)
      · obtain ⟨T', x, y, q1, q2, _⟩ := Zx.prs 0 h0
        rw [hT] at q1
        cases q1
        exact zh_nextE S D1 D2 hz q2 Zx.ti Zx.s1 Zx.s2 (by omega) (by omega) be fun g tk kp => wpAny_pure (fin g tk fun b o k1 _ k3 k4 e => kp b o k1 k3 k4 e))
  | succ k ih =>
    intro i s acc c hk hi hL Zx hR
    have more : i < min n1 n2 := by omega
    have step : ∀ (x y : Value) (g : Heap) (tk : Nat) (T0 : Addr) (f : Bool), P1 i x → P2 i y → IsZipHeld g z TI TO T0 f → (i = 0 → T0 = s.heap.objs.size) → (0 < i → acc[0]? = some (.ref T0)) → St1 (i + 1) g → St2 (i + 1) g → IsTupOf2 g s.heap.objs.size x y → (∀ b o, b ≠ z → b ≠ TO → b ≠ i1 → b ≠ i2 → s.heap.get? b = some o → g.get? b = some o) →
        wpAny (model prog w) A.in1 (updateSeq L (·.push (.ref s.heap.objs.size)) >>= fun _ => again (.builtin "list.extend.loop" ⟨[.ref L, .ref z, res], []⟩)) (fun fin s' => match fin with | .done f => R (.ok f) s' | .again c' => c'.quiet = true ∧ codeAny (model prog w) A c' R s') (fun e s' => R (.error e) s') { s with heap := g, toks := tk } := by
      intro x y g tk T0 f px py hz e0 e1 c1 c2 hT kp
      have hL2 := kp L _ nz nTO ni1 ni2 hL
      have LT : L < s.heap.objs.size := Heap.lt_size hL
      have oth : ∀ b o, b ≠ L → g.get? b = some o → (g.update L (Obj.mapSeq (·.push (.ref s.heap.objs.size)))).get? b = some o := fun b o hb e => (Heap.get?_update_other _ _ (Ne.symm hb)).trans e
      refine wpAny_bind (wpAny_updateSeq (s := { s with heap := g, toks := tk }) hL2 rfl (wpAny_pure ⟨plainId_quiet F.plain_extend_loop _, ih (i + 1) _ (acc.push (.ref s.heap.objs.size)) _ (by omega) more (Heap.get?_update_self _ hL2 rfl) ?_ fun g2 tk2 acc2 c2' r1 r2 r3 r4 => ?_⟩) (by rw [Zx.len, sizeLine_eq]; omega) (by show (acc.push _).size ≤ sizeLine + 1; rw [Array.size_push, Zx.len, sizeLine_eq]; omega))
      · refine ⟨oth _ _ (Ne.symm nTI) (kp TI _ S.TIz S.TITO S.TIi1 S.TIi2 Zx.ti), D1.frame _ _ _ c1 fun b hb o e => oth b o (fun q => L1 (q ▸ hb)) e, D2.frame _ _ _ c2 fun b hb o e => oth b o (fun q => L2 (q ▸ hb)) e, by rw [Array.size_push, Zx.len], fun j hj => ?_, .inr ⟨Nat.succ_pos i, T0, f, oth _ _ (Ne.symm nz) hz, ?_⟩⟩
        · by_cases hji : j < i
          · obtain ⟨T, x', y', q1, q2, q3, q4, q5⟩ := Zx.prs j hji
            obtain ⟨m1, m2, m3, m4, m5, m6⟩ := new T q5
            exact ⟨T, x', y', by rw [Array.getElem?_push, if_neg (by rw [Zx.len]; omega)]; exact q1, oth _ _ m6 (kp T _ m1 m3 m4 m5 q2), q3, q4, q5⟩
          · have ej : j = i := by omega
            subst ej
            exact ⟨s.heap.objs.size, x, y, by rw [Array.getElem?_push, if_pos Zx.len.symm], oth _ _ (Nat.ne_of_gt LT) hT, px, py, LT⟩
        · by_cases hi0 : i = 0
          · rw [e0 hi0, Array.getElem?_push, if_pos (by rw [Zx.len, hi0])]
          · rw [Array.getElem?_push, if_neg (by rw [Zx.len]; omega)]
            exact e1 (by omega)
      · refine hR g2 tk2 acc2 c2' r1 r2 r3 fun b o hb e => r4 b o hb (oth b o (fun q => hb (by simp [q])) (kp b o (fun q => hb (by simp [q])) (fun q => hb (by simp [q])) (fun q => hb (by simp [q])) (fun q => hb (by simp [q])) e))
    refine codeAny_builtin F.entry_extend_loop (by
      rw [Around.under_plainId F.plain_extend_loop _]
      refine wpAny_bind (m := pyNext (.ref z)) ?_
      rcases Zx.zip with ⟨h0, hz, a, b, hTO⟩ | ⟨h0, T, f, hz, hT⟩
      · exact wpAny_pyNext_zipD2_item S D1 D2 hz Zx.ti hTO Zx.s1 Zx.s2 (by omega) (by omega) fun x y g tk px py z1 t1 c1 c2 hT hsz kp => step x y g tk s.heap.objs.size false px py z1 (fun _ => rfl) (fun q => absurd h0 (Nat.ne_of_gt q)) c1 c2 hT kp
      · obtain ⟨T', x', y', q1, q2, _⟩ := Zx.prs 0 h0
        rw [hT] at q1
        cases q1
        exact zh_nextI S D1 D2 hz q2 Zx.ti Zx.s1 Zx.s2 (by omega) (by omega) fun x y g tk px py z1 c1 c2 hT2 hsz kp => step x y g tk T true px py z1 (fun q => absurd h0 (by omega)) (fun _ => hT) c1 c2 hT2 fun b o k1 _ k3 k4 e => kp b o k1 k3 k4 e)
theorem zx_nolen : typeLookup (.type "zip") "__len__" = pure none := am_miss_of_fast (by decide +kernel)
theorem zx_nohint : typeLookup (.type "zip") "__length_hint__" = pure none := am_miss_of_fast (by decide +kernel)
theorem zx_collect {E : Value → Shared → Prop} {s : Shared} {Q : List Value → Shared → Prop} {a b : Value} (S : ZipSep2 z TI TO i1 i2 fp1 fp2) (D1 : Draws prog w A.in1.in1 i1 fp1 n1 P1 St1) (D2 : Draws prog w A.in1.in1 i2 fp2 n2 P2 St2) (hn : min n1 n2 ≤ 1000000)
    (hz : IsZip s.heap z TI TO .none) (hTI : IsTupOf2 s.heap TI (.ref i1) (.ref i2)) (hTO : IsTupOf2 s.heap TO a b) (s1 : St1 0 s.heap) (s2 : St2 0 s.heap) (lt : ∀ c ∈ [z, TI, TO, i1, i2], c < s.heap.objs.size) (lf : ∀ c ∈ fp1 ++ fp2, c < s.heap.objs.size)
    (hQ : ∀ g tk (acc : Array Value), acc.size = min n1 n2 → (∀ j, j < min n1 n2 → ∃ T x y, acc[j]? = some (.ref T) ∧ IsTupOf2 g T x y ∧ P1 j x ∧ P2 j y ∧ s.heap.objs.size < T) → (∀ c o, c ∉ [z, TI, TO, i1, i2] → s.heap.get? c = some o → g.get? c = some o) → s.heap.objs.size < g.objs.size → Q acc.toList { s with heap := g, toks := tk }) : wpAny (model prog w) A (collect (.ref z)) Q E s := by
  have nLz : s.heap.objs.size ≠ z := Nat.ne_of_gt (lt z (by simp))
  have e1 : Builtin.List.listSameRef (.ref s.heap.objs.size) (.ref z) = false := by simp [Builtin.List.listSameRef, nLz]
  have e2 : (Value.type "zip" == Value.type "list") = false := by decide
  have e3 : (Value.type "zip" == Value.type "tuple") = false := by decide
  have hN : (s.heap.push { cls := .type "list", data := .seq ([] : List Value).toArray }).get? s.heap.objs.size = some { cls := .type "list", data := .seq ([] : List Value).toArray } := Heap.get?_push_size _ rfl
  have up : ∀ c o, s.heap.get? c = some o → (s.heap.push { cls := .type "list", data := .seq ([] : List Value).toArray }).get? c = some o := fun c o e => Heap.get?_push_of_some _ e
  have ty : Shared.TypeIs { s with heap := s.heap.push { cls := .type "list", data := .seq ([] : List Value).toArray } } (.ref z) "zip" := ⟨_, up _ _ hz, rfl⟩
  have hN2 := Heap.get?_update_self (Obj.mapSeq (·.push Value.none)) hN rfl
  have hN3 := Heap.get?_update_self (Obj.mapSeq (·.pop)) hN2 rfl
  have oth : ∀ c o, s.heap.get? c = some o → (((s.heap.push { cls := .type "list", data := .seq ([] : List Value).toArray }).update s.heap.objs.size (Obj.mapSeq (·.push Value.none))).update s.heap.objs.size (Obj.mapSeq (·.pop))).get? c = some o := fun c o e =>
    (Heap.get?_update_other _ _ (Nat.ne_of_gt (Heap.lt_size e))).trans ((Heap.get?_update_other _ _ (Nat.ne_of_gt (Heap.lt_size e))).trans (up c o e))
  unfold collect
  refine wpAny_bind (wpAny_runValue (codeAny_builtin F.entry_proto_collect (by
    rw [Around.under_plainId F.plain_proto_collect _]
    refine wpAny_bind (m := newList []) (wpAny_newObj_type (wpAny_pure ⟨plainId_quiet F.plain_list_iadd _, codeAny_builtin F.entry_list_iadd (by
      rw [Around.under_plainId F.plain_list_iadd _]
      show wpAny _ A.in1 (Builtin.List.listExtendWith (.ref s.heap.objs.size) (.ref z) (.ref s.heap.objs.size)) _ _ _
      unfold Builtin.List.listExtendWith
      refine wpAny_bind (wpAny_typeOf ty ?_)
      simp only [e1, e2, e3, Bool.or_false, Bool.false_eq_true, if_false]
      refine wpAny_bind (wpAny_pyIter_zip (up _ _ hz) (wpAny_bind (wpAny_holding ?_)))
      unfold Builtin.List.listLengthHint
      refine wpAny_bind (wpAny_specialOf ty zx_nolen ?_)
      refine wpAny_bind (m := specialOf (Value.ref z) (Str.ofString "__length_hint__")) (wpAny_specialOf ty zx_nohint (wpAny_pure ?_))
      refine wpAny_bind (m := rule "list.extend.makes-room") (wpAny_rule (wpAny_bind (m := Builtin.List.listTouch (.ref s.heap.objs.size)) ?_))
      show wpAny _ A.in1 (updateSeq s.heap.objs.size (·.push .none) >>= fun _ => updateSeq s.heap.objs.size (·.pop)) _ _ _
      refine wpAny_bind (wpAny_updateSeq hN rfl (wpAny_updateSeq hN2 rfl ?_))
      refine wpAny_pure ⟨plainId_quiet F.plain_extend_loop _, zx_loop (L := s.heap.objs.size) S D1 D2 lt (fun q => Nat.lt_irrefl _ (lf _ (List.mem_append_left _ q))) (fun q => Nat.lt_irrefl _ (lf _ (List.mem_append_right _ q))) hn _ _ 0 _ _ _ rfl (Nat.zero_le _) hN3 ⟨oth _ _ hTI, D1.frame _ _ _ s1 fun c _ o e => oth c o e, D2.frame _ _ _ s2 fun c _ o e => oth c o e, rfl, fun j hj => absurd hj (Nat.not_lt_zero _), .inl ⟨rfl, oth _ _ hz, a, b, oth _ _ hTO⟩⟩ fun g tk acc c r1 r2 r3 r4 => ?_⟩
      refine wpAny_bind (m := load s.heap.objs.size) (wpAny_load r1 (wpAny_pure ?_))
      refine hQ g tk acc r2 r3 (fun c o hc e => r4 c o (fun q => ?_) (oth c o e)) (Heap.lt_size r1)
      rcases List.mem_append.mp (show c ∈ [z, TI, TO, i1, i2] ++ [s.heap.objs.size] from q) with q | q
      · exact hc q
      · exact Nat.ne_of_lt (Heap.lt_size e) (List.mem_singleton.mp q))⟩)))))
theorem zx_new {E : Value → Shared → Prop} {s : Shared} {Q : Value → Shared → Prop} {a b : Value} (S : ZipSep2 z TI TO i1 i2 fp1 fp2) (D1 : Draws prog w A.in1.in1.in1 i1 fp1 n1 P1 St1) (D2 : Draws prog w A.in1.in1.in1 i2 fp2 n2 P2 St2) (hn : min n1 n2 ≤ 1000000)
    (hz : IsZip s.heap z TI TO .none) (hTI : IsTupOf2 s.heap TI (.ref i1) (.ref i2)) (hTO : IsTupOf2 s.heap TO a b) (s1 : St1 0 s.heap) (s2 : St2 0 s.heap) (lt : ∀ c ∈ [z, TI, TO, i1, i2], c < s.heap.objs.size) (lf : ∀ c ∈ fp1 ++ fp2, c < s.heap.objs.size)
    (hQ : ∀ g tk (acc : Array Value), acc.size = min n1 n2 → (∀ j, j < min n1 n2 → ∃ T x y, acc[j]? = some (.ref T) ∧ IsTupOf2 g T x y ∧ P1 j x ∧ P2 j y ∧ s.heap.objs.size < T) → (∀ c o, c ∉ [z, TI, TO, i1, i2] → s.heap.get? c = some o → g.get? c = some o) → s.heap.objs.size < g.objs.size → Q (.ref g.objs.size) { s with heap := g.push { cls := .type "tuple", data := .seq acc }, toks := tk }) :
    codeAny (model prog w) A (.call (.builtin "tuple.__new__") ⟨[.type "tuple", .ref z], []⟩) (wants Q E) s := by
  have ty : s.TypeIs (.ref z) "zip" := ⟨_, hz, rfl⟩
  refine codeAny_of_tree (by
    show wpAny _ A.in1 (do checkBuiltinCall "tuple.__new__" ⟨[.type "tuple", .ref z], []⟩; again (.builtin "tuple.__new__" ⟨[.type "tuple", .ref z], []⟩)) _ _ s
    refine wpAny_bind (wpAny_of_eq (F.newCall_tuple_1 _) (wpAny_pure ⟨plainId_quiet F.plain_tuple_new _, codeAny_builtin F.entry_tuple_new (by
      rw [Around.under_plainId F.plain_tuple_new _]
      have k1 := sub_tuple_self
      have k2 := init_tuple_lookup
      have k3 := madeHere_tuple
      wp_walk using wpAny_typeOf ty, zx_collect S D1 D2 hn hz hTI hTO s1 s2 lt lf
      intro g tk acc c1 c2 c3 c4
      refine wpAny_bind (m := Builtin.Tuple.tupleExact acc.toList.toArray) ?_
      unfold Builtin.Tuple.tupleExact
      have ea : acc.toList.toArray = acc := by simp
      refine wpAny_newObj_type (wpAny_pure ?_) (by show acc.toList.toArray.size ≤ sizeLine; rw [ea, c1, sizeLine_eq]; omega)
      rw [ea]
      exact hQ g tk acc c1 c2 c3 c4)⟩)))
theorem zx_tuple {E : Value → Shared → Prop} {s : Shared} {Q : Value → Shared → Prop} {a b : Value} (S : ZipSep2 z TI TO i1 i2 fp1 fp2) (D1 : Draws prog w A.in1.in1.in1.in1 i1 fp1 n1 P1 St1) (D2 : Draws prog w A.in1.in1.in1.in1 i2 fp2 n2 P2 St2) (hn : min n1 n2 ≤ 1000000)
    (hz : IsZip s.heap z TI TO .none) (hTI : IsTupOf2 s.heap TI (.ref i1) (.ref i2)) (hTO : IsTupOf2 s.heap TO a b) (s1 : St1 0 s.heap) (s2 : St2 0 s.heap) (lt : ∀ c ∈ [z, TI, TO, i1, i2], c < s.heap.objs.size) (lf : ∀ c ∈ fp1 ++ fp2, c < s.heap.objs.size)
    (hQ : ∀ g tk (acc : Array Value), acc.size = min n1 n2 → (∀ j, j < min n1 n2 → ∃ T x y, acc[j]? = some (.ref T) ∧ IsTupOf2 g T x y ∧ P1 j x ∧ P2 j y ∧ s.heap.objs.size < T) → (∀ c o, c ∉ [z, TI, TO, i1, i2] → s.heap.get? c = some o → g.get? c = some o) → s.heap.objs.size < g.objs.size → Q (.ref g.objs.size) { s with heap := g.push { cls := .type "tuple", data := .seq acc }, toks := tk }) :
    wpAny (model prog w) A (call (.type "tuple") [.ref z]) Q E s := by
  refine callType_codes (Q₁ := fun obj s' => s'.TypeIs obj "tuple" ∧ Q obj s') F.called_tuple (F.typeCall_tuple_1 _) F.entry_object_init (zx_new (A := A.in1) S D1 D2 hn hz hTI hTO s1 s2 lt lf fun g tk acc c1 c2 c3 c4 => ⟨⟨_, Heap.get?_push_size _ rfl, rfl⟩, hQ g tk acc c1 c2 c3 c4⟩) fun obj s' h' => ?_
  exact ⟨h'.1, F.args_object_init_2 obj _, object_init_meets F.called_tuple.init.lookup F.called_tuple.made (by decide) prog w A.in1 _ s' ⟨h'.1, rfl, h'.2⟩⟩
end
end PySem

namespace OS
open PySem PySem.Spec PyProof.Rows L2 O
/-- tuples already laid are tracked, with their objects -/
theorem takeF {X : Cx} {pins : List (Addr × Obj)} {σ : L2.St} {H0 : Hp} {s : Shared} {h' : Heap} {tk : Nat} {P : Addr → Obj → List V → Prop} (I0 : Inv X pins σ H0 s) : ∀ (L : List Addr) (H1 : Hp), Inv X pins σ H1 { s with heap := h', toks := tk } →
    (∀ a ∈ L, s.heap.objs.size ≤ a ∧ ∃ ob vs, P a ob vs ∧ ∀ H2, ObjOk X.prog X.w H2 h' a (.frz ob (.tup vs))) →
    (∀ a ∈ L, H1 a = none ∨ ∃ ob vs, P a ob vs ∧ H1 a = some (.frz ob (.tup vs))) →
    ∃ H2, Inv X pins σ H2 { s with heap := h', toks := tk } ∧ (∀ b o, H1 b = some o → H2 b = some o) ∧ ∀ a ∈ L, ∃ ob vs, P a ob vs ∧ H2 a = some (.frz ob (.tup vs))
  | [], H1, I1, _, _ => ⟨H1, I1, fun _ _ e => e, fun _ h => nomatch h⟩
  | a :: L, H1, I1, h, hd => by
    rcases hd a (List.mem_cons_self ..) with hn | ⟨ob, vs, hP, he⟩
    · obtain ⟨hb, ob, vs, hP, ok⟩ := h a (List.mem_cons_self ..)
      have I2 : Inv X pins σ (upd H1 a (.frz ob (.tup vs))) { s with heap := h', toks := tk } := I1.take (h' := h') (t' := tk) (fun b ob _ e => e) (I0.fpOk hb hn) (ok _)
      obtain ⟨H2, I3, g, q⟩ := takeF I0 L (upd H1 a (.frz ob (.tup vs))) I2 (fun c hc => h c (List.mem_cons_of_mem _ hc)) fun c hc => by
        by_cases e : c = a
        · subst e
          exact .inr ⟨ob, vs, hP, upd_same⟩
        · rw [upd_ne e]
          exact hd c (List.mem_cons_of_mem _ hc)
      refine ⟨H2, I3, fun b o e => g b o (by rw [upd_ne (ne_of_none e hn)]; exact e), fun c hc => ?_⟩
      rcases List.mem_cons.mp hc with rfl | hc
      · exact ⟨ob, vs, hP, g _ _ upd_same⟩
      · exact q c hc
    · obtain ⟨H2, I3, g, q⟩ := takeF I0 L H1 I1 (fun c hc => h c (List.mem_cons_of_mem _ hc)) (fun c hc => hd c (List.mem_cons_of_mem _ hc))
      refine ⟨H2, I3, g, fun c hc => ?_⟩
      rcases List.mem_cons.mp hc with rfl | hc
      · exact ⟨ob, vs, hP, g _ _ he⟩
      · exact q c hc
def tTupZ (K : PySem.W.Frag) (ta : TA) : TE := fun σ H Q => ta σ H fun vs H1 => ∃ z1 z2 xs ys, vs = [SZ.val z1, SZ.val z2] ∧ z1.src K H1 xs ∧ z2.src K H1 ys ∧ min xs.length ys.length ≤ 1000000 ∧
  ∀ (H2 : Hp) (p : Addr) (o : Obj) (as : List Addr), (∀ b u, H1 b = some u → H2 b = some u) → H1 p = none → H2 p = some (.frz o (.tup (as.map V.ref))) → o.dict = none → as.length = min xs.length ys.length →
    (∀ (j : Nat) (a : Addr), as[j]? = some a → ∃ oo x y, H1 a = none ∧ xs[j]? = some x ∧ ys[j]? = some y ∧ H2 a = some (.frz oo (.tup [x, y])) ∧ oo.dict = none) → Q (.ref p) H2
def addrV : Value → Addr
  | .ref a => a
  | _ => 0
theorem pe_tupZip {X : Cx} {e e2 : Expr} {ta : TA} {p p2 pos pos2 : Pos} (hc : X.calm = true) (hg : Gl X "tuple") (hm : X.mg "tuple" = none) (hgz : Gl X "zip") (hmz : X.mg "zip" = none) (ha : PA X [e, e2] ta)
    (hs : starEach [e, e2] X.env = (false, eval e X.env) :: starEach [e2] X.env) (hpl : (backTo pos2 (starEach [e2] X.env)).any (·.1) = false) :
    PE X (.Call (.Name "tuple" p) [.Call (.Name "zip" p2) [e, e2] [] pos2] [] pos) (tTupZ X.K ta) := by
  refine ⟨fun pins s σ H Q I h => ?_⟩
  refine Call_ (ld_blt I hg hm boot_tuple (PyProof.Rows.callWith_type1 (args_cons (Call_ (ld_blt I hgz hmz PyProof.Rows.boot_zip (PyProof.Rows.callWith_type1 (thn (ha.run pos2 pins s σ H _ I h) fun us s1 ⟨vs, H1, I1, r1, q1⟩ => ?_) hs hpl))) rfl) rfl rfl))
  obtain ⟨x, y, xs, ys, ex, hqx, hqy, hle, q⟩ := q1
  subst ex
  obtain ⟨u1, u2, rfl, ru1, ru2⟩ := vals2 r1
  obtain ⟨k1, o1, Hh1, a0, a1, B1, a2, a3⟩ := SZ.sk I1 hqx ru1
  obtain ⟨k2, o2, Hh2, b0, b1, B2, b2, b3⟩ := SZ.sk I1 hqy ru2
  have noK : ∀ b, s1.heap.objs.size ≤ b → ∀ o, X.K.lookup b = some o → False := fun b hb o z => absurd (Nat.lt_of_lt_of_le (Heap.lt_size (I1.kIn b o z)) hb) (Nat.lt_irrefl _)
  refine zip_begins2 B1 B2 a2 b2 fun h' hz hTI hTO h1 h2 hsz hk => args_nil ?_
  have I2 : Inv X pins σ H1 { s1 with heap := h' } := I1.kept (t' := s1.toks) hk
  have le : ∀ c ∈ [s1.heap.objs.size + 4, s1.heap.objs.size + 2, s1.heap.objs.size + 3, s1.heap.objs.size, s1.heap.objs.size + 1], s1.heap.objs.size ≤ c ∧ c < h'.objs.size := fun c hcm => by
    rw [hsz]
    have e' : c = s1.heap.objs.size + 4 ∨ c = s1.heap.objs.size + 2 ∨ c = s1.heap.objs.size + 3 ∨ c = s1.heap.objs.size ∨ c = s1.heap.objs.size + 1 := by simpa using hcm
    rcases e' with z | z | z | z | z <;> rw [z]
    · exact ⟨Nat.le_add_right _ _, show (s1.heap.objs.size + 4 : Nat) < s1.heap.objs.size + 5 by omega⟩
    · exact ⟨Nat.le_add_right _ _, show (s1.heap.objs.size + 2 : Nat) < s1.heap.objs.size + 5 by omega⟩
    · exact ⟨Nat.le_add_right _ _, show (s1.heap.objs.size + 3 : Nat) < s1.heap.objs.size + 5 by omega⟩
    · exact ⟨Nat.le_refl _, show (s1.heap.objs.size : Nat) < s1.heap.objs.size + 5 by omega⟩
    · exact ⟨Nat.le_add_right _ _, show (s1.heap.objs.size + 1 : Nat) < s1.heap.objs.size + 5 by omega⟩
  have ap : ∀ N : Nat, ZA (N + 4) (N + 2) (N + 3) N (N + 1) := fun N => ⟨show (N + 2 : Nat) ≠ N + 4 by omega, show (N + 3 : Nat) ≠ N + 4 by omega, show (N + 2 : Nat) ≠ N + 3 by omega, show (N + 2 : Nat) ≠ N by omega, show (N + 2 : Nat) ≠ N + 1 by omega,
    show (N + 4 : Nat) ≠ N by omega, show (N + 4 : Nat) ≠ N + 1 by omega, show (N + 3 : Nat) ≠ N by omega, show (N + 3 : Nat) ≠ N + 1 by omega, show (N : Nat) ≠ N + 1 by omega⟩
  have D := ap s1.heap.objs.size
  have fr : ∀ b, s1.heap.objs.size ≤ b → H1 b = none := fun b hb => I1.hok.fresh hb
  have hh : X.A.handled = none := I.ok.hd hc
  obtain ⟨fp1, P1, St1, D1, hm1, hfp1, s1a, s1b, rel1⟩ := SK.drawsA (A0 := X.A.in1.in1.in1.in1) I2 hh a1 s1.heap.objs.size (fr _ (Nat.le_refl _)) (noK _ (Nat.le_refl _))
  obtain ⟨fp2, P2, St2, D2, hm2, hfp2, s2a, s2b, rel2⟩ := SK.drawsA (A0 := X.A.in1.in1.in1.in1) I2 hh b1 (s1.heap.objs.size + 1) (fr _ (Nat.le_succ _)) (noK _ (Nat.le_succ _))
  have nin1 : ∀ b ∈ [s1.heap.objs.size + 4, s1.heap.objs.size + 2, s1.heap.objs.size + 3, s1.heap.objs.size, s1.heap.objs.size + 1], b ≠ s1.heap.objs.size → b ∉ fp1 := fun b hb hne hm => by
    rcases hfp1 b hm with q | ⟨_, q | ⟨o, q⟩⟩
    · exact hne q
    · exact q (fr b (le b hb).1)
    · exact noK b (le b hb).1 o q
  have nin2 : ∀ b ∈ [s1.heap.objs.size + 4, s1.heap.objs.size + 2, s1.heap.objs.size + 3, s1.heap.objs.size, s1.heap.objs.size + 1], b ≠ s1.heap.objs.size + 1 → b ∉ fp2 := fun b hb hne hm => by
    rcases hfp2 b hm with q | ⟨_, q | ⟨o, q⟩⟩
    · exact hne q
    · exact q (fr b (le b hb).1)
    · exact noK b (le b hb).1 o q
  have S : ZipSep2 (s1.heap.objs.size + 4) (s1.heap.objs.size + 2) (s1.heap.objs.size + 3) s1.heap.objs.size (s1.heap.objs.size + 1) fp1 fp2 := ⟨D.TIz, D.TOz, D.TITO, D.TIi1, hm1, nin1 _ (by simp) D.zi1, nin1 _ (by simp) D.Ti1, D.TIi2, hm2, nin2 _ (by simp) D.zi2, nin2 _ (by simp) D.Ti2, nin2 _ (by simp) D.i12, nin1 _ (by simp) (Ne.symm D.i12)⟩
  refine zx_tuple (s := { s1 with heap := h' }) S D1 D2 hle hz hTI hTO (s1a 0 (a3 h' _ h1)) (s2a 0 (b3 h' _ h2)) (fun c hc => (le c hc).2) (fun c hc => ?_) fun g tk acc c1 c2 c3 c4 => ?_
  · rcases List.mem_append.mp hc with z | z
    · rcases hfp1 c z with q | ⟨⟨o, q⟩, _⟩
      · rw [q]; exact (le _ (by simp)).2
      · exact Heap.lt_size q
    · rcases hfp2 c z with q | ⟨⟨o, q⟩, _⟩
      · rw [q]; exact (le _ (by simp)).2
      · exact Heap.lt_size q
  · have kg : ∀ b o, s1.heap.get? b = some o → (g.push { cls := .type "tuple", data := .seq acc }).get? b = some o := fun b o e => Heap.get?_push_of_some _ (c3 b o (fun z => absurd (Nat.lt_of_lt_of_le (Heap.lt_size e) (le b z).1) (Nat.lt_irrefl _)) (hk b o e))
    have up : ∀ b o, g.get? b = some o → (g.push { cls := .type "tuple", data := .seq acc }).get? b = some o := fun b o e => Heap.get?_push_of_some _ e
    have here : (g.push { cls := .type "tuple", data := .seq acc }).get? g.objs.size = some { cls := .type "tuple", data := .seq acc } := Heap.get?_push_size _ rfl
    have I3 : Inv X pins σ H1 { s1 with heap := g.push { cls := .type "tuple", data := .seq acc }, toks := tk } := I1.kept (t' := tk) kg
    have hN : s1.heap.objs.size ≤ h'.objs.size := by rw [hsz]; exact Nat.le_add_right _ _
    have hgs : s1.heap.objs.size ≤ g.objs.size := Nat.le_trans hN (Nat.le_of_lt c4)
    have ea : acc.toList = (acc.toList.map addrV).map Value.ref := by
      refine List.ext_getElem? fun j => ?_
      rw [List.getElem?_map, List.getElem?_map]
      by_cases hj : j < min xs.length ys.length
      · obtain ⟨T, x', y', q1, _⟩ := c2 j hj
        have q1' : acc.toList[j]? = some (.ref T) := by simpa using q1
        rw [q1']
        rfl
      · have : acc.toList[j]? = none := List.getElem?_eq_none (by rw [Array.length_toList, c1]; omega)
        rw [this]
        rfl
    generalize has : acc.toList.map addrV = as at ea
    have las : as.length = min xs.length ys.length := by rw [← has, List.length_map, Array.length_toList, c1]
    have pr : ∀ j a, as[j]? = some a → ∃ x y u v, xs[j]? = some x ∧ ys[j]? = some y ∧ RelV x u ∧ RelV y v ∧ g.get? a = some { cls := .type "tuple", data := .seq #[u, v] } ∧ h'.objs.size < a := fun j a hj => by
      have hjl : j < min xs.length ys.length := by rw [← las]; exact (List.getElem?_eq_some_iff.mp hj).1
      obtain ⟨T, u, v, q1, q2, q3, q4, q5⟩ := c2 j hjl
      have q1' : acc.toList[j]? = some (.ref T) := by simpa using q1
      rw [ea, List.getElem?_map, hj] at q1'
      cases q1'
      have l1 : j < xs.length := by omega
      have l2 : j < ys.length := by omega
      exact ⟨_, _, u, v, List.getElem?_eq_getElem l1, List.getElem?_eq_getElem l2, rel1 j _ u (List.getElem?_eq_getElem l1) q3, rel2 j _ v (List.getElem?_eq_getElem l2) q4, q2, q5⟩
    have I4 : Inv X pins σ (upd H1 g.objs.size (.frz { cls := .type "tuple", data := .seq acc } (.tup (as.map V.ref)))) { s1 with heap := g.push { cls := .type "tuple", data := .seq acc }, toks := tk } :=
      I3.take (h' := g.push { cls := .type "tuple", data := .seq acc }) (t' := tk) (fun b ob _ e => e) (I1.fpOk hgs (fr _ hgs)) ⟨here, by rw [List.length_map, las, sizeLine_eq]; omega, as.map Value.ref, vals_refs as, ⟨_, here, rfl, 0, by rw [← ea]⟩⟩
    obtain ⟨H2, I5, gr, qt⟩ := takeF (P := fun a ob vs => ob.dict = none ∧ ∃ u v, g.get? a = some { cls := .type "tuple", data := .seq #[u, v] } ∧ Vals vs [u, v]) I1 as _ I4 (fun a ham => by
      obtain ⟨j, hj⟩ := List.mem_iff_getElem?.mp ham
      obtain ⟨x', y', u, v, g1, g2, g3, g4, g5, g6⟩ := pr j a hj
      exact ⟨Nat.le_trans hN (Nat.le_of_lt g6), { cls := .type "tuple", data := .seq #[u, v] }, [x', y'], ⟨rfl, u, v, g5, .cons g3 (.cons g4 .nil)⟩, fun H2 => ⟨up _ _ g5, by show 2 ≤ sizeLine; rw [sizeLine_eq]; omega, [u, v], .cons g3 (.cons g4 .nil), ⟨_, up _ _ g5, rfl, 0, rfl⟩⟩⟩) (fun a ham => by
      obtain ⟨j, hj⟩ := List.mem_iff_getElem?.mp ham
      obtain ⟨x', y', u, v, g1, g2, g3, g4, g5, g6⟩ := pr j a hj
      refine .inl ?_
      rw [upd_ne (Nat.ne_of_lt (Heap.lt_size g5))]
      exact fr a (Nat.le_trans hN (Nat.le_of_lt g6)))
    refine ⟨.ref g.objs.size, H2, I5, rfl, q H2 g.objs.size _ as (fun b o e => gr b o (by rw [upd_ne (ne_of_none e (fr _ hgs))]; exact e)) (fr _ hgs) (gr _ _ upd_same) rfl las fun j a hj => ?_⟩
    obtain ⟨x', y', u, v, g1, g2, g3, g4, g5, g6⟩ := pr j a hj
    obtain ⟨ob, vs, ⟨hd, u', v', w1, w2⟩, w3⟩ := qt a (List.mem_of_getElem? hj)
    rw [g5] at w1
    cases w1
    have ev : vs = [x', y'] := Vals.inj w2 (.cons g3 (.cons g4 .nil))
    subst ev
    exact ⟨ob, x', y', fr a (Nat.le_trans hN (Nat.le_of_lt g6)), g1, g2, w3, hd⟩
end OS

end

section
set_option Elab.async false
set_option linter.all false
set_option maxRecDepth 100000
set_option maxHeartbeats 1000000
/-! t[::-1] -/
namespace HT
open PySem PySem.Spec PyProof.Rows
section
variable {prog : Program} {w : World} {A : Around} {E : Value → Shared → Prop} {s : Shared}
theorem adjust_rev (n : Nat) : Builtin.Slice.sliceAdjust none none (-1) (n : Int) = ((n : Int) - 1, -1) := by
  unfold Builtin.Slice.sliceAdjust
  simp
theorem places_rev (n : Nat) : Builtin.Slice.slicePlaces ((n : Int) - 1) (-1) (-1) = n := by
  unfold Builtin.Slice.slicePlaces
  simp
  split <;> omega
theorem pick_rev (xs : Array Value) : ((List.range xs.size).filterMap fun (m : Nat) => xs[(((xs.size : Int) - 1) + (m : Int) * (-1)).toNat]?).toArray = xs.toList.reverse.toArray := by
  have e : (List.range xs.size).filterMap (fun (m : Nat) => xs[(((xs.size : Int) - 1) + (m : Int) * (-1)).toNat]?) = ((List.range xs.size).map fun k => xs.size - 1 - k).filterMap (xs[·]?) := by
    rw [List.filterMap_map]
    have : (fun (m : Nat) => xs[(((xs.size : Int) - 1) + (m : Int) * (-1)).toNat]?) = ((fun x => xs[x]?) ∘ fun k => xs.size - 1 - k) := by
      funext m
      have : (((xs.size : Int) - 1) + (m : Int) * (-1)).toNat = xs.size - 1 - m := by omega
      simp only [this, Function.comp]
    rw [this]
  rw [e, PySem.W.krv_range, List.filterMap_reverse, PySem.W.krv_all]
theorem sliceApplied_rev {sl : Addr} {vl vu vk : Value} {n : Nat} {Q : Int × Int × Nat → Shared → Prop} (hs : s.heap.IsSliceOf sl vl vu vk) (pl : IsPart vl none) (pu : IsPart vu none) (pk : IsPart vk (some (-1)))
    (h : Q ((n : Int) - 1, -1, n) s) : wpAny (model prog w) A (Builtin.Slice.sliceApplied (.ref sl) (pure (n : Int))) Q E s := by
  obtain ⟨os, hos, hcs, hds⟩ := id hs
  unfold Builtin.Slice.sliceApplied Builtin.Slice.sliceFields
  refine wpAny_bind (wpAny_bind (wpAny_field hos hds (x := vl) rfl (wpAny_bind (wpAny_field hos hds (x := vu) rfl (wpAny_bind (wpAny_field hos hds (x := vk) rfl (wpAny_pure ?_)))))))
  refine wpAny_bind (slicePart_ pk ?_)
  show wpAny _ _ (if ((-1 : Int) == 0) = true then _ else _) _ _ s
  rw [if_neg (by decide)]
  refine wpAny_bind (slicePart_ pl (wpAny_bind (slicePart_ pu (wpAny_bind (wpAny_pure ?_)))))
  show wpAny _ _ (match Builtin.Slice.sliceAdjust none none (-1) (n : Int) with | (lo, hi) => pure (lo, (-1 : Int), Builtin.Slice.slicePlaces lo hi (-1))) _ _ s
  rw [adjust_rev n]
  show wpAny _ _ (pure ((n : Int) - 1, (-1 : Int), Builtin.Slice.slicePlaces ((n : Int) - 1) (-1) (-1))) _ _ s
  rw [places_rev]
  exact wpAny_pure h
theorem getItem_tuple_rev {t sl : Addr} {items : Array Value} {vl vu vk : Value} {Q : Value → Shared → Prop} (ht : IsTup s.heap t items) (hs : s.heap.IsSliceOf sl vl vu vk) (pl : IsPart vl none) (pu : IsPart vu none) (pk : IsPart vk (some (-1)))
    (h : Q (.ref s.heap.objs.size) { s with heap := s.heap.push { cls := .type "tuple", data := .seq items.toList.reverse.toArray } })
    (hsz : items.size ≤ sizeLine) : wpAny (model prog w) A (getItem (.ref t) (.ref sl)) Q E s := by
  have htake : sizeOk (.seq items.toList.reverse.toArray) := by
    show items.toList.reverse.toArray.size ≤ sizeLine
    rw [List.size_toArray, List.length_reverse, Array.length_toList]
    omega
  obtain ⟨os, hos, hcs, hds⟩ := id hs
  have hTs : s.TypeIs (.ref sl) "slice" := ⟨os, hos, hcs⟩
  unfold getItem
  try with_reducible refine wpAny_holding ?_
  first | refine wpAny_bind (wpAny_pure ?_) | skip
  refine wpAny_bind (wpAny_sequenceKey ht.typeIs (by decide) ?_)
  refine wpAny_bind (wpAny_callSpecial?_slot (name := Str.ofString "__getitem__") ht.typeIs PyProof.Rows.slot_tuple_getitem
    (wpAny_call_entry PyProof.Rows.slot_tuple_getitem ht.typeIs entry_tuple_getitem ?_ (args_tuple_getitem _ _)))
  show wpAny _ _ (Builtin.Tuple.tupleItemsOf (.ref t) >>= _) _ _ s
  refine wpAny_bind (tupleItemsOf_ ht ?_)
  refine wpAny_bind (wpAny_typeOf hTs ?_)
  rw [if_pos (by decide)]
  refine wpAny_bind (sliceApplied_rev hs pl pu pk ?_)
  have hno : ¬ (((items.size : Int) - 1 == 0 && (-1 : Int) == 1 && items.size == items.size) = true) := by
    intro q
    rw [Bool.and_eq_true, Bool.and_eq_true] at q
    exact absurd q.1.2 (by decide)
  show wpAny _ _ (if ((items.size : Int) - 1 == 0 && (-1 : Int) == 1 && items.size == items.size) = true then _ else _) _ _ s
  rw [if_neg hno, pick_rev]
  first
    | exact wpAny_bind (m := Builtin.Tuple.tupleExact _) (wpAny_newObj_type (wpAny_pure ⟨_, rfl, wpAny_pure h⟩) htake)
    | exact wpAny_bind (m := Builtin.Tuple.tupleExact _) (wpAny_newObj_type (wpAny_bind (wpAny_pure (wpAny_pure ⟨_, rfl, wpAny_pure h⟩))) htake)
    | exact wpAny_bind (wpAny_bind (m := Builtin.Tuple.tupleExact _) (wpAny_newObj_type (wpAny_pure (wpAny_pure ⟨_, rfl, wpAny_pure h⟩)) htake))
    | exact wpAny_bind (wpAny_bind (m := Builtin.Tuple.tupleExact _) (wpAny_newObj_type (wpAny_pure ⟨_, rfl, wpAny_pure h⟩) htake))
end
end HT
namespace OS
open PySem PySem.Spec PyProof.Rows L2 O
section
variable {X : Cx} {Z : Zx}
def tRevT (K : PySem.W.Frag) (te : TE) : TE := fun σ H Q => te σ H fun x H1 => (∃ a xs, x = .ref a ∧ SqL K H1 a xs ∧ ∀ p, H1 p = none → Q (.ref p) (upd H1 p (.lst xs.reverse))) ∨ ∃ a xs, x = .ref a ∧ SqT K H1 a xs ∧ NewT Q H1 xs.reverse
theorem pe_rev {e : Expr} {te : TE} {k : Nat} {p1 p2 p3 pos : Pos} (he : PE X e te) : PE X (.Subscript e (.Slice none none (some (.UnaryOp .USub (.Constant (.int 1) k p1) p2)) p3) pos) (tRevT X.K te) := by
  refine ⟨fun pins s σ H Q I h => ?_⟩
  refine Subscript_ (thn (he.run pins s σ H _ I h) fun v s1 ⟨x, H1, I1, r1, q1⟩ => ?_)
  have hst : PO X (some (.UnaryOp .USub (.Constant (.int 1) k p1) p2)) (tPart (tUn (rU fun i => .int (-i)) (tC (.int 1)))) := po_some (pe_un un_neg pe_int)
  refine wpAny_Slice (thn (po_none.run pins s1 σ H1 (fun o H2 => o = none ∧ H2 = H1) I1 ⟨rfl, rfl⟩) fun vl s2 ⟨l, H2, I2, pl, el, e2⟩ => ?_)
  subst el e2
  refine thn (po_none.run pins s2 σ H2 (fun o H3 => o = none ∧ H3 = H2) I2 ⟨rfl, rfl⟩) fun vu s3 ⟨u, H3, I3, pu, eu, e3⟩ => ?_
  subst eu e3
  refine thn (hst.run pins s3 σ H3 (fun o H4 => o = some (-1) ∧ H4 = H3) I3 ⟨1, rfl, -1, rfl, rfl, rfl⟩) fun vs s4 ⟨o, H4, I4, ps, eo, e4⟩ => ?_
  subst eo e4
  have I5 : Inv X pins σ H4 { s4 with heap := s4.heap.push { cls := .type "slice", data := .fields #[vl, vu, vs] } } := I4.kept (t' := s4.toks) fun b ob q => Heap.get?_push_of_some _ q
  rcases q1 with ⟨a, xs, ex, hx, q⟩ | ⟨a, xs, ex, hx, q⟩
  · subst ex
    cases r1
    obtain ⟨its, r, ht, hz⟩ := I5.list hx
    have hlen := r.length
    show wpAny (model X.prog X.w) X.A (subscriptTail e (.Slice none none (some (.UnaryOp .USub (.Constant (.int 1) k p1) p2)) p3) (.ref a) (.ref s4.heap.objs.size)) (EP X pins σ Q) X.xe { s4 with heap := s4.heap.push { cls := .type "slice", data := .fields #[vl, vu, vs] } }
    refine tail_any (ops := [.ref a, .ref s4.heap.objs.size]) ht.isList.typeIs (PySem.slot_list_getitem.lookup) ?_ (by with_unfolding_all rfl)
    refine wpAny_getItem_list_slice ht.isList (Heap.IsSliceOf.new _ vl vu vs) pl pu ps (by decide) ?_ (by rw [List.size_toArray]; omega)
    rw [PySem.W.krv_pick]
    refine ⟨.ref _, _, I5.laid (t' := s4.toks) (o := .lst xs.reverse) (fun b ob q => Heap.get?_push_of_some _ q) (Nat.le_refl _) ?_, rfl, q _ (I5.hok.fresh (Nat.le_refl _))⟩
    exact ⟨by rw [List.length_reverse]; exact hz, _, 0, r.reverse, Heap.get?_push_size _ rfl⟩
  · subst ex
    cases r1
    obtain ⟨its, r, ht, hz⟩ := I5.tuple hx
    have hlen := r.length
    show wpAny (model X.prog X.w) X.A (subscriptTail e (.Slice none none (some (.UnaryOp .USub (.Constant (.int 1) k p1) p2)) p3) (.ref a) (.ref s4.heap.objs.size)) (EP X pins σ Q) X.xe { s4 with heap := s4.heap.push { cls := .type "slice", data := .fields #[vl, vu, vs] } }
    refine tail_any (ops := [.ref a, .ref s4.heap.objs.size]) ht.typeIs PyProof.Rows.slot_tuple_getitem.lookup ?_ (by with_unfolding_all rfl)
    refine HT.getItem_tuple_rev ht (Heap.IsSliceOf.new _ vl vu vs) pl pu ps ?_ (by rw [List.size_toArray]; omega)
    exact ep_tup I5 r.reverse (by rw [List.length_reverse]; exact hz) q
end
end OS

end

section
set_option Elab.async false
set_option linter.all false
set_option maxRecDepth 100000
set_option maxHeartbeats 1000000
/-! closures: what is hidden from a call, and laid open to it -/
namespace OS
open PySem PySem.Spec PyProof.Rows L2 O
/-- what may be hidden: lists, dicts, cells -/
def Hid (H : Hp) (M : List Addr) : Prop := ∀ a ∈ M, (∃ xs, H a = some (.lst xs)) ∨ (∃ kvs, H a = some (.dK kvs)) ∨ ∃ o, H a = some (ObE a o) ∧ ∀ q, ObE a o ≠ LamX.CodeO a q
section
variable {X : Cx} {pins : List (Addr × Obj)} {σ : L2.St} {H H' : Hp} {s s' : Shared} {M C : List Addr} {T : List (Addr × Str)}
theorem Hid.of (o : Own H M) : Hid H M := fun a ha => (o a ha).imp id .inl
theorem Hid.app (a : Hid H M) (b : Hid H C) : Hid H (M ++ C) := fun x hx => (List.mem_append.mp hx).elim (a x) (b x)
theorem Hid.get_ (h : Hid H M) {a : Addr} (ha : a ∈ M) : ∃ o, H a = some o := by
  rcases h a ha with ⟨_, z⟩ | ⟨_, z⟩ | ⟨_, z, _⟩ <;> exact ⟨_, z⟩
theorem Hid.not (h : Hid H M) {b : Addr} {u : HO} (q : H b = some u) (n1 : ∀ xs, u ≠ .lst xs) (n2 : ∀ xs, u ≠ .dK xs) (n3 : ∀ φ, u ≠ .ext φ) : b ∉ M := fun hm => by
  rcases h b hm with ⟨xs, z⟩ | ⟨xs, z⟩ | ⟨o, z, _⟩
  · rw [q] at z; exact n1 xs (Option.some.inj z)
  · rw [q] at z; exact n2 xs (Option.some.inj z)
  · rw [q] at z; exact n3 _ (Option.some.inj z)
theorem Hid.notC (h : Hid H M) {b : Addr} {q : Str} (e : H b = some (LamX.CodeO b q)) : b ∉ M := fun hm => by
  rcases h b hm with ⟨xs, z⟩ | ⟨xs, z⟩ | ⟨o, z, n⟩
  · rw [e] at z; cases z
  · rw [e] at z; cases z
  · rw [e] at z; exact n q (Option.some.inj z).symm
theorem hid_keep (h : Hid H M) {b : Addr} {u : HO} (q : H b = some u) (n1 : ∀ xs, u ≠ .lst xs) (n2 : ∀ xs, u ≠ .dK xs) (n3 : ∀ φ, u ≠ .ext φ) : Hm H M b = some u := Hm.of q (h.not q n1 n2 n3)
theorem hid_tabs (h : Hid H M) : LamX.Tabs T (Hm H M) ↔ LamX.Tabs T H := by
  constructor
  · intro t p hp
    obtain ⟨ps, h1, h2, h3⟩ := t p hp
    refine ⟨ps, (Hm.in h1).1, h2, fun pos cv hc => ?_⟩
    obtain ⟨c, e1, e2⟩ := h3 pos cv hc
    exact ⟨c, e1, (Hm.in e2).1⟩
  · intro t p hp
    obtain ⟨ps, h1, h2, h3⟩ := t p hp
    refine ⟨ps, hid_keep h h1 (fun _ z => by cases z) (fun _ z => by cases z) (fun _ z => by cases z), h2, fun pos cv hc => ?_⟩
    obtain ⟨c, e1, e2⟩ := h3 pos cv hc
    exact ⟨c, e1, Hm.of e2 (h.notC e2)⟩
theorem hid_hok {P : Program} {w : World} {h : Heap} (hd : Hid H M) (k : HOk P w H h) : HOk P w (Hm H M) h := fun a o e =>
  (k a o (Hm.in e).1).stay (fun b u _ q => q) (fun b q => hid_keep hd q (fun _ z => by cases z) (fun _ z => by cases z) (fun _ z => by cases z)) fun b xs q => hid_keep hd q (fun _ z => by cases z) (fun _ z => by cases z) (fun _ z => by cases z)
theorem inv_hid (I : Inv X pins σ H s) (hd : Hid H M) : Inv X pins σ (Hm H M) s :=
  have kp : ∀ {b : Addr} {u : HO}, H b = some u → (∀ xs, u ≠ .lst xs) → (∀ xs, u ≠ .dK xs) → (∀ φ, u ≠ .ext φ) → Hm H M b = some u := fun q a b c => hid_keep hd q a b c
  ⟨I.ok, I.os, I.bare, ⟨I.base.keep, I.base.slot, fun b o e n hx => hm_none (I.base.free b o e n hx), I.base.there, fun b xs e => kp (I.base.tups b xs e) (fun _ z => by cases z) (fun _ z => by cases z) (fun _ z => by cases z), fun b o u e => kp (I.base.frzs b o u e) (fun _ z => by cases z) (fun _ z => by cases z) (fun _ z => by cases z),
    fun b ps e => by obtain ⟨m, z⟩ := I.base.tbls b ps e; exact ⟨m, kp z (fun _ z => by cases z) (fun _ z => by cases z) (fun _ z => by cases z)⟩⟩,
    I.loc, I.cell, hm_none I.free, fun x c e => hm_none (I.freeC x c e), fun p hp => by obtain ⟨a, b, c⟩ := I.pin p hp; exact ⟨a, hm_none b, c⟩, hid_hok hd I.hok, I.len⟩
/-- what was hidden, back -/
theorem hid_back {Q : VK} {u : Value} (I : Inv X pins σ H s) (hd : Hid H M) (h : CE X.stack X.prog X.w (Hm H M) s Q u s') :
    EP X pins σ (fun v H2 => ∃ H', H2 = Hback H M H' ∧ (∀ a ∈ M, H' a = none) ∧ Q v H') u s' := by
  obtain ⟨v, H', os, bare, un, hok, r, q⟩ := h
  have nM : ∀ a ∈ M, H' a = none := fun a ha => by
    obtain ⟨o, e⟩ := hd.get_ ha
    obtain ⟨ob, e2⟩ := objOk_get (I.hok a o e)
    exact un.free a ob e2 (by unfold Hm; rw [if_pos ha]) (by simp)
  have nS : ∀ a ∈ M, a ∉ frs X.stack := fun a ha hs => by
    obtain ⟨o, e⟩ := hd.get_ ha
    rw [I.stkFree a hs] at e; cases e
  have at_ : ∀ {b : Addr} {u : HO}, Hm H M b = some u → ∀ {y : Option HO}, H' b = y → Hback H M H' b = y := fun {b u} z {y} e => by
    unfold Hback; rw [if_neg (Hm.in z).2]; exact e
  have un2 : Un (frs X.stack) [] H (Hback H M H') s.heap s'.heap := by
    refine ⟨fun b o e n hb hx => un.keep b o e (hm_none n) hb hx, fun b o e n hb hx => un.slot b o e (hm_none n) hb hx, fun b o e n hx => ?_, un.there, fun b xs e => ?_, fun b o u e => ?_, fun b ps e => ?_⟩
    · unfold Hback
      split
      · exact n
      · exact un.free b o e (hm_none n) hx
    · have z := hid_keep hd e (fun _ z => by cases z) (fun _ z => by cases z) (fun _ z => by cases z)
      exact at_ z (un.tups b xs z)
    · have z := hid_keep hd e (fun _ z => by cases z) (fun _ z => by cases z) (fun _ z => by cases z)
      exact at_ z (un.frzs b o u z)
    · have z := hid_keep hd e (fun _ z => by cases z) (fun _ z => by cases z) (fun _ z => by cases z)
      obtain ⟨m, y⟩ := un.tbls b ps z
      exact ⟨m, at_ z y⟩
  have hok2 : HOk X.prog X.w (Hback H M H') s'.heap := fun a o e => by
    by_cases ha : a ∈ M
    · have e1 : H a = some o := by unfold Hback at e; rw [if_pos ha] at e; exact e
      have ok := I.hok a o e1
      have kp : ∀ u, s.heap.get? a = some u → s'.heap.get? a = some u := fun u z => un.keep a u z (by unfold Hm; rw [if_pos ha]) (nS a ha) (by simp)
      rcases hd a ha with ⟨xs, z⟩ | ⟨xs, z⟩ | ⟨ob, z, _⟩ <;> (rw [e1] at z; cases Option.some.inj z)
      · obtain ⟨z, its, n, rv, e⟩ := ok
        exact ⟨z, its, n, rv, kp _ e⟩
      · obtain ⟨z, y, vs, rv, ob, es, ep, e, c⟩ := ok
        exact ⟨z, y, vs, rv, ob, es, ep, kp _ e, c⟩
      · obtain ⟨z, _, y⟩ := ok
        exact ⟨kp _ z, ⟨_, kp _ z⟩, y⟩
    · have e1 : H' a = some o := by unfold Hback at e; rw [if_neg ha] at e; exact e
      have up : ∀ b u, H' b = some u → Hback H M H' b = some u := fun b u z => by
        unfold Hback
        split
        · rename_i hb
          rw [nM b hb] at z
          cases z
        · exact z
      exact (hok a o e1).stay (fun b u _ q => q) (fun b q => up b _ q) fun b xs q => up b _ q
  obtain ⟨hh, g, d, t, os'⟩ := s'
  obtain rfl : os' = s.os := os
  exact ⟨v, _, I.call (h' := hh) (g' := g) (d' := d) (t' := t) (ch := []) un2 hok2 bare (fun b z => absurd z (by simp)), r, H', rfl, nM, q⟩
theorem hid_Hback (hd : Hid H M) (nM : ∀ a ∈ M, H' a = none) : Hid (Hback H M H') M := fun a ha => by
  unfold Hback
  rw [if_pos ha]
  exact hd a ha
theorem hid_ext (hd : Hid H M) (nM : ∀ a ∈ M, H' a = none) (e : Ext T (Hm H M) H') : Ext T H (Hback H M H') := by
  refine ⟨fun b o h n => ?_, fun t => ?_⟩
  · unfold Hback
    split
    · exact h
    · rename_i hb
      exact e.keep b o (Hm.of h hb) n
  · have z := e.tabs ((hid_tabs hd).mpr t)
    rw [← hback_hm (H := H) nM] at z
    exact (hid_tabs (hid_Hback hd nM)).mp z
/-- .. of which some is hidden still -/
theorem hid_sub (hd : Hid H (M ++ C)) (nM : ∀ a ∈ M ++ C, H' a = none) : Ext T H' (Hm (Hback H (M ++ C) H') M) := by
  have hd2 : Hid (Hback H (M ++ C) H') M := fun a ha => (hid_Hback hd nM) a (List.mem_append_left _ ha)
  refine ⟨fun b o h n => ?_, fun t => ?_⟩
  · have hb : b ∉ M ++ C := fun z => by rw [nM b z] at h; cases h
    refine Hm.of ?_ fun z => hb (List.mem_append_left _ z)
    unfold Hback
    rw [if_neg hb]
    exact h
  · refine (hid_tabs hd2).mpr ?_
    rw [← hback_hm (H := H) nM] at t
    exact (hid_tabs (hid_Hback hd nM)).mp t
/-- an exception's heap, cells laid open again -/
theorem cx_back {P : Program} {w : World} {outer : List Env} {E : XK} {u : Value} (hok : HOk P w H s.heap) (hfr : ∀ b ∈ frs outer, H b = none) (hd : Hid H (M ++ C)) (hMC : ∀ c ∈ C, c ∉ M)
    (h : L2N.CX P w outer (Hm H (M ++ C)) s (fun cls d H' => (∀ a ∈ C, H' a = none) → E cls d (Hback H C H')) u s') : L2N.CX P w outer (Hm H M) s E u s' := by
  obtain ⟨a, B, H', cls, d, e1, fl, hB, ub, na, os, ag, hE⟩ := h
  have hdC : Hid H C := fun c hc => hd c (List.mem_append_right _ hc)
  have hob : ∀ c ∈ C, ∃ ob, s.heap.get? c = some ob := fun c hc => by
    obtain ⟨o, e⟩ := hdC.get_ hc
    exact objOk_get (hok c o e)
  have nfr : ∀ c ∈ C, c ∉ frs outer := fun c hc z => by
    obtain ⟨o, e⟩ := hdC.get_ hc
    rw [hfr c z] at e; cases e
  have hin : ∀ c ∈ C, Hm H (M ++ C) c = none := fun c hc => by unfold Hm; rw [if_pos (List.mem_append_right _ hc)]
  have nC : ∀ c ∈ C, H' c = none := fun c hc => by
    obtain ⟨ob, e⟩ := hob c hc
    exact ub.free c ob e (hin c hc)
  have kB : ∀ c ∈ C, ∀ ob, s.heap.get? c = some ob → B.get? c = some ob := fun c hc ob e => ub.keep c ob e (hin c hc) (nfr c hc)
  have up : ∀ {b : Addr} {y : HO}, H' b = some y → Hback H C H' b = some y := fun {b y} z => by
    unfold Hback
    split
    · rename_i hb
      rw [nC b hb] at z; cases z
    · exact z
  have dn : ∀ {b : Addr} {y : HO}, Hm H M b = some y → b ∉ C → Hm H (M ++ C) b = some y := fun {b y} z hb => Hm.of (Hm.in z).1 fun m => (List.mem_append.mp m).elim (Hm.in z).2 hb
  refine ⟨a, B, Hback H C H', cls, d, e1, fl, fun b y z => ?_, ⟨fun b o e n hb => ?_, ub.slot, fun b o e n => ?_, ub.there, fun b xs e => ?_, fun b o xs e => ?_, fun b ps e => ?_⟩, ?_, os, ag, hE nC⟩
  · by_cases hb : b ∈ C
    · have z1 : H b = some y := by unfold Hback at z; rw [if_pos hb] at z; exact z
      have ok := hok b y z1
      rcases hdC b hb with ⟨xs, q⟩ | ⟨xs, q⟩ | ⟨ob, q, _⟩ <;> (rw [z1] at q; cases Option.some.inj q)
      · obtain ⟨z, its, n, rv, e⟩ := ok
        exact ⟨z, its, n, rv, kB b hb _ e⟩
      · obtain ⟨z, y, vs, rv, ob, es, ep, e, c⟩ := ok
        exact ⟨z, y, vs, rv, ob, es, ep, kB b hb _ e, c⟩
      · obtain ⟨z, _, y⟩ := ok
        exact ⟨kB b hb _ z, ⟨_, kB b hb _ z⟩, y⟩
    · have z1 : H' b = some y := by unfold Hback at z; rw [if_neg hb] at z; exact z
      exact (hB b y z1).stay (fun b u _ q => q) (fun b q => up q) fun b xs q => up q
  · refine ub.keep b o e ?_ hb
    by_cases hc : b ∈ C
    · exact hin b hc
    · unfold Hm at n ⊢
      split
      · rfl
      · rename_i q
        rw [if_neg fun z => q (List.mem_append_left _ z)] at n
        exact n
  · by_cases hc : b ∈ C
    · obtain ⟨y, q⟩ := hdC.get_ hc
      rw [Hm.of q (hMC b hc)] at n; cases n
    · unfold Hback
      rw [if_neg hc]
      refine ub.free b o e ?_
      unfold Hm at n ⊢
      split
      · rfl
      · rename_i q
        rw [if_neg fun z => q (List.mem_append_left _ z)] at n
        exact n
  · exact up (ub.tups b xs (dn e (hdC.not (u := .tup xs) (Hm.in e).1 (fun _ z => by cases z) (fun _ z => by cases z) (fun _ z => by cases z))))
  · exact up (ub.frzs b o xs (dn e (hdC.not (u := .frz o xs) (Hm.in e).1 (fun _ z => by cases z) (fun _ z => by cases z) (fun _ z => by cases z))))
  · obtain ⟨m, q⟩ := ub.tbls b ps (dn e (hdC.not (u := .tbl ps) (Hm.in e).1 (fun _ z => by cases z) (fun _ z => by cases z) (fun _ z => by cases z)))
    exact ⟨m, up q⟩
  · have : a ∉ C := fun hc => by
      obtain ⟨ob, e⟩ := hob a hc
      have := fl.2.1
      rw [kB a hc ob e] at this; cases this
    unfold Hback
    rw [if_neg this]
    exact na
end
mutual
/-- data hangs on lists and tuples alone -/
theorem Rep.less {Z : Zx} {K : PySem.W.Frag} {H H' : Hp} (k : ∀ a u, H a = some u → (∀ φ, u ≠ .ext φ) → H' a = some u) : ∀ {p : PV} {v : V}, p.clean = true → Rep Z K H p v → Rep Z K H' p v
  | .non, _, _, h => h
  | .bl _, _, _, h => h
  | .int _, _, _, h => h
  | .str _, _, _, h => h
  | .tup ps, _, c, ⟨a, vs, h1, h2, h3⟩ => ⟨a, vs, h1, by
      have rd : Rd H a (.tup vs) → Rd H' a (.tup vs) := fun r => by
        rcases r with r | ⟨o, r⟩
        · exact .inl (k _ _ r fun _ z => by cases z)
        · exact .inr ⟨o, k _ _ r fun _ z => by cases z⟩
      exact ⟨h2.1.imp rd id, fun z => (h2.2 z).imp (fun ⟨o, u, e, d⟩ => ⟨o, u, k _ _ e (fun _ z => by cases z), d⟩) id⟩, RepL.less k c h3⟩
  | .lst ps, _, c, ⟨a, vs, h1, h2, h3⟩ => ⟨a, vs, h1, k _ _ h2 (fun _ z => by cases z), RepL.less k c h3⟩
  | .fn _, _, _, h => h
  | .obj _, _, _, h => h
  | .exc _, _, c, h => by cases c
  | .scr _, _, _, ⟨a, h1, h2⟩ => ⟨a, h1, h2.imp (fun r => by
      rcases r with r | ⟨o, r⟩
      · exact .inl (k _ _ r fun _ z => by cases z)
      · exact .inr ⟨o, k _ _ r fun _ z => by cases z⟩) id⟩
  | .clo _ _, _, c, h => by cases c
  | .lam _ _, _, c, h => by cases c
theorem RepL.less {Z : Zx} {K : PySem.W.Frag} {H H' : Hp} (k : ∀ a u, H a = some u → (∀ φ, u ≠ .ext φ) → H' a = some u) : ∀ {ps : List PV} {vs : List V}, PV.cleanL ps = true → RepL Z K H ps vs → RepL Z K H' ps vs
  | [], _, _, h => h
  | _ :: _, _, c, ⟨v, r, h1, h2, h3⟩ => ⟨v, r, h1, Rep.less k (Bool.and_eq_true _ _ ▸ c : _ ∧ _).1 h2, RepL.less k (Bool.and_eq_true _ _ ▸ c : _ ∧ _).2 h3⟩
end
end OS

end

section
set_option Elab.async false
set_option linter.all false
set_option maxRecDepth 100000
set_option maxHeartbeats 1000000
namespace OS
open PySem PySem.Spec PyProof.Rows L2 O
/-- the addresses that names are looked up at -/
def cadr (cl : List (Str × Addr)) : List Addr := cl.filterMap fun y => cl.lookup y.1
theorem cadr_mem {cl : List (Str × Addr)} {x : Str} {c : Addr} (h : cl.lookup x = some c) : c ∈ cadr cl :=
  List.mem_filterMap.mpr ⟨_, PySem.mem_of_lookup h, h⟩
theorem mem_cadr {cl : List (Str × Addr)} {c : Addr} (h : c ∈ cadr cl) : ∃ x, cl.lookup x = some c := by
  obtain ⟨y, _, e⟩ := List.mem_filterMap.mp h
  exact ⟨_, e⟩
section
variable {X : Cx} {Z : Zx} {F : Fs} {E : XK} {pins : List (Addr × Obj)} {σ : L2.St} {H : Hp} {s : Shared} {M : List Addr}
/-- a closure is called -/
theorem run_cloA {k : Nat} {ps : List PV} {f : Addr} {Q : VK} (CRu : CloRule Z F X) (hx : ∀ pins H s e s', Inv X pins σ H s → L2N.CX X.prog X.w X.stack H s E e s' → X.xe e s') (I : Inv X pins σ H s) (ow : Own H M) (tb : LamX.Tabs Z.T H) (hr : Rep Z X.K (Hm H M) (.clo k ps) (.ref f)) (h : Pk Z X.K E M H Q (F k ps)) :
    (∃ q params body scope cl pm c' ctv, s.heap.get? f = some (PySem.W.kla_obj "<lambda>" q params body scope cl pm c' ctv)) ∧ wpAny (model X.prog X.w) X.A (call (.ref f) []) (EP X pins σ Q) X.xe s := by
  obtain ⟨lvl, room, CK⟩ := CRu
  obtain ⟨f', vs, e0, ⟨⟨q, params, body, scope, cl, pm, ctv, c', h1, h2, h3, h4, h5, h6, h7, h8⟩, hcl⟩, hR⟩ := hr
  cases e0
  have atC : ∀ c ∈ cadr cl, ∃ o u, Hm H M c = some (ObE c o) ∧ o.data = .cell (some u) ∧ ∀ q, ObE c o ≠ LamX.CodeO c q := fun c hc => by
    obtain ⟨x, e⟩ := mem_cadr hc
    exact h6 x c e
  have hdC : Hid H (cadr cl) := fun c hc => by
    obtain ⟨o, u, e1, e2, e3⟩ := atC c hc
    exact .inr (.inr ⟨o, (Hm.in e1).1, e3⟩)
  have hMC : ∀ c ∈ cadr cl, c ∉ M := fun c hc => by
    obtain ⟨o, u, e1, e2, e3⟩ := atC c hc
    exact (Hm.in e1).2
  have hd : Hid H (M ++ cadr cl) := (Hid.of ow).app hdC
  have I2 := inv_hid I hd
  have fobj := (I.hok f _ (Hm.in h1).1).1
  have hc' : Hm H (M ++ cadr cl) c' = some (LamX.CodeO c' q) := Hm.of (Hm.in h2).1 fun z => (List.mem_append.mp z).elim (Hm.in h2).2 (hdC.notC (Hm.in h2).1)
  have RL : RepL Z X.K (Hm H (M ++ cadr cl)) ps vs := RepL.less (fun a u e n => Hm.of (Hm.in e).1 fun z => (List.mem_append.mp z).elim (Hm.in e).2 fun z => by
    obtain ⟨o, u', e1, _, _⟩ := atC a z
    rw [e] at e1
    exact n _ (Option.some.inj e1)) hcl hR
  have exE : ∀ H', Ext Z.T (Hm H (M ++ cadr cl)) H' → (∀ a ∈ cadr cl, H' a = none) → Ext Z.T (Hm H M) (Hback H (cadr cl) H') := fun H' e nC => by
    refine ⟨fun b o hb n => ?_, fun t => ?_⟩
    · unfold Hback
      split
      · exact (Hm.in hb).1
      · rename_i hc
        exact e.keep b o (Hm.of (Hm.in hb).1 fun z => (List.mem_append.mp z).elim (Hm.in hb).2 hc) n
    · have z := e.tabs ((hid_tabs hd).mpr ((tabs_Hm ow).mp t))
      rw [← hback_hm (H := H) nC] at z
      exact (hid_tabs (hid_Hback hdC nC)).mp z
  have pf : Pf Z X.K false (Hm H (M ++ cadr cl)) (fun v H' => (∀ a ∈ M ++ cadr cl, H' a = none) → Q v (Hback H (M ++ cadr cl) H')) (fun cls d H' => (∀ a ∈ cadr cl, H' a = none) → E cls d (Hback H (cadr cl) H')) (F k ps) := by
    cases r : F k ps with
    | bad => rw [r] at h; exact h
    | ok p =>
      rw [r] at h
      have fin : ∀ v H', Ext Z.T (Hm H (M ++ cadr cl)) H' → Rep Z X.K H' p v → (∀ a ∈ M ++ cadr cl, H' a = none) → Q v (Hback H (M ++ cadr cl) H') := fun v H' e w nM => h v _ (hid_ext hd nM e) (Rep.go (T := Z.T) (hid_sub hd nM) w)
      exact fin
    | exc j =>
      rw [r] at h
      exact fun H' e nC => h _ (exE H' e nC)
  refine ⟨⟨_, _, _, _, _, _, _, _, fobj⟩, ?_⟩
  refine wpAny_call (codeAny_mono (CK k X.A X.stack s (Hm H (M ++ cadr cl)) f q params body scope cl pm ctv c' vs ps _ _ room I2.env0 fobj hc' h3 h4 h5 (fun x c e => ?_) h7 (fun i x v a b => ?_) ((hid_tabs hd).mpr tb) RL pf) fun rr s' hq => ?_)
  · obtain ⟨o, u, e1, e2, _⟩ := h6 x c e
    exact ⟨by unfold Hm; rw [if_pos (List.mem_append_right _ (cadr_mem e))], some u, o, (I.hok c _ (Hm.in e1).1).1, e2⟩
  · obtain ⟨c, o, u, e0, e1, e2, e3⟩ := h8 i x v a b
    exact ⟨c, u, e0, ⟨o, (I.hok c _ (Hm.in e1).1).1, e2⟩, e3⟩
  · cases rr with
    | error e => exact hx pins (Hm H M) s e s' (inv_hide I ow) (cx_back I.hok I.stkFree hd hMC hq)
    | ok fl =>
      cases fl with
      | ret u =>
        obtain ⟨v, H2, I2', rv, H', rfl, nM, q⟩ := hid_back I hd hq
        exact ⟨v, _, I2', rv, q nM⟩
      | next => exact False.elim hq
      | brk => exact False.elim hq
      | cont => exact False.elim hq
theorem run_clo {k : Nat} {ps : List PV} {f : Addr} {Q : VK} (CRu : CloRule Z F X) (hx : L2.Passes (L2N.CX X.prog X.w) X E) (I : Inv X pins σ H s) (ow : Own H M) (tb : LamX.Tabs Z.T H) (hr : Rep Z X.K (Hm H M) (.clo k ps) (.ref f)) (h : Pk Z X.K E M H Q (F k ps)) :
    (∃ q params body scope cl pm c' ctv, s.heap.get? f = some (PySem.W.kla_obj "<lambda>" q params body scope cl pm c' ctv)) ∧ wpAny (model X.prog X.w) X.A (call (.ref f) []) (EP X pins σ Q) X.xe s :=
  run_cloA CRu (fun pins H s e s' I c => hx pins σ H s e s' I c) I ow tb hr h
end
/-! ### the frame's cells are laid open -/
def lay (h : Heap) (H : Hp) (C : List Addr) : Hp := fun b => if b ∈ C then (h.get? b).map (ObE b) else H b
mutual
theorem fit_clean : ∀ (n : Nat) (p : PV), p.fit n = true → p.clean = true
  | _, .non, _ => rfl
  | _, .bl _, _ => rfl
  | _, .int _, _ => rfl
  | _, .str _, _ => rfl
  | 0, .tup _, h => by cases h
  | 0, .lst _, h => by cases h
  | n + 1, .tup xs, h => fit_cleanL n xs h
  | n + 1, .lst xs, h => fit_cleanL n xs h
  | 0, .fn _, h => by cases h
  | 0, .exc _, h => by cases h
  | 0, .scr _, h => by cases h
  | 0, .clo _ _, h => by cases h
  | 0, .lam _ _, h => by cases h
  | 0, .obj _, h => by cases h
  | n + 1, .fn _, h => by cases h
  | n + 1, .exc _, h => by cases h
  | n + 1, .scr _, h => by cases h
  | n + 1, .clo _ _, h => by cases h
  | n + 1, .lam _ _, h => by cases h
  | n + 1, .obj _, h => by cases h
theorem fit_cleanL : ∀ (n : Nat) (xs : List PV), xs.all (PV.fit n) = true → PV.cleanL xs = true
  | _, [], _ => rfl
  | n, x :: xs, h => by
    rw [List.all_cons, Bool.and_eq_true] at h
    show (PV.clean x && PV.cleanL xs) = true
    rw [fit_clean n x h.1, fit_cleanL n xs h.2]
    rfl
end
section
variable {X : Cx} {Z : Zx} {F : Fs} {E : XK} {pins : List (Addr × Obj)} {σ : L2.St} {H : Hp} {s : Shared}
/-- the cells of the frame -/
structure CellsAt (X : Cx) (H : Hp) (s : Shared) (C : List Addr) : Prop where
  nn : ∀ c ∈ C, H c = none
  obj : ∀ c ∈ C, ∃ o v, s.heap.get? c = some o ∧ o.data = .cell v
  base : ∀ c ∈ C, X.base.get? c = none
  nfr : ∀ c ∈ C, c ∉ frs X.stack
theorem cells_at (I : Inv X pins σ H s) (hfn : ∀ x, X.fn x = true) : CellsAt X H s (cadr X.env.cells) := by
  refine ⟨fun c hc => ?_, fun c hc => ?_, fun c hc => ?_, fun c hc hz => ?_⟩ <;> obtain ⟨x, e⟩ := mem_cadr hc
  · exact I.freeC x c e
  · obtain ⟨v, o, h1, h2⟩ := I.cell x c e
    exact ⟨o, v, h1, h2⟩
  · exact Heap.get?_none_of_le (Nat.le_trans I.ok.bsz (I.ok.cab x c (hfn x) e))
  · rcases List.mem_cons.mp (I.stkSub c hz) with z | z
    · obtain ⟨v, o, h1, h2⟩ := I.cell x c e
      obtain ⟨m, ⟨ob, es, ep, ho, hr⟩, _⟩ := I.loc
      rw [← z, h1] at ho
      cases ho
      obtain ⟨hd, _⟩ := hr
      rw [h2] at hd
      cases hd
    · obtain ⟨_, o, ho, _⟩ := I.ok.funs.mem z
      exact Nat.lt_irrefl _ (Nat.lt_of_lt_of_le (Heap.lt_size ho) (I.ok.cab x c (hfn x) e))
variable {C : List Addr}
theorem CellsAt.at (c : CellsAt X H s C) {b : Addr} (hb : b ∈ C) : ∃ o, s.heap.get? b = some o ∧ (∃ v, o.data = .cell v) ∧ lay s.heap H C b = some (ObE b o) ∧ ∀ q, ObE b o ≠ LamX.CodeO b q := by
  obtain ⟨o, v, h1, h2⟩ := c.obj b hb
  refine ⟨o, h1, ⟨v, h2⟩, ?_, fun q z => ?_⟩
  · unfold lay
    rw [if_pos hb, h1]
    rfl
  · have z := congrFun (HO.ext.inj z) s.heap
    have : s.heap.get? b = some o := h1
    rw [z] at this
    obtain ⟨oc, vs, t, a1, a2, _⟩ := this
    rw [h1] at a1
    cases a1
    rw [h2] at a2
    cases a2
theorem lay_out (c : CellsAt X H s C) {b : Addr} {u : HO} (h : H b = some u) : lay s.heap H C b = some u ∧ b ∉ C := by
  have hb : b ∉ C := fun z => by rw [c.nn b z] at h; cases h
  refine ⟨?_, hb⟩
  unfold lay
  rw [if_neg hb]
  exact h
theorem lay_hid (c : CellsAt X H s C) : Hid (lay s.heap H C) C := fun b hb => by
  obtain ⟨o, _, _, h3, h4⟩ := c.at hb
  exact .inr (.inr ⟨o, h3, h4⟩)
theorem lay_hm (c : CellsAt X H s C) : Hm (lay s.heap H C) C = H := by
  funext b
  unfold Hm lay
  split
  · rename_i hb
    exact (c.nn b hb).symm
  · rfl
theorem lay_ext {T : List (Addr × Str)} (c : CellsAt X H s C) : Ext T H (lay s.heap H C) :=
  ⟨fun b o h _ => (lay_out c h).1, fun t => by
    rw [← lay_hm c] at t
    exact (hid_tabs (lay_hid c)).mp t⟩
theorem lay_hok (c : CellsAt X H s C) {P : Program} {w : World} (k : HOk P w H s.heap) : HOk P w (lay s.heap H C) s.heap := fun b u e => by
  by_cases hb : b ∈ C
  · obtain ⟨o, h1, _, h3, _⟩ := c.at hb
    rw [h3] at e
    cases e
    exact ⟨h1, ⟨o, h1⟩, fun h1 h2 z q => q _ z⟩
  · have e1 : H b = some u := by unfold lay at e; rw [if_neg hb] at e; exact e
    exact (k b u e1).stay (fun b u _ q => q) (fun b q => (lay_out c q).1) fun b xs q => (lay_out c q).1
theorem lay_env (c : CellsAt X H s C) (e : Env0 X.prog X.w X.K X.mg X.base X.A X.stack s H) : Env0 X.prog X.w X.K X.mg X.base X.A X.stack s (lay s.heap H C) :=
  have nn : ∀ b, b ∉ C → H b = none → lay s.heap H C b = none := fun b hb h => by unfold lay; rw [if_neg hb]; exact h
  ⟨e.frames, e.mod, fun b o h => ⟨(e.bs b o h).1, nn b (fun z => by rw [c.base b z] at h; cases h) (e.bs b o h).2⟩, e.bsz, e.funs, fun b hb => nn b (fun z => c.nfr b z hb) (e.frf b hb), lay_hok c e.hok, e.bare⟩
/-- behind a call to which the cells lay open -/
theorem lay_back {Q : VK} {u : Value} {s' : Shared} {p : PV} (c : CellsAt X H s C) (hp : p.clean = true) (h : CE X.stack X.prog X.w (lay s.heap H C) s (fun v H' => Ext Z.T (lay s.heap H C) H' ∧ Rep Z X.K H' p v) u s') :
    CE X.stack X.prog X.w H s (fun v H' => Ext Z.T H H' ∧ Rep Z X.K H' p v) u s' := by
  obtain ⟨v, H', os, bare, un, hok, r, ex, q⟩ := h
  have keepC : ∀ b ∈ C, ∀ o, s.heap.get? b = some o → s'.heap.get? b = some o ∧ H' b = some (ObE b o) := fun b hb o e => by
    obtain ⟨o', h1, _, h3, _⟩ := c.at hb
    rw [e] at h1
    cases h1
    have z := ex.keep b _ h3 noTbl.ext
    exact ⟨(hok b _ z).1, z⟩
  have hid' : Hid H' C := fun b hb => by
    obtain ⟨o, h1, _, _, h4⟩ := c.at hb
    exact .inr (.inr ⟨o, (keepC b hb o h1).2, h4⟩)
  have nn : ∀ b, b ∉ C → H b = none → lay s.heap H C b = none := fun b hb h => by unfold lay; rw [if_neg hb]; exact h
  refine ⟨v, Hm H' C, os, bare, ⟨fun b o e n hb hx => ?_, fun b o e n hb hx => un.slot b o e (nn b (fun z => c.nfr b z hb) n) hb hx, fun b o e n hx => ?_, un.there, fun b xs e => ?_, fun b o u e => ?_, fun b ps e => ?_⟩, hid_hok hid' hok, r, ⟨fun b o e n => ?_, fun t => ?_⟩, ?_⟩
  · by_cases hc : b ∈ C
    · exact (keepC b hc o e).1
    · exact un.keep b o e (nn b hc n) hb hx
  · by_cases hc : b ∈ C
    · unfold Hm
      rw [if_pos hc]
    · exact hm_none (un.free b o e (nn b hc n) hx)
  · obtain ⟨z, hb⟩ := lay_out c e
    exact Hm.of (un.tups b xs z) hb
  · obtain ⟨z, hb⟩ := lay_out c e
    exact Hm.of (un.frzs b o u z) hb
  · obtain ⟨z, hb⟩ := lay_out c e
    obtain ⟨m, y⟩ := un.tbls b ps z
    exact ⟨m, Hm.of y hb⟩
  · obtain ⟨z, hb⟩ := lay_out c e
    exact Hm.of (ex.keep b o z n) hb
  · exact (hid_tabs hid').mpr (ex.tabs ((lay_ext c).tabs t))
  · refine Rep.less (fun a u e n => Hm.of e fun hb => ?_) hp q
    obtain ⟨o, h1, _, _, _⟩ := c.at hb
    rw [(keepC a hb o h1).2] at e
    exact n _ (Option.some.inj e).symm
end
end OS

end

section
set_option Elab.async false
set_option linter.all false
set_option maxRecDepth 100000
set_option maxHeartbeats 1000000
namespace OS
open PySem PySem.Spec PyProof.Rows L2 O
section
variable {X : Cx} {Z : Zx} {F : Fs} {E : XK} {pins : List (Addr × Obj)} {σ : L2.St} {ρ : O.St} {H : Hp} {s : Shared} {M : List Addr}
theorem caps_rep (hs : ∀ (i : Nat) (p : PV), ρ[i]? = some (.v p) → ∃ v, σ[i]? = some (some v) ∧ Rep Z X.K H p v) : ∀ {is : List Nat} {ps : List PV}, caps ρ is = some ps →
    ∃ vs : List V, vs.length = is.length ∧ RepL Z X.K H ps vs ∧ ∀ (j i : Nat) (v : V), is[j]? = some i → vs[j]? = some v → σ[i]? = some (some v)
  | [], ps, h => by
    cases h
    exact ⟨[], rfl, rfl, fun j i v e => by simp at e⟩
  | i :: is, ps, h => by
    unfold caps at h
    cases e : ρ[i]? with
    | none => rw [e] at h; cases h
    | some sv =>
      cases sv with
      | v p =>
        rw [e] at h
        dsimp only at h
        cases e2 : caps ρ is with
        | none => rw [e2] at h; cases h
        | some qs =>
          rw [e2] at h
          cases h
          obtain ⟨v, v1, v2⟩ := hs i p e
          obtain ⟨vs, l1, l2, l3⟩ := caps_rep hs e2
          refine ⟨v :: vs, by rw [List.length_cons, List.length_cons, l1], ⟨v, vs, rfl, v2, l2⟩, fun j i' v' a b => ?_⟩
          cases j with
          | zero =>
            rw [List.getElem?_cons_zero] at a b
            cases a
            cases b
            exact v1
          | succ j =>
            rw [List.getElem?_cons_succ] at a b
            exact l3 j i' v' a b
      | _ => rw [e] at h; cases h
/-- a lambda of this frame, its cells laid open -/
theorem lam_clo (I : Inv X pins σ H s) (c : CellsAt X H s (cadr X.env.cells)) (hfc : Z.fc = X.env.cells) (hfN : Z.fN = X.N) (hfS : Z.fS = some X.env.scope) {k : Nat} {is : List Nat} {f : Addr} {vs : List V} (h : LamA Z H k is f)
    (hl : vs.length = is.length) (hv : ∀ (j i : Nat) (v : V), is[j]? = some i → vs[j]? = some v → σ[i]? = some (some v)) : CloA Z (lay s.heap H (cadr X.env.cells)) k f vs := by
  obtain ⟨q, params, body, scope, sc, pm, ctv, c', h1, h2, h3, h4, L, h5, h6, h7⟩ := h
  rw [hfS] at h4
  cases h4
  rw [hfc] at h1
  rw [hfN] at h7
  have hfree := L.has I.ok
  have cm : ∀ {y : Str} {c : Addr}, (cloFrom X.env.cells scope.names []).lookup y = some c → X.env.cells.lookup y = some c ∧ (y, NameKind.free) ∈ scope.names := fun {y c} e => by
    rcases cloFrom_mem (PySem.mem_of_lookup e) with hm | ⟨g1, g2⟩
    · cases hm
    · obtain ⟨c1, hc⟩ := hfree _ g1 rfl
      have hc : X.env.cells.lookup y = some c1 := hc
      have e2 : c = c1 := by rw [g2, hc]; rfl
      rw [e2]
      exact ⟨hc, g1⟩
  have look : ∀ {y : Str}, scope.names.lookup y = some .free → ∃ c, (cloFrom X.env.cells scope.names []).lookup y = some c := fun {y} hl => by
    have hy : (y, NameKind.free) ∈ scope.names := PySem.mem_of_lookup hl
    exact mem_lookup (cloFrom_has (cells := X.env.cells) (acc := []) hy)
  have val : ∀ (j : Nat) (x : Str), (Z.lN k)[j]? = some x → ∃ c o u v, vs[j]? = some v ∧ (cloFrom X.env.cells scope.names []).lookup x = some c ∧ lay s.heap H (cadr X.env.cells) c = some (ObE c o) ∧ o.data = .cell (some u) ∧ RelV v u ∧ ∀ q, ObE c o ≠ LamX.CodeO c q := fun j x hj => by
    obtain ⟨hx, i, hi, hN⟩ := h7 j x hj
    obtain ⟨c0, hc0⟩ := look hx
    obtain ⟨hc1, hm⟩ := cm hc0
    obtain ⟨v, hvj⟩ : ∃ v, vs[j]? = some v := by
      have : j < vs.length := by rw [hl]; exact (List.getElem?_eq_some_iff.mp hi).1
      exact ⟨_, List.getElem?_eq_getElem this⟩
    have hs := hv j i v hi hvj
    have hk := L.free _ hm rfl
    have hk : X.env.scope.names.lookup x = some .cell ∨ X.env.scope.names.lookup x = some .free := hk
    have vis : Vis X.env.scope x := .inr hk
    obtain ⟨m, _, hl⟩ := I.loc
    obtain ⟨u, ru, lk⟩ := hl i x v hN hs vis
    rcases lk with ⟨k', _⟩ | ⟨_, c3, e', z⟩
    · have k' : X.env.scope.names.lookup x = some .local := k'
      rcases hk with k2 | k2 <;> rw [k2] at k' <;> cases k'
    · rw [hc1] at e'
      cases e'
      obtain ⟨o, g1, _, g3, g4⟩ := c.at (cadr_mem hc1)
      obtain ⟨o', o1, o2⟩ := z
      rw [g1] at o1
      cases o1
      exact ⟨c0, o, u, v, hvj, hc0, g3, o2, ru, g4⟩
  refine ⟨q, params, body, scope, cloFrom X.env.cells scope.names [], pm, ctv, c', (lay_out c h1).1, (lay_out c h2).1, h3, fun x y c e1 e2 => I.ok.inj x y c (cm e1).1 (cm e2).1, fun y hy => look hy, fun x c e => ?_, by rw [hl, h6], fun j x v hj hvj => ?_⟩
  · obtain ⟨j, hj⟩ : ∃ j, (Z.lN k)[j]? = some x := by
      have hm : x ∈ Z.lN k := h5 _ (cm e).2 rfl
      exact List.mem_iff_getElem?.mp hm
    obtain ⟨c0, o, u, v, _, e0, g1, g2, _, g4⟩ := val j x hj
    rw [e] at e0
    cases e0
    exact ⟨o, u, g1, g2, g4⟩
  · obtain ⟨c0, o, u, v', hv', e0, g1, g2, g3, _⟩ := val j x hj
    rw [hvj] at hv'
    cases hv'
    exact ⟨c0, o, u, e0, g1, g2, g3⟩
/-- what the slots hold, in the arguments -/
structure Opn (X : Cx) (Z : Zx) (pins : List (Addr × Obj)) (σ : L2.St) (ρ : O.St) (H : Hp) (s : Shared) : Prop where
  inv : Inv X pins σ H s
  cel : CellsAt X H s (cadr X.env.cells)
  fc : Z.fc = X.env.cells
  fN : Z.fN = X.N
  fS : Z.fS = some X.env.scope
  sl : ∀ (i : Nat) (p : PV), ρ[i]? = some (.v p) → ∃ v, σ[i]? = some (some v) ∧ Rep Z X.K H p v
mutual
theorem conv_rep (o : Opn X Z pins σ ρ H s) : ∀ {p q : PV} {v : V}, conv ρ p = some q → Rep Z X.K H p v → Rep Z X.K (lay s.heap H (cadr X.env.cells)) q v
  | .lam k is, q, v, h, hr => by
    obtain ⟨f, rfl, ha⟩ := hr
    unfold conv at h
    cases e : caps ρ is with
    | none => rw [e] at h; cases h
    | some ps =>
      rw [e] at h
      dsimp only at h
      split at h
      · rename_i hc
        cases h
        obtain ⟨vs, l1, l2, l3⟩ := caps_rep o.sl e
        exact ⟨f, vs, rfl, ⟨lam_clo o.inv o.cel o.fc o.fN o.fS ha l1 l3, hc⟩, RepL.go (T := Z.T) (lay_ext o.cel) l2⟩
      · cases h
  | .lst xs, q, v, h, hr => by
    obtain ⟨a, vs, rfl, h1, h2⟩ := hr
    unfold conv at h
    cases e : convs ρ xs with
    | none => rw [e] at h; cases h
    | some ys =>
      rw [e] at h
      cases h
      exact ⟨a, vs, rfl, (lay_out o.cel h1).1, convs_rep o e h2⟩
  | .non, q, v, h, hr => by cases h; exact Rep.go (T := Z.T) (lay_ext o.cel) hr
  | .bl _, q, v, h, hr => by cases h; exact Rep.go (T := Z.T) (lay_ext o.cel) hr
  | .int _, q, v, h, hr => by cases h; exact Rep.go (T := Z.T) (lay_ext o.cel) hr
  | .str _, q, v, h, hr => by cases h; exact Rep.go (T := Z.T) (lay_ext o.cel) hr
  | .tup _, q, v, h, hr => by cases h; exact Rep.go (T := Z.T) (lay_ext o.cel) hr
  | .fn _, q, v, h, hr => by cases h; exact Rep.go (T := Z.T) (lay_ext o.cel) hr
  | .obj _, q, v, h, hr => by cases h; exact Rep.go (T := Z.T) (lay_ext o.cel) hr
  | .exc _, q, v, h, hr => by cases h; exact Rep.go (T := Z.T) (lay_ext o.cel) hr
  | .scr _, q, v, h, hr => by cases h; exact Rep.go (T := Z.T) (lay_ext o.cel) hr
  | .clo _ _, q, v, h, hr => by cases h; exact Rep.go (T := Z.T) (lay_ext o.cel) hr
theorem convs_rep (o : Opn X Z pins σ ρ H s) : ∀ {ps qs : List PV} {vs : List V}, convs ρ ps = some qs → RepL Z X.K H ps vs → RepL Z X.K (lay s.heap H (cadr X.env.cells)) qs vs
  | [], qs, vs, h, hr => by cases h; exact hr
  | p :: ps, qs, vs, h, ⟨v, r, h1, h2, h3⟩ => by
    unfold convs at h
    cases e1 : conv ρ p with
    | none => rw [e1] at h; cases h
    | some q =>
      cases e2 : convs ρ ps with
      | none => rw [e1, e2] at h; cases h
      | some qs' =>
        rw [e1, e2] at h
        cases h
        exact ⟨v, r, h1, conv_rep o e1 h2, convs_rep o e2 h3⟩
end
theorem convs_len : ∀ {ps qs : List PV}, convs ρ ps = some qs → qs.length = ps.length
  | [], qs, h => by cases h; rfl
  | p :: ps, qs, h => by
    unfold convs at h
    cases e1 : conv ρ p with
    | none => rw [e1] at h; cases h
    | some q =>
      cases e2 : convs ρ ps with
      | none => rw [e1, e2] at h; cases h
      | some qs' =>
        rw [e1, e2] at h
        cases h
        rw [List.length_cons, List.length_cons, convs_len e2]
/-- a def is called, the cells open to it; hidden: N -/
theorem run_open {k n : Nat} {x : Str} {N : List Addr} {ps : List PV} {vs : List V} {us : List Value} {Q : VK} {p : PV} (CO : CallOk Z F X k x n false) (hmk : Z.fc = X.env.cells ∧ Z.fN = X.N ∧ Z.fS = some X.env.scope ∧ ∀ x, X.fn x = true) (I : Inv X pins σ H s) (hd : Own H N) (tb : LamX.Tabs Z.T H)
    (r : Vals vs us) (hl : vs.length = n) (hr : RepL Z X.K (lay s.heap (Hm H N) (cadr X.env.cells)) ps vs) (hF : F k ps = .ok p) (hp : p.clean = true) (hq : ∀ v H', Ext Z.T H H' → (∀ a ∈ N, H' a = H a) → Rep Z X.K (Hm H' N) p v → Q v H') :
    wpAny (model X.prog X.w) X.A (call (.ref (Z.fad k)) us) (EP X pins σ Q) X.xe s := by
  obtain ⟨f, fd, pn, lvl, G, hroom, hm, hk, hb, rfl, _⟩ := CO
  have I' := inv_hide I hd
  have c := cells_at I' hmk.2.2.2
  have sp : spOf Z X.K n false (F k) vs (lay s.heap (Hm H N) (cadr X.env.cells)) (fun v H' => Ext Z.T (lay s.heap (Hm H N) (cadr X.env.cells)) H' ∧ Rep Z X.K H' p v) (fun _ _ _ => False) := by
    refine ⟨hl, (lay_ext c).tabs ((tabs_Hm hd).mpr tb), ps, hr, ?_⟩
    rw [hF]
    exact fun v H' e w => ⟨e, w⟩
  have hl2 : us.length = pn.length := by rw [← r.length]; exact G.len _ _ _ _ sp
  have b := hb s us I.kIn (by rw [List.append_nil]; exact hl2)
  rw [List.append_nil] at b
  refine wpAny_call (codeAny_mono (G.run X.A X.stack s _ ⟨us, []⟩ us vs _ _ hroom (lay_env c I'.env0) b r sp) fun rr s' hz => ?_)
  cases rr with
  | error e =>
    obtain ⟨_, _, _, _, _, _, _, _, _, _, _, _, z⟩ := hz
    exact z.elim
  | ok fl =>
    cases fl with
    | ret u =>
      obtain ⟨v, H2, I2, rv, H', rfl, nM, e, w⟩ := call_back I hd (lay_back (Z := Z) (Q := fun _ _ => True) c hp hz)
      refine ⟨v, _, I2, rv, ?_⟩
      refine hq v _ (hback_ext hd nM e) (fun a ha => ?_) ?_
      · unfold Hback
        rw [if_pos ha]
      · rw [hback_hm nM]
        exact w
    | next => exact False.elim hz
    | brk => exact False.elim hz
    | cont => exact False.elim hz
end
end OS

end

section
set_option Elab.async false
set_option linter.all false
set_option maxRecDepth 100000
set_option maxHeartbeats 1000000
namespace OS
open PySem PySem.Spec PyProof.Rows L2 O
section
variable {X : Cx} {Z : Zx} {F : Fs} {E : XK} {pins : List (Addr × Obj)} {σ : L2.St} {ρ : O.St} {H : Hp} {s : Shared} {M : List Addr}
/-- an object of ours is known from now on -/
theorem inv_track {f : Addr} {o : Obj} (I : Inv X pins σ H s) (hf : s.heap.get? f = some o) (hn : H f = none) (h0 : X.s_0.heap.objs.size ≤ f) (hL : f ≠ X.env.locals) (hc : ∀ x c, X.env.cells.lookup x = some c → c ≠ f) (hp : ∀ p ∈ X.pn ++ pins, p.1 ≠ f) :
    Inv X pins σ (upd H f (ObE f o)) s := by
  have ne : ∀ {b : Addr} {u : HO}, H b = some u → upd H f (ObE f o) b = some u := fun {b u} e => by rw [upd_ne (ne_of_none e hn)]; exact e
  refine I.step (h' := s.heap) (g' := s.gens) (d' := s.drawn) (t' := s.toks) (ch := [f]) (fun b hb => ?_) (fun b o _ _ _ e _ => e) (fun b o _ _ _ e _ => ⟨o.slots, e⟩) (fun b o hb _ e => ?_) (fun b o _ e => ⟨o, e⟩) (fun b xs e => ne e) (fun b o u e => ne e) (fun b ps e => ⟨#[], by rw [ne e]; simp⟩) (fun m h => h) (fun b u e => ?_) I.bare
  · cases List.mem_singleton.mp hb
    exact ⟨.inr h0, hL, hc, hp⟩
  · rw [upd_ne fun z => hb (List.mem_singleton.mpr z)]
    exact e
  · by_cases hb : b = f
    · subst hb
      rw [upd_same] at e
      cases e
      exact ⟨hf, ⟨o, hf⟩, fun h1 h2 z q => q _ z⟩
    · rw [upd_ne hb] at e
      exact (I.hok b u e).stay (fun d v _ q => q) (fun d q => ne q) fun d xs q => ne q
theorem tabs_more {T : List (Addr × Str)} {P c' : Addr} {q : Str} {ps : Array Value} {pos : Pos} (hT : LamX.Tabs T H) (hm : (P, q) ∈ T) (hu : ∀ p ∈ T, p.1 = P → p.2 = q) (hP : H P = some (.tbl ps)) (nC : H c' = none) :
    Ext T H (upd (upd H P (.tbl (ps ++ #[rawInt pos.line, rawInt pos.col, .ref c']))) c' (LamX.CodeO c' q)) := by
  obtain ⟨ps0, z0, ht, ha⟩ := hT _ hm
  rw [hP] at z0
  cases z0
  have keep : ∀ b o, H b = some o → noTbl o → upd (upd H P (.tbl (ps ++ #[rawInt pos.line, rawInt pos.col, .ref c']))) c' (LamX.CodeO c' q) b = some o := fun b o e n => by
    have nP : b ≠ P := fun z => by
      rw [z, hP] at e
      exact n ps (Option.some.inj e).symm
    rw [upd_ne (ne_of_none e nC), upd_ne nP]
    exact e
  have toL : (ps ++ #[rawInt pos.line, rawInt pos.col, .ref c']).toList = ps.toList ++ [rawInt pos.line, rawInt pos.col, .ref c'] := by simp
  refine ⟨keep, fun _ p hp => ?_⟩
  by_cases hb : p.1 = P
  · rw [hu p hp hb, hb]
    refine ⟨_, by rw [upd_ne (ne_of_none hP nC), upd_same], by rw [toL]; exact PySem.TriplesOk_snoc _ _ _ _ ht, fun p' cv h => ?_⟩
    rw [toL] at h
    rcases LamX.among_app _ ht h with z | z
    · obtain ⟨c0, e1, e2⟩ := ha p' cv z
      exact ⟨c0, e1, keep _ _ e2 noTbl.ext⟩
    · exact ⟨c', z, upd_same⟩
  · obtain ⟨ps', a1, a2, a3⟩ := hT p hp
    refine ⟨ps', by rw [upd_ne (ne_of_none a1 nC), upd_ne hb]; exact a1, a2, fun p' cv h => ?_⟩
    obtain ⟨c0, e1, e2⟩ := a3 p' cv h
    exact ⟨c0, e1, keep _ _ e2 noTbl.ext⟩
/-- a lambda is made and known -/
theorem make_lam {T : List (Addr × Str)} {c P : Addr} {params : Arguments} {body : Expr} {scope : Scope} {pos : Pos} {E : Value → Shared → Prop} {Q : Value → Shared → Prop} (I : Inv X pins σ H s) (B : LamX.TabB X.base X.mg c P) (hcode : X.env.code = .ref c)
    (hm : (P, X.env.qual ++ "<lambda>") ∈ T) (hu : ∀ p ∈ T, p.1 = P → p.2 = X.env.qual ++ "<lambda>") (hT : LamX.Tabs T H) (hdef : defaultsOf params X.env = ([], [])) (hfree : ∀ y ∈ scope.names, y.2 = .free → ∃ c, X.env.cells.lookup y.1 = some c)
    (h : ∀ (f c' : Addr) (pm ctv : Value) (H1 : Hp) (s' : Shared), Inv X pins σ H1 s' → Ext T H H1 → H1 f = some (ObE f (PySem.W.kla_obj "<lambda>" (X.env.qual ++ "<lambda>") params body scope (cloFrom X.env.cells scope.names []) pm c' ctv)) → H1 c' = some (LamX.CodeO c' (X.env.qual ++ "<lambda>")) → Q (.ref f) s') :
    wpAny (model X.prog X.w) X.A (eval (.Lambda params body scope pos) X.env) Q E s := by
  have fin : ∀ {f : Addr} {o : Obj} {H1 : Hp} {s1 : Shared}, s.heap.objs.size ≤ f → Inv X pins σ H1 s1 → s1.heap.get? f = some o → H1 f = none → Inv X pins σ (upd H1 f (ObE f o)) s1 := fun {f o H1 s1} hz J hf hn =>
    inv_track J hf hn (Nat.le_trans I.sz hz) (Nat.ne_of_gt (Nat.lt_of_lt_of_le I.lt hz)) (fun x c e z => by
      obtain ⟨v, oc, h1, _⟩ := I.cell x c e
      rw [z] at h1
      exact Nat.lt_irrefl _ (Nat.lt_of_lt_of_le (Heap.lt_size h1) hz)) fun p hp z => by
      have h1 := (I.pin p hp).1
      rw [z] at h1
      exact Nat.lt_irrefl _ (Nat.lt_of_lt_of_le (Heap.lt_size h1) hz)
  obtain ⟨ps, hP, ht, ha⟩ := hT _ hm
  have bP : s.heap.BuiltinsAt X.mg P := B.bm.keeps I.bk
  have hP' : s.heap.get? P = some { cls := .none, data := .fields ps } := I.hok P _ hP
  refine PySem.W.kla_eval hdef ?_
  cases hc : codeAmong pos ps.toList with
  | some cv =>
    obtain ⟨c', e, hco⟩ := ha pos cv hc
    subst e
    refine PySem.W.kla_makeFunctionHit (mg := X.mg) (c := c) (P := P) (ps := ps) (closure_ok hfree) I.ok.glob (I.mod.glob.keeps I.bk) hcode (B.code.keeps I.bk) hP' ht hc bP fun ctv h' tk hx hsz => ?_
    have J : Inv X pins σ H { s with heap := h'.push (PySem.W.kla_obj "<lambda>" (X.env.qual ++ "<lambda>") params body scope (cloFrom X.env.cells scope.names []) ((X.mg "__name__").getD .none) c' ctv), toks := tk } :=
      I.kept fun b o e => Heap.get?_push_of_some _ (hx b o e)
    have hn : H h'.objs.size = none := I.hok.fresh hsz
    have e1 : Ext T H (upd H h'.objs.size (ObE h'.objs.size (PySem.W.kla_obj "<lambda>" (X.env.qual ++ "<lambda>") params body scope (cloFrom X.env.cells scope.names []) ((X.mg "__name__").getD .none) c' ctv))) := Ext.new hn
    exact h h'.objs.size c' ((X.mg "__name__").getD .none) ctv _ _ (fin hsz J (Heap.get?_push_size _ rfl) hn) e1 upd_same (e1.keep _ _ hco noTbl.ext)
  | none =>
    refine PySem.W.kla_makeFunction (mg := X.mg) (c := c) (P := P) (ps := ps) (closure_ok hfree) I.ok.glob (I.mod.glob.keeps I.bk) hcode (B.code.keeps I.bk) hP' ht hc B.gP bP fun c' ctv h' tk hx hge hlt hrec htb => ?_
    obtain ⟨c2, oc, vs, t, e2, hoc, hd, hv⟩ := hrec
    cases e2
    have hsz : s.heap.objs.size ≤ h'.objs.size := Nat.le_trans hge (Nat.le_of_lt hlt)
    have nC : H c' = none := I.hok.fresh hge
    have J := LamX.inv_table (t' := tk) (more := #[rawInt pos.line, rawInt pos.col, .ref c']) (h' := h'.push (PySem.W.kla_obj "<lambda>" (X.env.qual ++ "<lambda>") params body scope (cloFrom X.env.cells scope.names []) ((X.mg "__name__").getD .none) c' ctv)) I hP
      (fun b o hb e => Heap.get?_push_of_some _ (hx b o hb e)) (Heap.get?_push_of_some _ htb) hge ⟨oc, vs, t, Heap.get?_push_of_some _ hoc, hd, hv⟩
    have e0 : Ext T H (upd (upd H P (.tbl (ps ++ #[rawInt pos.line, rawInt pos.col, .ref c']))) c' (LamX.CodeO c' (X.env.qual ++ "<lambda>"))) := tabs_more hT hm hu hP nC
    have hn : upd (upd H P (.tbl (ps ++ #[rawInt pos.line, rawInt pos.col, .ref c']))) c' (LamX.CodeO c' (X.env.qual ++ "<lambda>")) h'.objs.size = none := by
      have n1 : h'.objs.size ≠ c' := Nat.ne_of_gt hlt
      have n2 : h'.objs.size ≠ P := Nat.ne_of_gt (Nat.lt_of_lt_of_le (Heap.lt_size hP') hsz)
      rw [upd_ne n1, upd_ne n2]
      exact I.hok.fresh hsz
    have e1 := e0.trans (Ext.new (T := T) (o := ObE h'.objs.size (PySem.W.kla_obj "<lambda>" (X.env.qual ++ "<lambda>") params body scope (cloFrom X.env.cells scope.names []) ((X.mg "__name__").getD .none) c' ctv)) hn)
    refine h h'.objs.size c' ((X.mg "__name__").getD .none) ctv _ _ (fin hsz J (Heap.get?_push_size _ rfl) hn) e1 upd_same ?_
    rw [upd_ne (Nat.ne_of_lt hlt), upd_same]
/-- lambda: .. -/
theorem pe_lamK {c : Ck} (C : Cxt Z F c X E) {k : Nat} {is : List Nat} {params : Arguments} {body : Expr} {scope : Scope} {pos : Pos} (hlam : c.lam = true) (hk : lmOk c k is params body scope = true) :
    PE X (.Lambda params body scope pos) (tM Z X.K E (ev F (.lam k is))) := by
  refine ⟨fun pins s σ H Q I q => ?_⟩
  obtain ⟨ρ, M, sr, q⟩ := q
  simp only [ev] at q
  obtain ⟨cc, P, TB, hcode, hmT, huT⟩ := C.lam hlam
  unfold lmOk at hk
  simp only [Bool.and_eq_true] at hk
  obtain ⟨⟨⟨⟨⟨⟨h1, h2⟩, h3⟩, h4⟩, h5⟩, h6⟩, h7⟩ := hk
  obtain ⟨m1, m2, m3, m4⟩ := C.mkr h1
  obtain ⟨o1, o2⟩ := C.okl h1
  have L : LamX.LamS X.env.scope scope := by rw [C.sc]; exact LamX.lamS_by h3
  have hdef : defaultsOf params X.env = ([], []) := by
    unfold noPar at h2
    split at h2
    · rfl
    · cases h2
  refine make_lam I TB hcode hmT huT sr.tabs hdef (L.has I.ok) fun f c' pm ctv H1 s' J e1 hf hc' => ⟨.ref f, H1, J, rfl, q _ H1 e1 ?_⟩
  have nM : ∀ {a : Addr} {φ : Heap → Prop}, H1 a = some (.ext φ) → a ∉ M := fun {a φ} e hm => by
    rcases sr.own.go e1 a hm with ⟨_, z⟩ | ⟨_, z⟩ <;> rw [e] at z <;> cases z
  refine ⟨f, rfl, X.env.qual ++ "<lambda>", params, body, scope, X.env.scope, pm, ctv, c', by rw [m1]; exact Hm.of hf (nM hf), Hm.of hc' (nM hc'), by rw [← o1]; exact h4, m3, L, fun y hy hfree => ?_, by rw [← o2]; exact of_decide_eq_true h5, fun j x hj => ?_⟩
  · have := List.all_eq_true.mp h7 y hy
    rw [← o2]
    simpa [hfree] using this
  · rw [← o2] at hj
    have hlen : is.length = (c.lN k).length := of_decide_eq_true h5
    have hjl : j < (c.lN k).length := (List.getElem?_eq_some_iff.mp hj).1
    have hi : is[j]? = some (is[j]'(by omega)) := List.getElem?_eq_getElem (by omega)
    have hz : ((c.lN k).zip is)[j]? = some (x, is[j]'(by omega)) := by
      rw [List.getElem?_zip_eq_some]
      exact ⟨hj, hi⟩
    have := List.all_eq_true.mp h6 _ (List.mem_of_getElem? hz)
    simp only [Bool.and_eq_true, decide_eq_true_eq] at this
    exact ⟨this.2, _, hi, by rw [m2, C.N]; exact this.1⟩
end
end OS

end

section
set_option Elab.async false
set_option linter.all false
set_option maxRecDepth 100000
set_option maxHeartbeats 1000000
namespace OS
open PySem PySem.Spec PyProof.Rows L2 O
def isNew : Ex → Bool
  | .lst _ => true
  | .comp .. => true
  | _ => false
/-- an expression of the language does what it says -/
structure Snd (F : Fs) (ir : Ex) : Prop where
  e : ∀ {Z : Zx} {c : Ck} {X : Cx} {E : XK} {a : Expr}, Cxt Z F c X E → fz ir = true → okE c ir a = true → PE X a (tM Z X.K E (ev F ir))
  o : ∀ {Z : Zx} {c : Ck} {X : Cx} {E : XK} {a : Expr}, Cxt Z F c X E → okE c ir a = true → PE X a (tO Z X.K E (ev F ir))
  t : ∀ {Z : Zx} {c : Ck} {X : Cx} {E : XK} {a : Expr}, Cxt Z F c X E → fz ir = true → okE c ir a = true → noIte a = true → PT X a (tB Z X.K E (ev F ir))
  n : ∀ {Z : Zx} {c : Ck} {X : Cx} {E : XK} {a : Expr}, Cxt Z F c X E → isNew ir = true → okE c ir a = true → PE X a (tN Z X.K E (ev F ir))
section
variable {F : Fs} {ir : Ex}
/-- from values alone -/
theorem Snd.of (hf : fz ir = true) (hp : plainT ir = true) (hn : isNew ir = false) (h : ∀ {Z : Zx} {c : Ck} {X : Cx} {E : XK} {a : Expr}, Cxt Z F c X E → okE c ir a = true → PE X a (tM Z X.K E (ev F ir))) : Snd F ir :=
  ⟨fun C _ k => h C k, fun C k => pe_oM (h C k), fun C _ k _ => pt_plain (h C k) (plain_of k hp), fun C z k => by rw [hn] at z; cases z⟩
theorem Snd.ofT (hf : fz ir = true) (hn : isNew ir = false) (h : ∀ {Z : Zx} {c : Ck} {X : Cx} {E : XK} {a : Expr}, Cxt Z F c X E → okE c ir a = true → PE X a (tM Z X.K E (ev F ir))) (ht : ∀ {Z : Zx} {c : Ck} {X : Cx} {E : XK} {a : Expr}, Cxt Z F c X E → okE c ir a = true → noIte a = true → PT X a (tB Z X.K E (ev F ir))) : Snd F ir :=
  ⟨fun C _ k => h C k, fun C k => pe_oM (h C k), fun C _ k n => ht C k n, fun C z k => by rw [hn] at z; cases z⟩
theorem Snd.ofN (hf : fz ir = true) (hp : plainT ir = true) (hl : ∀ ρ p, ev F ir ρ = .ok p → ∃ ps, p = .lst ps) (h : ∀ {Z : Zx} {c : Ck} {X : Cx} {E : XK} {a : Expr}, Cxt Z F c X E → okE c ir a = true → PE X a (tN Z X.K E (ev F ir))) : Snd F ir :=
  have h2 : ∀ {Z : Zx} {c : Ck} {X : Cx} {E : XK} {a : Expr}, Cxt Z F c X E → okE c ir a = true → PE X a (tM Z X.K E (ev F ir)) := fun C k => PE.imp (h C k) fun _ _ _ => tM_tN hl
  ⟨fun C _ k => h2 C k, fun C k => pe_oM (h2 C k), fun C _ k _ => pt_plain (h2 C k) (plain_of k hp), fun C _ k => h C k⟩
theorem band2 {x y : Bool} (h : (x && y) = true) : x = true ∧ y = true := by rw [Bool.and_eq_true] at h; exact h
theorem bnot1 {x : Bool} (h : (!x) = true) : x = false := by cases x <;> first | rfl | cases h
theorem snd_var_ (i : Nat) : Snd F (.var i) := by
  refine Snd.of rfl rfl rfl fun {Z c X E a} C h => ?_
  unfold okE at h
  split at h <;> try cases h
  all_goals first | contradiction | skip
  rename_i e; cases e
  refine PE.imp (snd_var C h) fun σ H Q ⟨ρ, M, s, q⟩ => ?_
  simp only [ev] at q
  cases e : ρ[i]? with
  | none => rw [e] at q; exact q.elim
  | some sv =>
    rw [e] at q
    cases sv with
    | v p =>
      obtain ⟨v, h1, h2⟩ := s.fv i p e
      exact ⟨v, h1, q v H (Ext.refl H) h2⟩
    | _ => exact q.elim

theorem snd_bor (i : Nat) : Snd F (.bor i) := by
  refine ⟨fun {Z c X E a} C (z : false = true) => (by cases z), fun {Z c X E a} C h => ?_, fun {Z c X E a} C (z : false = true) => (by cases z), fun {Z c X E a} C (z : false = true) => (by cases z)⟩
  unfold okE at h
  split at h <;> try cases h
  all_goals first | contradiction | skip
  rename_i e; cases e
  refine PE.imp (snd_var C h) fun σ H Q ⟨ρ, M, s, q⟩ => ?_
  simp only [ev] at q
  cases e : ρ[i]? with
  | none => rw [e] at q; exact q.elim
  | some sv =>
    rw [e] at q
    cases sv with
    | v p =>
      obtain ⟨v, h1, h2⟩ := s.fv i p e
      exact ⟨v, h1, q v H (Ext.refl H) (Vw.of s.own h2)⟩
    | ow xs =>
      obtain ⟨a, vs, h1, h2, h3, h4⟩ := s.fo i xs e
      exact ⟨_, h1, q _ H (Ext.refl H) ⟨a, vs, rfl, h3, h4⟩⟩
    | _ => exact q.elim
theorem snd_con (p : PV) : Snd F (.con p) := by
  refine Snd.of rfl rfl rfl fun {Z c X E a} C h => ?_
  unfold okE at h
  split at h <;> try cases h
  all_goals first | contradiction | skip
  rename_i e; cases e
  exact PE.imp (con_sound h) fun σ H Q ⟨ρ, M, s, q⟩ => ⟨ρ, M, s, by simpa only [ev] using q⟩
theorem snd_glob (x : String) (p : PV) : Snd F (.glob x p) := by
  refine Snd.of rfl rfl rfl fun {Z c X E a} C h => ?_
  unfold okE at h
  split at h <;> try cases h
  all_goals first | contradiction | skip
  rename_i e; cases e
  obtain ⟨h1, h2⟩ := band2 h
  obtain ⟨rfl, g, d, n⟩ := gname_ok C h1
  unfold globOk at h2
  rw [List.any_eq_true] at h2
  obtain ⟨gl, hm, h3⟩ := h2
  obtain ⟨h4, h5⟩ := band2 h3
  cases of_decide_eq_true h4
  cases same_eq h5
  obtain ⟨u, v, e1, e2, e3⟩ := C.glob gl hm
  refine PE.imp (pe_glob g e1 e2 d) fun σ H Q ⟨ρ, M, s, q⟩ => ?_
  simp only [ev] at q
  exact q v H (Ext.refl H) (e3 _)
theorem snd_tup {es : List Ex} (ih : ∀ x ∈ es, Snd F x) : Snd F (.tup es) := by
  refine Snd.of rfl rfl rfl fun {Z c X E a} C h => ?_
  unfold okE at h
  split at h <;> try cases h
  all_goals first | contradiction | skip
  rename_i e; cases e
  obtain ⟨h1, h2⟩ := band2 h
  have h2 := of_decide_eq_true h2
  refine PE.imp (pe_tupP (args_sound C h1 fun ir hm e hf ho => (ih ir hm).e C hf ho)) fun σ H Q q => tup_tM (fun ρ ps hp => by rw [evs_len hp]; exact h2) ?_
  obtain ⟨ρ, M, s, q⟩ := q
  exact ⟨ρ, M, s, by simpa only [ev] using q⟩
theorem snd_lst {es : List Ex} (ih : ∀ x ∈ es, Snd F x) : Snd F (.lst es) := by
  refine Snd.ofN rfl rfl (fun ρ p hp => ?_) fun {Z c X E a} C h => ?_
  · simp only [ev] at hp
    cases e : evs F es ρ with
    | ok ps => rw [e] at hp; cases hp; exact ⟨_, rfl⟩
    | exc k => rw [e] at hp; cases hp
    | bad => rw [e] at hp; cases hp
  unfold okE at h
  split at h <;> try cases h
  all_goals first | contradiction | skip
  rename_i e; cases e
  obtain ⟨h1, h2⟩ := band2 h
  have h2 := of_decide_eq_true h2
  refine PE.imp (pe_lst (args_sound C h1 fun ir hm e hf ho => (ih ir hm).e C hf ho)) fun σ H Q q => lst_tN (fun ρ ps hp => by rw [evs_len hp]; exact h2) ?_
  obtain ⟨ρ, M, s, q⟩ := q
  exact ⟨ρ, M, s, by simpa only [ev] using q⟩
theorem snd_bin {o : Bop} {x y : Ex} (hx : Snd F x) (hy : Snd F y) : Snd F (.bin o x y) := by
  refine Snd.of rfl rfl rfl fun {Z c X E a} C h => ?_
  unfold okE at h
  split at h <;> try cases h
  all_goals first | contradiction | skip
  rename_i e; cases e
  obtain ⟨h1, h2⟩ := band2 h
  obtain ⟨h0, h3⟩ := band2 h1
  cases of_decide_eq_true h0
  refine PE.imp (pe_op (op_bop o) (hx.o C h3) (hy.o C h2)) fun σ H Q q => bin_tM (bop_nox o) ?_
  obtain ⟨ρ, M, s, q⟩ := q
  exact ⟨ρ, M, s, by simpa only [ev] using q⟩
theorem snd_neg {x : Ex} (hx : Snd F x) : Snd F (.neg x) := by
  refine Snd.of rfl rfl rfl fun {Z c X E a} C h => ?_
  unfold okE at h
  split at h <;> try cases h
  all_goals first | contradiction | skip
  rename_i e; cases e
  refine PE.imp (pe_un un_neg (hx.o C h)) fun σ H Q q => ?_
  obtain ⟨ρ, M, s, q⟩ := q
  simp only [ev] at q
  refine ⟨ρ, M, s, ?_⟩
  cases e : ev F x ρ with
  | bad => rw [e] at q; exact q
  | exc k => rw [e] at q; exact q
  | ok p =>
    rw [e] at q
    cases p with
    | int i =>
      intro v H1 e1 w1
      exact ⟨i, w1, q _ H1 e1 rfl⟩
    | _ => exact q.elim
theorem snd_cmp {o : Cop} {x y : Ex} (hx : Snd F x) (hy : Snd F y) : Snd F (.cmp o x y) := by
  have inv : ∀ {c : Ck} {a : Expr}, okE c (.cmp o x y) a = true → ∃ l r p, a = .Compare l [astC o] [r] p ∧ okE c x l = true ∧ okE c y r = true ∧ behindInMarks (astC o) r = false := fun {c a} h => by
    unfold okE at h
    split at h <;> try cases h
    all_goals first | contradiction | skip
    rename_i e; cases e
    obtain ⟨h1, h4⟩ := band2 h
    obtain ⟨h1, h3⟩ := band2 h1
    obtain ⟨h1, h2⟩ := band2 h1
    cases of_decide_eq_true h1
    exact ⟨_, _, _, rfl, h2, h3, bnot1 h4⟩
  have rd : ∀ {Z : Zx} {X : Cx} {E : XK} {σ : L2.St} {H : Hp} {Q : VK}, tM Z X.K E (ev F (.cmp o x y)) σ H Q → tOp (rP2 Z X.K (cop o)) (tO Z X.K E (ev F x)) (tO Z X.K E (ev F y)) σ H Q := fun {Z X E σ H Q} q => bin_tM (cop_nox o) (by
    obtain ⟨ρ, M, s, q⟩ := q
    exact ⟨ρ, M, s, by simpa only [ev] using q⟩)
  refine Snd.ofT rfl rfl (fun {Z c X E a} C h => ?_) fun {Z c X E a} C h n => ?_
  · obtain ⟨l, r, p, rfl, h1, h2, h3⟩ := inv h
    exact PE.imp (pe_cmpR (op_cop (Nat.lt_of_le_of_lt (by omega) C.un) o) (hx.o C h1) (hy.o C h2) h3) fun σ H Q q => rd q
  · obtain ⟨l, r, p, rfl, h1, h2, h3⟩ := inv h
    exact pt_of (pt_cmpR (op_cop (Nat.lt_of_le_of_lt (by omega) C.un) o) (hx.o C h1) (hy.o C h2) h3) fun σ H Q q => rd q
theorem snd_chain {o1 o2 : Cop} {x y z : Ex} (hx : Snd F x) (hy : Snd F y) (hz : Snd F z) : Snd F (.chain o1 o2 x y z) := by
  have inv : ∀ {c : Ck} {a : Expr}, okE c (.chain o1 o2 x y z) a = true → ∃ l m r p, a = .Compare l [astC o1, astC o2] [m, r] p ∧ okE c x l = true ∧ okE c y m = true ∧ okE c z r = true ∧ lastMarks [astC o1, astC o2] [m, r] = false := fun {c a} h => by
    unfold okE at h
    split at h <;> try cases h
    all_goals first | contradiction | skip
    rename_i e; cases e
    obtain ⟨h1, h6⟩ := band2 h
    obtain ⟨h1, h5⟩ := band2 h1
    obtain ⟨h1, h4⟩ := band2 h1
    obtain ⟨h1, h3⟩ := band2 h1
    obtain ⟨h1, h2⟩ := band2 h1
    cases of_decide_eq_true h1
    cases of_decide_eq_true h2
    exact ⟨_, _, _, _, rfl, h3, h4, h5, bnot1 h6⟩
  have rd : ∀ {Z : Zx} {X : Cx} {E : XK} {σ : L2.St} {H : Hp} {Q : VK}, tM Z X.K E (ev F (.chain o1 o2 x y z)) σ H Q → tChain (rP2 Z X.K (cop o1)) (rP2 Z X.K (cop o2)) (tO Z X.K E (ev F x)) (tO Z X.K E (ev F y)) (tO Z X.K E (ev F z)) σ H Q := fun {Z X E σ H Q} q => chain_tM (by
    obtain ⟨ρ, M, s, q⟩ := q
    refine ⟨ρ, M, s, ?_⟩
    unfold chainP
    simp only [ev] at q
    exact q)
  refine Snd.ofT rfl rfl (fun {Z c X E a} C h => ?_) fun {Z c X E a} C h n => ?_
  · obtain ⟨l, m, r, p, rfl, h1, h2, h3, h4⟩ := inv h
    exact PE.imp (pe_chain (op_cop (Nat.lt_of_le_of_lt (by omega) C.un) o1) (op_cop (Nat.lt_of_le_of_lt (by omega) C.un) o2) (hx.o C h1) (hy.o C h2) (hz.o C h3) h4) fun σ H Q q => rd q
  · obtain ⟨l, m, r, p, rfl, h1, h2, h3, h4⟩ := inv h
    exact pt_of (pt_chain (op_cop (Nat.lt_of_le_of_lt (by omega) C.un) o1) (op_cop (Nat.lt_of_le_of_lt (by omega) C.un) o2) (hx.o C h1) (hy.o C h2) (hz.o C h3) h4) fun σ H Q q => rd q
theorem snd_isC {pos : Bool} {k : PV} {x : Ex} (hx : Snd F x) : Snd F (.isC pos k x) := by
  have inv : ∀ {c : Ck} {X : Cx} {a : Expr}, okE c (.isC pos k x) a = true → ∃ l q j p p' kv, a = .Compare l [if pos then .Is else .IsNot] [.Constant q j p] p' ∧ okE c x l = true ∧ PE X (.Constant q j p) (tC kv) ∧ ∀ (Z : Zx) (K : PySem.W.Frag) (H : Hp), Rep Z K H k kv := fun {c X a} h => by
    unfold okE at h
    split at h <;> try cases h
    all_goals first | contradiction | skip
    rename_i e; cases e
    obtain ⟨h1, h4⟩ := band2 h
    obtain ⟨h1, h3⟩ := band2 h1
    obtain ⟨h1, h2⟩ := band2 h1
    cases of_decide_eq_true h1
    unfold conOk at h4
    split at h4
    · exact ⟨_, _, _, _, _, _, rfl, h2, pe_non, fun _ _ _ => rfl⟩
    · cases of_decide_eq_true h4
      exact ⟨_, _, _, _, _, _, rfl, h2, pe_bl, fun _ _ _ => rfl⟩
    · cases h3
    · cases h3
    · cases h4
  have nb : ∀ (r : Expr), behindInMarks (if pos then CmpOp.Is else .IsNot) r = false := fun r => by
    cases pos <;> exact nomark r
  have rd : ∀ {Z : Zx} {X : Cx} {E : XK} {σ : L2.St} {H : Hp} {Q : VK} {kv : V}, (∀ H, Rep Z X.K H k kv) → tM Z X.K E (ev F (.isC pos k x)) σ H Q → tOp (rIs pos k) (tO Z X.K E (ev F x)) (tC kv) σ H Q := fun {Z X E σ H Q kv} hk q => is_tM hk (by
    obtain ⟨ρ, M, s, q⟩ := q
    refine ⟨ρ, M, s, ?_⟩
    simp only [ev] at q
    exact q)
  refine Snd.ofT rfl rfl (fun {Z c X E a} C h => ?_) fun {Z c X E a} C h n => ?_
  · obtain ⟨l, q, j, p, p', kv, rfl, h1, h2, h3⟩ := inv (X := X) h
    exact PE.imp (pe_cmpR op_isP (hx.o C h1) h2 (nb _)) fun σ H Q q => rd (h3 Z X.K) q
  · obtain ⟨l, q, j, p, p', kv, rfl, h1, h2, h3⟩ := inv (X := X) h
    exact pt_of (pt_cmpR op_isP (hx.o C h1) h2 (nb _)) fun σ H Q q => rd (h3 Z X.K) q
theorem okL_noIte {c : Ck} {e : Expr} {as : List Expr} (h : (e :: as).all noIte = true) : noIte e = true ∧ as.all noIte = true := by
  rw [List.all_cons] at h
  exact band2 h
theorem and_pe {Z : Zx} {c : Ck} {X : Cx} {E : XK} {pos : Pos} (C : Cxt Z F c X E) : ∀ {es : List Ex} {as : List Expr}, okL false c es as = true → es.isEmpty = false → (∀ x ∈ es, Snd F x) → PE X (.BoolOp .And as pos) (tM Z X.K E (evAnd F es))
  | [], as, _, z, _ => by cases z
  | [e], as, h, _, ih => by
    match as, h with
    | [a], h =>
      obtain ⟨h0, h1, _⟩ := okL_cons h
      refine PE.imp (pe_one ((ih e (by simp)).e C h0 h1)) fun σ H Q ⟨ρ, M, s, q⟩ => ⟨ρ, M, s, ?_⟩
      simp only [evAnd] at q
      cases ee : ev F e ρ with
      | bad => rw [ee] at q; exact q
      | exc k => rw [ee] at q; exact q
      | ok p =>
        rw [ee] at q
        cases p with
        | bl b =>
          simp only [R.bind_ok, asBl] at q
          cases b <;> exact q
        | _ => exact q.elim
    | [], h => have := okL_shape h; simp at this
    | _ :: _ :: _, h => have := okL_shape h; simp at this
  | e :: e2 :: es, as, h, _, ih => by
    match as, h with
    | a :: b :: as, h =>
      obtain ⟨h0, h1, h2⟩ := okL_cons h
      refine PE.imp (pe_and ((ih e (by simp)).e C h0 h1) (and_pe C h2 rfl fun x hx => ih x (List.mem_cons_of_mem _ hx))) fun σ H Q ⟨ρ, M, s, q⟩ => and_tM ⟨ρ, M, s, ?_⟩
      rw [evAnd] at q
      exact q
    | [], h => have := okL_shape h; simp at this
    | [_], h => have := okL_shape h; simp at this
theorem and_pw {Z : Zx} {c : Ck} {X : Cx} {E : XK} {pos : Pos} (C : Cxt Z F c X E) : ∀ {es : List Ex} {as : List Expr}, okL false c es as = true → as.all noIte = true → es.isEmpty = false → (∀ x ∈ es, Snd F x) → PW X (.BoolOp .And as pos) (tB Z X.K E (evAnd F es))
  | [], as, _, _, z, _ => by cases z
  | [e], as, h, n, _, ih => by
    match as, h, n with
    | [a], h, n =>
      obtain ⟨h0, h1, _⟩ := okL_cons h
      refine PW.imp (pw_and1 ((ih e (by simp)).t C h0 h1 (okL_noIte (c := c) n).1)) fun σ H Q ⟨ρ, M, s, q⟩ => ⟨ρ, M, s, ?_⟩
      simp only [evAnd] at q
      cases ee : ev F e ρ with
      | bad => rw [ee] at q; exact q
      | exc k => rw [ee] at q; exact q
      | ok p =>
        rw [ee] at q
        cases p with
        | bl b =>
          simp only [R.bind_ok, asBl] at q
          cases b <;> exact q
        | _ => exact q.elim
    | [], h, _ => have := okL_shape h; simp at this
    | _ :: _ :: _, h, _ => have := okL_shape h; simp at this
  | e :: e2 :: es, as, h, n, _, ih => by
    match as, h, n with
    | a :: b :: as, h, n =>
      obtain ⟨h0, h1, h2⟩ := okL_cons h
      refine PW.imp (pw_and ((ih e (by simp)).t C h0 h1 (okL_noIte (c := c) n).1) (and_pw C h2 (okL_noIte (c := c) n).2 rfl fun x hx => ih x (List.mem_cons_of_mem _ hx))) fun σ H Q ⟨ρ, M, s, q⟩ => and_tB ⟨ρ, M, s, ?_⟩
      rw [evAnd] at q
      exact q
    | [], h, _ => have := okL_shape h; simp at this
    | [_], h, _ => have := okL_shape h; simp at this
theorem or_pe {Z : Zx} {c : Ck} {X : Cx} {E : XK} {pos : Pos} (C : Cxt Z F c X E) : ∀ {es : List Ex} {as : List Expr}, okL false c es as = true → es.isEmpty = false → (∀ x ∈ es, Snd F x) → PE X (.BoolOp .Or as pos) (tM Z X.K E (evOr F es))
  | [], as, _, z, _ => by cases z
  | [e], as, h, _, ih => by
    match as, h with
    | [a], h =>
      obtain ⟨h0, h1, _⟩ := okL_cons h
      refine PE.imp (pe_one ((ih e (by simp)).e C h0 h1)) fun σ H Q ⟨ρ, M, s, q⟩ => ⟨ρ, M, s, ?_⟩
      simp only [evOr] at q
      cases ee : ev F e ρ with
      | bad => rw [ee] at q; exact q
      | exc k => rw [ee] at q; exact q
      | ok p =>
        rw [ee] at q
        cases p with
        | bl b =>
          simp only [R.bind_ok, asBl] at q
          cases b <;> exact q
        | _ => exact q.elim
    | [], h => have := okL_shape h; simp at this
    | _ :: _ :: _, h => have := okL_shape h; simp at this
  | e :: e2 :: es, as, h, _, ih => by
    match as, h with
    | a :: b :: as, h =>
      obtain ⟨h0, h1, h2⟩ := okL_cons h
      refine PE.imp (pe_or ((ih e (by simp)).e C h0 h1) (or_pe C h2 rfl fun x hx => ih x (List.mem_cons_of_mem _ hx))) fun σ H Q ⟨ρ, M, s, q⟩ => or_tM ⟨ρ, M, s, ?_⟩
      rw [evOr] at q
      exact q
    | [], h => have := okL_shape h; simp at this
    | [_], h => have := okL_shape h; simp at this
theorem or_pw {Z : Zx} {c : Ck} {X : Cx} {E : XK} {pos : Pos} (C : Cxt Z F c X E) : ∀ {es : List Ex} {as : List Expr}, okL false c es as = true → as.all noIte = true → es.isEmpty = false → (∀ x ∈ es, Snd F x) → PW X (.BoolOp .Or as pos) (tB Z X.K E (evOr F es))
  | [], as, _, _, z, _ => by cases z
  | [e], as, h, n, _, ih => by
    match as, h, n with
    | [a], h, n =>
      obtain ⟨h0, h1, _⟩ := okL_cons h
      refine PW.imp (pw_or1 ((ih e (by simp)).t C h0 h1 (okL_noIte (c := c) n).1)) fun σ H Q ⟨ρ, M, s, q⟩ => ⟨ρ, M, s, ?_⟩
      simp only [evOr] at q
      cases ee : ev F e ρ with
      | bad => rw [ee] at q; exact q
      | exc k => rw [ee] at q; exact q
      | ok p =>
        rw [ee] at q
        cases p with
        | bl b =>
          simp only [R.bind_ok, asBl] at q
          cases b <;> exact q
        | _ => exact q.elim
    | [], h, _ => have := okL_shape h; simp at this
    | _ :: _ :: _, h, _ => have := okL_shape h; simp at this
  | e :: e2 :: es, as, h, n, _, ih => by
    match as, h, n with
    | a :: b :: as, h, n =>
      obtain ⟨h0, h1, h2⟩ := okL_cons h
      refine PW.imp (pw_or ((ih e (by simp)).t C h0 h1 (okL_noIte (c := c) n).1) (or_pw C h2 (okL_noIte (c := c) n).2 rfl fun x hx => ih x (List.mem_cons_of_mem _ hx))) fun σ H Q ⟨ρ, M, s, q⟩ => or_tB ⟨ρ, M, s, ?_⟩
      rw [evOr] at q
      exact q
    | [], h, _ => have := okL_shape h; simp at this
    | [_], h, _ => have := okL_shape h; simp at this
theorem snd_band {es : List Ex} (ih : ∀ x ∈ es, Snd F x) : Snd F (.band es) := by
  have inv : ∀ {c : Ck} {a : Expr}, okE c (.band es) a = true → ∃ as p, a = .BoolOp .And as p ∧ okL false c es as = true ∧ es.isEmpty = false ∧ as.all noIte = true := fun {c a} h => by
    unfold okE at h
    split at h <;> try cases h
    all_goals first | contradiction | skip
    rename_i e; cases e
    obtain ⟨h1, h3⟩ := band2 h
    obtain ⟨h1, h2⟩ := band2 h1
    exact ⟨_, _, rfl, h1, bnot1 h2, h3⟩
  refine Snd.ofT rfl rfl (fun {Z c X E a} C h => ?_) fun {Z c X E a} C h n => ?_
  · obtain ⟨as, p, rfl, h1, h2, h3⟩ := inv h
    exact PE.imp (and_pe C h1 h2 ih) fun σ H Q ⟨ρ, M, s, q⟩ => ⟨ρ, M, s, by simpa only [ev] using q⟩
  · obtain ⟨as, p, rfl, h1, h2, h3⟩ := inv h
    exact PT.imp (and_pw C h1 h3 h2 ih).pt fun σ H Q ⟨ρ, M, s, q⟩ => ⟨ρ, M, s, by simpa only [ev] using q⟩
theorem snd_bor_ {es : List Ex} (ih : ∀ x ∈ es, Snd F x) : Snd F (.bor_ es) := by
  have inv : ∀ {c : Ck} {a : Expr}, okE c (.bor_ es) a = true → ∃ as p, a = .BoolOp .Or as p ∧ okL false c es as = true ∧ es.isEmpty = false ∧ as.all noIte = true := fun {c a} h => by
    unfold okE at h
    split at h <;> try cases h
    all_goals first | contradiction | skip
    rename_i e; cases e
    obtain ⟨h1, h3⟩ := band2 h
    obtain ⟨h1, h2⟩ := band2 h1
    exact ⟨_, _, rfl, h1, bnot1 h2, h3⟩
  refine Snd.ofT rfl rfl (fun {Z c X E a} C h => ?_) fun {Z c X E a} C h n => ?_
  · obtain ⟨as, p, rfl, h1, h2, h3⟩ := inv h
    exact PE.imp (or_pe C h1 h2 ih) fun σ H Q ⟨ρ, M, s, q⟩ => ⟨ρ, M, s, by simpa only [ev] using q⟩
  · obtain ⟨as, p, rfl, h1, h2, h3⟩ := inv h
    exact PT.imp (or_pw C h1 h3 h2 ih).pt fun σ H Q ⟨ρ, M, s, q⟩ => ⟨ρ, M, s, by simpa only [ev] using q⟩
theorem snd_not {x : Ex} (hx : Snd F x) : Snd F (.not x) := by
  have inv : ∀ {c : Ck} {a : Expr}, okE c (.not x) a = true → ∃ e p, a = .UnaryOp .Not e p ∧ fz x = true ∧ okE c x e = true ∧ noIte e = true := fun {c a} h => by
    unfold okE at h
    split at h <;> try cases h
    all_goals first | contradiction | skip
    rename_i e; cases e
    obtain ⟨h1, h3⟩ := band2 h
    obtain ⟨h1, h2⟩ := band2 h1
    exact ⟨_, _, rfl, h1, h2, h3⟩
  refine Snd.ofT rfl rfl (fun {Z c X E a} C h => ?_) fun {Z c X E a} C h n => ?_
  · obtain ⟨e, p, rfl, h1, h2, h3⟩ := inv h
    refine PE.imp (pe_not (hx.e C h1 h2)) fun σ H Q q => not_tM ?_
    obtain ⟨ρ, M, s, q⟩ := q
    exact ⟨ρ, M, s, by simpa only [ev] using q⟩
  · obtain ⟨e, p, rfl, h1, h2, h3⟩ := inv h
    refine PT.imp (pt_not (hx.t C h1 h2 h3)) fun σ H Q q => not_tB ?_
    obtain ⟨ρ, M, s, q⟩ := q
    exact ⟨ρ, M, s, by simpa only [ev] using q⟩
theorem snd_ite {t x y : Ex} (ht : Snd F t) (hx : Snd F x) (hy : Snd F y) : Snd F (.ite t x y) := by
  have inv : ∀ {c : Ck} {a : Expr}, okE c (.ite t x y) a = true → ∃ e1 e2 e3 p, a = .IfExp e1 e2 e3 p ∧ fz t = true ∧ okE c t e1 = true ∧ noIte e1 = true ∧ fz x = true ∧ okE c x e2 = true ∧ fz y = true ∧ okE c y e3 = true := fun {c a} h => by
    unfold okE at h
    split at h <;> try cases h
    all_goals first | contradiction | skip
    rename_i e; cases e
    obtain ⟨h1, h4⟩ := band2 h
    obtain ⟨h1, h3⟩ := band2 h1
    obtain ⟨h1, h2⟩ := band2 h1
    exact ⟨_, _, _, _, rfl, (band2 h1).1, (band2 h1).2, h2, (band2 h3).1, (band2 h3).2, (band2 h4).1, (band2 h4).2⟩
  refine Snd.ofT rfl rfl (fun {Z c X E a} C h => ?_) fun {Z c X E a} C h n => ?_
  · obtain ⟨e1, e2, e3, p, rfl, h1, h2, h3, h4, h5, h6, h7⟩ := inv h
    refine PE.imp (pe_ifExp (ht.t C h1 h2 h3) (hx.e C h4 h5) (hy.e C h6 h7)) fun σ H Q q => ite_tM ?_
    obtain ⟨ρ, M, s, q⟩ := q
    exact ⟨ρ, M, s, by simpa only [ev] using q⟩
  · obtain ⟨e1, e2, e3, p, rfl, _⟩ := inv h
    cases n
theorem snd_idx {x y : Ex} (hx : Snd F x) (hy : Snd F y) : Snd F (.idx x y) := by
  refine Snd.of rfl rfl rfl fun {Z c X E a} C h => ?_
  unfold okE at h
  split at h <;> try cases h
  all_goals first | contradiction | skip
  rename_i e; cases e
  obtain ⟨h1, h3⟩ := band2 h
  obtain ⟨h1, h2⟩ := band2 h1
  refine PE.imp (pe_ix ix_idx (hx.o C h1) (hy.o C h2) (plainIx h3)) fun σ H Q q => bin_tM idx_nox ?_
  obtain ⟨ρ, M, s, q⟩ := q
  exact ⟨ρ, M, s, by simpa only [ev] using q⟩
theorem snd_cut {x : Ex} {lo hi : Option Ex} (hx : Snd F x) (hl : ∀ y, lo = some y → Snd F y) (hh : ∀ y, hi = some y → Snd F y) : Snd F (.cut x lo hi) := by
  refine Snd.of rfl rfl rfl fun {Z c X E a} C h => ?_
  unfold okE at h
  split at h <;> try cases h
  all_goals first | contradiction | skip
  rename_i e; cases e
  obtain ⟨h1, h3⟩ := band2 h
  obtain ⟨h1, h2⟩ := band2 h1
  refine PE.imp (pe_slice (sl_cut (Z := Z)) (hx.o C h1) (po_sound h2 fun y e a ha => (hl y e).o C ha) (po_sound h3 fun y e a ha => (hh y e).o C ha)) fun σ H Q q => ?_
  obtain ⟨ρ, M, s, q⟩ := q
  simp only [ev] at q
  refine ⟨ρ, M, s, ?_⟩
  cases ea : ev F x ρ with
  | bad => rw [ea] at q; exact q
  | exc k => rw [ea] at q; exact q
  | ok p =>
    rw [ea] at q
    simp only [R.bind_ok] at q
    intro v H1 e1 w1
    refine ⟨ρ, M, s.go e1, ?_⟩
    cases el : evo F lo ρ with
    | bad => rw [el] at q; exact q
    | exc k => rw [el] at q; exact fun H2 e2 => q H2 ((e1.Hm s.own).trans e2)
    | ok l =>
      rw [el] at q
      simp only [R.bind_ok] at q
      intro H2 e2
      refine ⟨ρ, M, s.go (e1.trans e2), ?_⟩
      cases eh : evo F hi ρ with
      | bad => rw [eh] at q; exact q
      | exc k => rw [eh] at q; exact fun H3 e3 => q H3 (((e1.trans e2).Hm s.own).trans e3)
      | ok u =>
        rw [eh] at q
        simp only [R.bind_ok] at q
        intro H3 e3
        cases er : cut p l u with
        | bad => rw [er] at q; exact q.elim
        | exc k => exact (cut_nox er).elim
        | ok r =>
          rw [er] at q
          have o1 := s.own.go e1
          exact ⟨M, p, r, o1.go (e2.trans e3), w1.go o1 (e2.trans e3), er, fun v' H4 e4 w4 => q v' H4 ((e1.trans (e2.trans e3)).trans e4) w4⟩
theorem snd_rev {x : Ex} (hx : Snd F x) : Snd F (.rev x) := by
  refine Snd.of rfl rfl rfl fun {Z c X E a} C h => ?_
  unfold okE at h
  split at h <;> try cases h
  all_goals first | contradiction | skip
  rename_i e; cases e
  obtain ⟨h1, h2⟩ := band2 h
  have h1 := of_decide_eq_true h1
  subst h1
  refine PE.imp (pe_rev (hx.o C h2)) fun σ H Q q => ?_
  obtain ⟨ρ, M, s, q⟩ := q
  simp only [ev] at q
  refine ⟨ρ, M, s, ?_⟩
  cases ea : ev F x ρ with
  | bad => rw [ea] at q; exact q
  | exc k => rw [ea] at q; exact q
  | ok p =>
    rw [ea] at q
    simp only [R.bind_ok] at q
    intro v H1 e1 w1
    cases p with
    | tup xs =>
      obtain ⟨a, vs, rfl, h1, h2⟩ := w1
      refine .inr ⟨a, vs, rfl, sqT_up (s.own.go e1) h1, fun p ob hp hd => ?_⟩
      exact q _ _ (e1.trans (Ext.new hp)) ⟨p, _, rfl, SqQ.of (Hm.of upd_same ((s.own.go e1).new hp)) hd, RepL.reverse (RepL.go (T := Z.T) ((Ext.new hp).Hm (s.own.go e1)) h2)⟩
    | lst xs =>
      obtain ⟨a, vs, rfl, h1, h2⟩ := w1
      refine .inl ⟨a, vs, rfl, SqL.of h1, fun p hp => ?_⟩
      exact q _ _ (e1.trans (Ext.new hp)) ⟨p, _, rfl, Hm.of upd_same ((s.own.go e1).new hp), RepL.reverse (RepL.go (T := Z.T) ((Ext.new hp).Hm (s.own.go e1)) h2)⟩
    | _ => exact q.elim
theorem snd_call {k : Nat} {es : List Ex} (ih : ∀ x ∈ es, Snd F x) : Snd F (.call k es) := by
  refine Snd.of rfl rfl rfl fun {Z c X E a} C h => ?_
  unfold okE at h
  split at h <;> try cases h
  all_goals first | contradiction | skip
  rename_i e; cases e
  rename_i x p as pos
  obtain ⟨h1, h2⟩ := band2 h
  unfold fnOk at h1
  obtain ⟨h1, hp⟩ := band2 h1
  obtain ⟨h1, hg⟩ := band2 h1
  obtain ⟨h1, hf⟩ := band2 h1
  have hin := of_decide_eq_true h1
  cases ef : fnAt c.fns k with
  | none => rw [ef] at hf; cases hf
  | some f =>
    rw [ef] at hf
    obtain ⟨hf1, hf2⟩ := band2 hf
    cases of_decide_eq_true hf1
    have har := of_decide_eq_true hf2
    have CO := C.call k hin f ef
    have hA := args_sound C h2 fun ir hm e hf ho => (ih ir hm).e C hf ho
    refine ⟨fun pins s σ H Q I q => ?_⟩
    obtain ⟨ρ, M, sr, q⟩ := q
    have tl : tL Z X.K E (evs F es) σ H fun vs H1 => ∃ ps, Own H1 M ∧ LamX.Tabs Z.T H1 ∧ RepL Z X.K (Hm H1 M) ps vs ∧ vs.length = f.ar ∧ Pk Z X.K E M H1 Q (F k ps) := by
      refine ⟨ρ, M, sr, ?_⟩
      simp only [ev] at q
      cases ee : evs F es ρ with
      | bad => rw [ee] at q; exact q
      | exc k => rw [ee] at q; exact q
      | ok ps =>
        rw [ee] at q
        simp only [R.bind_ok] at q
        intro vs H1 e1 w1
        exact ⟨ps, sr.own.go e1, e1.tabs sr.tabs, w1, by rw [← w1.length, evs_len ee, har], Pk.go sr.own e1 q⟩
    obtain ⟨g, fd, pn, lvl, G, hroom, hm, hk, hb, hfad, hw⟩ := id CO
    refine wpAny_Call_Name_kw (ld_glob I (gl_of C hg) hm ?_ (plainN_ok hp).1)
    have fin : ∀ {s1 : Shared} {vs : List V} {us : List Value} {H1 : Hp}, Inv X pins σ H1 s1 → Vals vs us → (∃ ps, Own H1 M ∧ LamX.Tabs Z.T H1 ∧ RepL Z X.K (Hm H1 M) ps vs ∧ vs.length = f.ar ∧ Pk Z X.K E M H1 Q (F k ps)) → wpAny (model X.prog X.w) X.A (call (.ref g) us) (EP X pins σ Q) X.xe s1 := fun {s1 vs us H1} I1 r ⟨ps, ow, tb, hr, hl, hq⟩ => by
      rw [← hfad]
      exact run_call CO C.pass I1 ow tb r hl hr (pf_of (X := X) ow hq fun w p hp => hw w ps p hp)
    cases as with
    | nil =>
      cases es with
      | cons e es => have := okL_shape h2; simp at this
      | nil =>
        obtain ⟨ρ', M', sr', tl⟩ := tl
        simp only [evs] at tl
        have tl := tl [] H (Ext.refl H) rfl
        exact PySem.W.callWith_K0 I.kIn hk (fin I .nil tl)
    | cons a as =>
      cases es with
      | nil => have := okL_shape h2; simp at this
      | cons e es =>
        obtain ⟨_, ha1, ha2⟩ := okL_cons h2
        refine PySem.W.callWith_K (h₀ := X.base) I.ok.mod.kin hk (thn (hA.run pos pins s σ H _ I tl) fun us s1 ⟨vs, H1, I1, r, q⟩ => ⟨I1.kIn, fin I1 r q⟩) (star_of ha1 _ _) (stars_of ha2)

/-- a def as a value -/
theorem snd_fnC {k : Nat} : Snd F (.fnC k) := by
  refine Snd.of rfl rfl rfl fun {Z c X E a} C h => ?_
  unfold okE at h
  split at h <;> try cases h
  all_goals first | contradiction | skip
  rename_i e; cases e
  unfold fnNm at h
  obtain ⟨h, hp⟩ := band2 h
  obtain ⟨h, hg⟩ := band2 h
  obtain ⟨h1, hf⟩ := band2 h
  have hin := of_decide_eq_true h1
  cases ef : fnAt c.fns k with
  | none => rw [ef] at hf; cases hf
  | some f =>
    rw [ef] at hf
    cases of_decide_eq_true hf
    obtain ⟨g, fd, pn, lvl, G, hroom, hm, hk, hb, hfad, hw⟩ := C.call k hin f ef
    refine PE.imp (pe_glob (v := .ref g) (gl_of C hg) hm rfl (plainN_ok hp).1) fun σ H Q q => ?_
    obtain ⟨ρ, M, s, q⟩ := q
    simp only [ev] at q
    exact q _ H (Ext.refl H) (by rw [← hfad]; rfl)
theorem fns_val {c : Ck} {n : Nat} {f : Ex} {ρ : O.St} {p : PV} (h : fnsOnly c n f = true) (e : ev F f ρ = .ok p) : ∃ k g, p = .fn k ∧ k ∈ c.calls ∧ fnAt c.fns k = some g ∧ g.ar = n := by
  unfold fnsOnly at h
  split at h
  · rename_i fs i
    have go : ∀ (fs : List Ex) (ps : List PV), (fs.all fun f => (match f with | .fnC k => decide (k ∈ c.calls) && (match fnAt c.fns k with | some f => decide (f.ar = n) | none => false) | _ => false)) = true → evs F fs ρ = .ok ps → ∀ p ∈ ps, ∃ k g, p = .fn k ∧ k ∈ c.calls ∧ fnAt c.fns k = some g ∧ g.ar = n := by
      intro fs
      induction fs with
      | nil => intro ps _ e; simp only [evs] at e; cases e; intro p hp; cases hp
      | cons f fs ih =>
        intro ps h e
        rw [List.all_cons] at h
        obtain ⟨h1, h2⟩ := band2 h
        cases f with
        | fnC k =>
          simp only [evs, ev, R.bind_ok] at e
          cases e2 : evs F fs ρ with
          | ok qs =>
            rw [e2] at e
            simp only [R.bind_ok] at e
            cases e
            obtain ⟨h3, h4⟩ := band2 h1
            intro p hp
            rcases List.mem_cons.mp hp with rfl | hp
            · cases ef : fnAt c.fns k with
              | none => rw [ef] at h4; cases h4
              | some g => rw [ef] at h4; exact ⟨k, g, rfl, of_decide_eq_true h3, ef, of_decide_eq_true h4⟩
            · exact ih qs h2 e2 p hp
          | exc k => rw [e2] at e; cases e
          | bad => rw [e2] at e; cases e
        | _ => cases h1
    simp only [ev] at e
    cases e2 : evs F fs ρ with
    | exc k => rw [e2] at e; cases e
    | bad => rw [e2] at e; cases e
    | ok ps =>
      rw [e2] at e
      simp only [R.bind_ok] at e
      cases e3 : ev F i ρ with
      | exc k => rw [e3] at e; cases e
      | bad => rw [e3] at e; cases e
      | ok q =>
        rw [e3] at e
        simp only [R.bind_ok] at e
        cases q with
        | int j =>
          have e : (match O.atI ps j with | some p => R.ok p | none => .bad) = .ok p := e
          cases e4 : O.atI ps j with
          | none => rw [e4] at e; cases e
          | some p' =>
            rw [e4] at e
            cases e
            refine go fs ps h e2 _ ?_
            unfold O.atI at e4
            cases e5 : O.ixN ps.length j with
            | none => rw [e5] at e4; cases e4
            | some m => rw [e5] at e4; exact List.mem_of_getElem? e4
        | _ => cases e
  · cases h
theorem eval_callS {v s : Expr} {p pos : Pos} {args : List Expr} {env : Env} : eval (.Call (.Subscript v s p) args [] pos) env = (do
    callWith pos (← eval (.Subscript v s p) env) [] (backTo pos (starEach args env)) (backToKw pos (keywordEach [] env))) := rfl
theorem snd_callV {f : Ex} {es : List Ex} (hf : Snd F f) (ih : ∀ x ∈ es, Snd F x) : Snd F (.callV f es) := by
  refine Snd.of rfl rfl rfl fun {Z c X E a} C h => ?_
  unfold okE at h
  split at h <;> try cases h
  all_goals first | contradiction | skip
  rename_i e; cases e
  rename_i v sl p as pos
  obtain ⟨h, h4⟩ := band2 h
  obtain ⟨h, h3⟩ := band2 h
  obtain ⟨h1, h2⟩ := band2 h
  have hfz : fz f = true := by
    unfold fnsOnly at h2
    split at h2
    · rfl
    · cases h2
  have hF := hf.e C hfz h1
  have hA := args_sound C h3 fun ir hm e hf ho => (ih ir hm).e C hf ho
  refine ⟨fun pins s σ H Q I q => ?_⟩
  obtain ⟨ρ, M, sr, q⟩ := q
  simp only [ev] at q
  rw [eval_callS]
  refine wpAny_bind (thn (hF.run pins s σ H (fun v H1 => Ext Z.T H H1 ∧ ∃ k g, v = .ref (Z.fad k) ∧ k ∈ c.calls ∧ fnAt c.fns k = some g ∧ g.ar = es.length ∧ Pk Z X.K E M H1 Q ((evs F es ρ).bind fun ps => F k ps)) I ⟨ρ, M, sr, ?_⟩) fun u s1 ⟨v, H1, I1, r1, e1, k, g, ev, hin, hg, har, q1⟩ => ?_)
  · cases ef : ev F f ρ with
    | bad => rw [ef] at q; exact q
    | exc k => rw [ef] at q; exact q
    | ok p =>
      rw [ef] at q
      obtain ⟨k, g, rfl, g1, g2, g3⟩ := fns_val h2 ef
      simp only [R.bind_ok] at q
      intro v H1 e1 hv
      exact ⟨e1, k, g, hv, g1, g2, g3, Pk.go sr.own e1 q⟩
  · subst ev
    cases r1
    have CO := C.call k hin g hg
    have sr1 := sr.go e1
    have tl : tL Z X.K E (evs F es) σ H1 fun vs H2 => ∃ ps, Own H2 M ∧ LamX.Tabs Z.T H2 ∧ RepL Z X.K (Hm H2 M) ps vs ∧ vs.length = g.ar ∧ Pk Z X.K E M H2 Q (F k ps) := by
      refine ⟨ρ, M, sr1, ?_⟩
      cases ee : evs F es ρ with
      | bad => rw [ee] at q1; exact q1
      | exc k => rw [ee] at q1; exact q1
      | ok ps =>
        rw [ee] at q1
        simp only [R.bind_ok] at q1
        intro vs H2 e2 w2
        exact ⟨ps, sr1.own.go e2, e2.tabs sr1.tabs, w2, by rw [← w2.length, evs_len ee, har], Pk.go sr1.own e2 q1⟩
    obtain ⟨g', fd, pn, lvl, G, hroom, hm, hk, hb, hfad, hw⟩ := id CO
    have fin : ∀ {s2 : Shared} {vs : List V} {us : List Value} {H2 : Hp}, Inv X pins σ H2 s2 → Vals vs us → (∃ ps, Own H2 M ∧ LamX.Tabs Z.T H2 ∧ RepL Z X.K (Hm H2 M) ps vs ∧ vs.length = g.ar ∧ Pk Z X.K E M H2 Q (F k ps)) → wpAny (model X.prog X.w) X.A (call (.ref (Z.fad k)) us) (EP X pins σ Q) X.xe s2 := fun {s2 vs us H2} I2 r ⟨ps, ow, tb, hr, hl, hq⟩ =>
      run_call CO C.pass I2 ow tb r hl hr (pf_of (X := X) ow hq fun w p hp => hw w ps p hp)
    cases as with
    | nil =>
      cases es with
      | cons e es => have := okL_shape h3; simp at this
      | nil => cases h4
    | cons a as =>
      cases es with
      | nil => cases h4
      | cons e es =>
        obtain ⟨_, ha1, ha2⟩ := okL_cons h3
        refine PySem.W.callWith_K (h₀ := X.base) I.ok.mod.kin (by rw [hfad]; exact hk) (thn (hA.run pos pins s1 σ H1 _ I1 tl) fun us s2 ⟨vs, H2, I2, r, q⟩ => ⟨I2.kIn, fin I2 r q⟩) (star_of ha1 _ _) (stars_of ha2)
/-- isinstance(e, X), e the exception in hand -/
theorem snd_isX {i k : Nat} : Snd F (.isX i k) := by
  refine Snd.of rfl rfl rfl fun {Z c X E a} C h => ?_
  unfold okE at h
  split at h <;> try cases h
  all_goals first | contradiction | skip
  rename_i e; cases e
  rename_i y py x px z pz pos
  obtain ⟨h, h3⟩ := band2 h
  obtain ⟨h1, h2⟩ := band2 h
  obtain ⟨rfl, gx, dx, nx⟩ := gname_ok C h1
  unfold excOk at h3
  obtain ⟨h3, hp⟩ := band2 h3
  obtain ⟨h3, hg⟩ := band2 h3
  refine ⟨fun pins s σ H Q I q => ?_⟩
  obtain ⟨ρ, M, sr, q⟩ := q
  simp only [ev] at q
  cases ei : ρ[i]? with
  | none => rw [ei] at q; exact q.elim
  | some sv =>
    rw [ei] at q
    cases sv with
    | v p =>
      cases p with
      | exc j =>
        obtain ⟨u, u1, a, u2, u3⟩ := sr.fv i _ ei
        subst u2
        obtain ⟨cr, _, hx⟩ := C.isx a j u3
        cases ex : excAt c.excs k with
        | none => rw [ex] at h3; cases h3
        | some yy =>
          rw [ex] at h3
          cases of_decide_eq_true h3
          obtain ⟨hm, hk⟩ := hx k yy ex
          have hc : PE X (.Name (Str.ofString yy) pz) (tC (.ref (Z.cad k))) := pe_glob (gl_of C hg) hm rfl (plainN_ok hp).1
          refine (pe_callB cr gx (mg_free C (x := "isinstance") (by decide)) rfl (pa_cons (snd_var C h2) (pa_cons hc pa_nil rfl) rfl) nx dx rfl rfl).run pins s σ H Q I ?_
          refine ⟨.ref a, u1, .ref (Z.cad k), .ref (Z.cad k), subX j k, rfl, fun u h => by cases h; rfl, hk, ?_⟩
          exact q _ H (Ext.refl H) rfl
      | _ => exact q.elim
    | _ => exact q.elim
/-- isinstance(e, ValueError), e the exception in hand -/
theorem snd_isV {i : Nat} : Snd F (.isV i) := by
  refine Snd.of rfl rfl rfl fun {Z c X E a} C h => ?_
  unfold okE at h
  split at h <;> try cases h
  all_goals first | contradiction | skip
  rename_i e; cases e
  rename_i y py x px z pz pos
  obtain ⟨h, h3⟩ := band2 h
  obtain ⟨h1, h2⟩ := band2 h
  obtain ⟨rfl, gx, dx, nx⟩ := gname_ok C h1
  obtain ⟨rfl, gz, dz, nz⟩ := gname_ok C h3
  refine ⟨fun pins s σ H Q I q => ?_⟩
  obtain ⟨ρ, M, sr, q⟩ := q
  simp only [ev] at q
  cases ei : ρ[i]? with
  | none => rw [ei] at q; exact q.elim
  | some sv =>
    rw [ei] at q
    cases sv with
    | v p =>
      cases p with
      | exc j =>
        obtain ⟨u, u1, a, u2, u3⟩ := sr.fv i _ ei
        subst u2
        obtain ⟨cr, hv, hx⟩ := C.isx a j u3
        have hc : PE X (.Name (Str.ofString "ValueError") pz) (tC (.ty "ValueError")) := pe_bltn gz (mg_free C (x := "ValueError") (by decide)) rfl rfl nz dz
        refine (pe_callB cr gx (mg_free C (x := "isinstance") (by decide)) rfl (pa_cons (snd_var C h2) (pa_cons hc pa_nil rfl) rfl) nx dx rfl rfl).run pins s σ H Q I ?_
        refine ⟨.ref a, u1, .ty "ValueError", .type "ValueError", true, rfl, fun u h => by cases h; rfl, hv, ?_⟩
        exact q _ H (Ext.refl H) rfl
      | _ => exact q.elim
    | _ => exact q.elim
end
end OS

end

section
set_option Elab.async false
set_option linter.all false
set_option maxRecDepth 100000
set_option maxHeartbeats 1000000
namespace OS
open PySem PySem.Spec PyProof.Rows L2 O
section
variable {F : Fs} {ir : Ex}
theorem snd_lam {k : Nat} {is : List Nat} : Snd F (.lam k is) := by
  refine Snd.of rfl rfl rfl fun {Z c X E a} C h => ?_
  unfold okE at h
  split at h <;> try cases h
  all_goals first | contradiction | skip
  rename_i e; cases e
  obtain ⟨h1, h2⟩ := band2 h
  exact pe_lamK C h1 h2
theorem slot_pe {Z : Zx} {c : Ck} {X : Cx} {E : XK} (C : Cxt Z F c X E) {i : Nat} {y : Str} {p : Pos} (hy : slotOk c i y = true) : PE X (.Name y p) (tVar i) := by
  unfold slotOk at hy
  rw [Bool.and_eq_true, Bool.and_eq_true, decide_eq_true_eq] at hy
  obtain ⟨⟨y1, y2⟩, y3⟩ := hy
  refine pe_var (by rw [C.N]; exact y1) ?_ (plainN_ok y3).1 (plainN_ok y3).2.1
  rw [C.sc]
  exact vis_ok y2
/-- a closure in a slot is called -/
theorem snd_callC {i : Nat} : Snd F (.callC i) := by
  refine Snd.of rfl rfl rfl fun {Z c X E a} C h => ?_
  unfold okE at h
  split at h <;> try cases h
  all_goals first | contradiction | skip
  rename_i e; cases e
  rename_i x p pos
  obtain ⟨h1, h2⟩ := band2 h
  have hv : PE X (.Name x p) (tVar i) := slot_pe C h2
  refine ⟨fun pins s σ H Q I q => ?_⟩
  obtain ⟨ρ, M, sr, q⟩ := q
  simp only [ev] at q
  cases e : ρ[i]? with
  | none => rw [e] at q; exact q.elim
  | some sv =>
    rw [e] at q
    cases sv with
    | v pv =>
      cases pv with
      | clo k ps =>
        obtain ⟨v, s1, r1⟩ := sr.fv i _ e
        obtain ⟨f, vs, rfl, _⟩ := id r1
        refine wpAny_Call_Name_kw (thn (hv.run pins s σ H (fun v' H1 => v' = .ref f ∧ H1 = H) I ⟨.ref f, s1, rfl, rfl⟩) fun u s2 ⟨v', H1, I1, rv, q1⟩ => ?_)
        obtain ⟨ev', eH⟩ := q1
        subst ev'
        rw [eH] at I1
        obtain rfl : u = Value.ref f := rv
        obtain ⟨⟨_, _, _, _, _, _, _, _, fo⟩, w⟩ := run_clo (C.clo h1) C.pass I1 sr.own sr.tabs r1 q
        exact PySem.W.callWith_F0 ⟨_, _, _, _, fo⟩ w
      | _ => exact q.elim
    | _ => exact q.elim
theorem own_sub {H : Hp} {M N : List Addr} (o : Own H M) (h : ∀ a ∈ N, a ∈ M) : Own H N := fun a ha => o a (h a ha)
theorem ext_sub {T : List (Addr × Str)} {H : Hp} {M N : List Addr} (o : Own H M) (h : ∀ a ∈ N, a ∈ M) : Ext T (Hm H M) (Hm H N) :=
  ⟨fun b u e _ => Hm.of (Hm.in e).1 fun z => (Hm.in e).2 (h b z), fun t => (tabs_Hm (own_sub o h)).mpr ((tabs_Hm o).mp t)⟩
/-- a def is called with lambdas of this frame -/
theorem snd_callL {k : Nat} {es : List Ex} (ih : ∀ x ∈ es, Snd F x) : Snd F (.callL k es) := by
  refine Snd.of rfl rfl rfl fun {Z c X E a} C h => ?_
  unfold okE at h
  split at h <;> try cases h
  all_goals first | contradiction | skip
  rename_i e; cases e
  rename_i x p as pos
  obtain ⟨h, h5⟩ := band2 h
  obtain ⟨h, h2⟩ := band2 h
  obtain ⟨h, h3⟩ := band2 h
  obtain ⟨h0, h1⟩ := band2 h
  have mk := C.mkr h0
  unfold fnOk at h1
  obtain ⟨h1, hp⟩ := band2 h1
  obtain ⟨h1, hg⟩ := band2 h1
  obtain ⟨h1, hf⟩ := band2 h1
  have hin := of_decide_eq_true h1
  cases ef : fnAt c.fns k with
  | none => rw [ef] at hf; cases hf
  | some f =>
    rw [ef] at hf h3
    obtain ⟨hf1, hf2⟩ := band2 hf
    cases of_decide_eq_true hf1
    have har := of_decide_eq_true hf2
    have how : f.ow = false := bnot1 h3
    have CO := C.call k hin f ef
    rw [how] at CO
    have hA := args_sound C h2 fun ir hm e hf ho => (ih ir hm).e C hf ho
    refine ⟨fun pins s σ H Q I q => ?_⟩
    obtain ⟨ρ, M, sr, q⟩ := q
    have tl : tL Z X.K E (evs F es) σ H fun vs H1 => ∃ ps qs p, Ext Z.T H H1 ∧ RepL Z X.K (Hm H1 M) ps vs ∧ vs.length = f.ar ∧ convs ρ ps = some qs ∧ F k qs = .ok p ∧ fits p = true ∧ ∀ v H', Ext Z.T H H' → Rep Z X.K (Hm H' M) p v → Q v H' := by
      refine ⟨ρ, M, sr, ?_⟩
      simp only [ev] at q
      cases ee : evs F es ρ with
      | bad => rw [ee] at q; exact q
      | exc k => rw [ee] at q; exact q
      | ok ps =>
        rw [ee] at q
        simp only [R.bind_ok] at q
        cases ec : convs ρ ps with
        | none => rw [ec] at q; exact q.elim
        | some qs =>
          rw [ec] at q
          dsimp only at q
          cases eF : F k qs with
          | bad => rw [eF] at q; exact q.elim
          | exc j => rw [eF] at q; exact q.elim
          | ok pr =>
            rw [eF] at q
            unfold dataR at q
            dsimp only at q
            by_cases hfit : fits pr = true
            · rw [if_pos hfit] at q
              intro vs H1 e1 w1
              exact ⟨ps, qs, pr, e1, w1, by rw [← w1.length, evs_len ee, har], ec, eF, hfit, q⟩
            · rw [if_neg hfit] at q; exact q.elim
    obtain ⟨g, fd, pn, lvl, G, hroom, hm, hk, hb, hfad, hw⟩ := id CO
    refine wpAny_Call_Name_kw (ld_glob I (gl_of C hg) hm ?_ (plainN_ok hp).1)
    cases as with
    | nil =>
      cases es with
      | cons e es => have := okL_shape h2; simp at this
      | nil => cases h5
    | cons a as =>
      cases es with
      | nil => cases h5
      | cons e es =>
        obtain ⟨_, ha1, ha2⟩ := okL_cons h2
        refine PySem.W.callWith_K (h₀ := X.base) I.ok.mod.kin hk (thn (hA.run pos pins s σ H _ I tl) fun us s1 ⟨vs, H1, I1, r, ps, qs, pr, e1, w1, hl, ec, eF, hfit, q⟩ => ⟨I1.kIn, ?_⟩) (star_of ha1 _ _) (stars_of ha2)
        rw [← hfad]
        have s1r := sr.go e1
        have I' := inv_hide I1 s1r.own
        exact run_open CO mk I1 s1r.own s1r.tabs r hl (convs_rep ⟨I', cells_at I' mk.2.2.2, mk.1, mk.2.1, mk.2.2.1, fun i p e => s1r.fv i p e⟩ ec w1) eF (fit_clean 12 pr hfit) fun v H' e _ w => q v H' (e1.trans e) w
/-- .. with a list of them -/
theorem snd_callS {k i : Nat} {es : List Ex} (ih : ∀ x ∈ es, Snd F x) : Snd F (.callS k i es) := by
  refine Snd.of rfl rfl rfl fun {Z c X E a} C h => ?_
  unfold okE at h
  split at h <;> try cases h
  all_goals first | contradiction | skip
  rename_i e; cases e
  rename_i x p y yp as pos
  obtain ⟨h, h2⟩ := band2 h
  obtain ⟨h, h4⟩ := band2 h
  obtain ⟨h, h3⟩ := band2 h
  obtain ⟨h0, h1⟩ := band2 h
  have mk := C.mkr h0
  unfold fnOk at h1
  obtain ⟨h1, hp⟩ := band2 h1
  obtain ⟨h1, hg⟩ := band2 h1
  obtain ⟨h1, hf⟩ := band2 h1
  have hin := of_decide_eq_true h1
  have hv : PE X (.Name y yp) (tVar i) := slot_pe C h4
  cases ef : fnAt c.fns k with
  | none => rw [ef] at hf; cases hf
  | some f =>
    rw [ef] at hf h3
    obtain ⟨hf1, hf2⟩ := band2 hf
    cases of_decide_eq_true hf1
    have har := of_decide_eq_true hf2
    have how : f.ow = false := bnot1 h3
    have CO := C.call k hin f ef
    rw [how] at CO
    have hA := args_sound C h2 fun ir hm e hf ho => (ih ir hm).e C hf ho
    refine ⟨fun pins s σ H Q I q => ?_⟩
    obtain ⟨ρ, M, sr, q⟩ := q
    simp only [ev] at q
    cases e : ρ[i]? with
    | none => rw [e] at q; exact q.elim
    | some sv =>
      rw [e] at q
      cases sv with
      | ow xs =>
        dsimp only at q
        obtain ⟨la, lv, s1, hM, hH, hR⟩ := sr.fo i xs e
        have tl : tL Z X.K E (evs F es) σ H fun vs H1 => ∃ ps ys b, Ext Z.T H H1 ∧ RepL Z X.K (Hm H1 M) ps vs ∧ vs.length + 1 = f.ar ∧ convs ρ xs = some ys ∧ F k (.lst ys :: ps) = .ok (.bl b) ∧ ∀ v H', Ext Z.T H H' → Rep Z X.K (Hm H' M) (.bl b) v → Q v H' := by
          refine ⟨ρ, M, sr, ?_⟩
          cases ee : evs F es ρ with
          | bad => rw [ee] at q; exact q
          | exc k => rw [ee] at q; exact q
          | ok ps =>
            rw [ee] at q
            simp only [R.bind_ok] at q
            cases ec : convs ρ xs with
            | none => rw [ec] at q; exact q.elim
            | some ys =>
              rw [ec] at q
              dsimp only at q
              cases eF : F k (.lst ys :: ps) with
              | bad => rw [eF] at q; exact q.elim
              | exc j => rw [eF] at q; exact q.elim
              | ok pr =>
                rw [eF] at q
                cases pr with
                | bl b =>
                  intro vs H1 e1 w1
                  exact ⟨ps, ys, b, e1, w1, by rw [← w1.length, evs_len ee, har], rfl, eF, q⟩
                | _ => exact q.elim
        obtain ⟨g, fd, pn, lvl, G, hroom, hm, hk, hb, hfad, hw⟩ := id CO
        refine wpAny_Call_Name_kw (ld_glob I (gl_of C hg) hm ?_ (plainN_ok hp).1)
        refine PySem.W.callWith_K (h₀ := X.base) I.ok.mod.kin hk (thn ((pa_cons hv hA rfl).run pos pins s σ H (fun vs H1 => ∃ us', vs = .ref la :: us' ∧ ∃ ps ys b, Ext Z.T H H1 ∧ RepL Z X.K (Hm H1 M) ps us' ∧ us'.length + 1 = f.ar ∧ convs ρ xs = some ys ∧ F k (.lst ys :: ps) = .ok (.bl b) ∧ ∀ v H', Ext Z.T H H' → Rep Z X.K (Hm H' M) (.bl b) v → Q v H') I ?_) fun us s2 ⟨vs, H1, I1, r, us', evs', ps, ys, b, e1, w1, hl, ec, eF, q⟩ => ⟨I1.kIn, ?_⟩) rfl (stars_of h2)
        · refine ⟨.ref la, s1, ?_⟩
          obtain ⟨ρ', M', sr', tl⟩ := tl
          refine ⟨ρ', M', sr', ?_⟩
          cases ee : evs F es ρ' with
          | bad => rw [ee] at tl; exact tl
          | exc k => rw [ee] at tl; exact tl
          | ok qs => rw [ee] at tl; exact fun vs H1 e w => ⟨vs, rfl, tl vs H1 e w⟩
        · subst evs'
          rw [← hfad]
          have s1r := sr.go e1
          have hsub : ∀ a ∈ M.filter (fun b => decide (b ≠ la)), a ∈ M := fun a ha => (List.mem_filter.mp ha).1
          have hno : la ∉ M.filter (fun b => decide (b ≠ la)) := fun z => by
            have := (List.mem_filter.mp z).2
            simp at this
          have oN := own_sub s1r.own hsub
          have I' := inv_hide I1 oN
          have ex := ext_sub (T := Z.T) s1r.own hsub
          have cl := cells_at I' mk.2.2.2
          have opn : Opn X Z pins σ ρ (Hm H1 (M.filter fun b => decide (b ≠ la))) s2 := ⟨I', cl, mk.1, mk.2.1, mk.2.2.1, fun i p e => by
            obtain ⟨v, a1, a2⟩ := s1r.fv i p e
            exact ⟨v, a1, Rep.go ex a2⟩⟩
          refine run_open (p := .bl b) (ps := .lst ys :: ps) CO mk I1 oN s1r.tabs r hl ⟨_, _, rfl, ⟨la, lv, rfl, (lay_out cl (Hm.of (e1.keep _ _ hH noTbl.lst) hno)).1, convs_rep opn ec (RepL.go (ex.trans (Ext.refl _)) (RepL.go (e1.Hm sr.own) hR))⟩, RepL.go (T := Z.T) (lay_ext cl) (RepL.go ex w1)⟩ eF rfl fun v H' e _ w => q v H' (e1.trans e) w
      | _ => exact q.elim
/-- a def is called with the exception in hand -/
theorem snd_hot {k i : Nat} : Snd F (.hot k i) := by
  refine Snd.of rfl rfl rfl fun {Z c X E a} C h => ?_
  unfold okE at h
  split at h <;> try cases h
  all_goals first | contradiction | skip
  rename_i e; cases e
  rename_i x p y yp pos
  obtain ⟨h, h4⟩ := band2 h
  obtain ⟨h, h3⟩ := band2 h
  obtain ⟨h1, h2⟩ := band2 h
  cases eh : c.hot with
  | none => rw [eh] at h1; cases h1
  | some hh =>
    rw [eh] at h1
    obtain ⟨g1, g2⟩ := band2 h1
    cases of_decide_eq_true g1
    cases of_decide_eq_true g2
    unfold slotOk at h4
    rw [Bool.and_eq_true, Bool.and_eq_true, decide_eq_true_eq] at h4
    obtain ⟨⟨y1, y2⟩, y3⟩ := h4
    refine PE.imp (C.hotr hh.1 hh.2 (by rw [eh]) i y p yp pos (gl_of C h2) (by rw [C.N]; exact y1) (by rw [C.sc]; exact vis_ok y2) (plainN_ok y3).1 (plainN_ok y3).2.1 (plainN_ok h3).1) fun σ H Q q => ?_
    obtain ⟨ρ, M, s, q⟩ := q
    refine ⟨ρ, M, s, ?_⟩
    simp only [ev] at q
    exact q
end
end OS

end

section
set_option Elab.async false
set_option linter.all false
set_option maxRecDepth 100000
set_option maxHeartbeats 1000000
namespace OS
open PySem PySem.Spec PyProof.Rows L2 O
section
variable {F : Fs} {ir : Ex}
/-- the built-ins' rules -/
theorem bi_rule {Z : Zx} {X : Cx} {b : Bi} (hu : X.A.units + 65 < cLine) (hb : biIs b = true) (hc : biCalm b = true → X.calm = true) : biName b ∈ ["len", "all", "any", "tuple", "list", "sorted", "sum", "min", "max", "int", "isinstance", "str", "bool", "range", "zip", "enumerate", "set", "dict", "ValueError"] ∧
    ((∃ id, bootBuiltins (Str.ofString (biName b)) = some (.builtin id) ∧ CallR X (.builtin id) (rPn Z X.K (bi b))) ∨ ∃ T, bootBuiltins (Str.ofString (biName b)) = some (.type T) ∧ CallR X (.type T) (rPn Z X.K (bi b))) := by
  cases b with
  | len => exact ⟨by decide, .inl ⟨_, rfl, call_lenP⟩⟩
  | all => exact ⟨by decide, .inl ⟨_, rfl, call_allP (hc rfl)⟩⟩
  | any => exact ⟨by decide, .inl ⟨_, rfl, call_anyP (hc rfl)⟩⟩
  | tup => exact ⟨by decide, .inr ⟨_, rfl, call_tupP⟩⟩
  | lst => exact ⟨by decide, .inr ⟨_, rfl, call_lstP⟩⟩
  | sum => exact ⟨by decide, .inl ⟨_, rfl, call_sumP (hc rfl)⟩⟩
  | max2 => exact ⟨by decide, .inl ⟨_, rfl, call_max2P (hc rfl)⟩⟩
  | int1 => exact ⟨by decide, .inr ⟨_, rfl, call_int1P⟩⟩
  | min => exact ⟨by decide, .inl ⟨_, rfl, call_minP hu (hc rfl)⟩⟩
  | max => exact ⟨by decide, .inl ⟨_, rfl, call_maxIP (hc rfl)⟩⟩
  | srt => exact ⟨by decide, .inl ⟨_, rfl, call_srtP hu (hc rfl)⟩⟩
  | _ => cases hb
theorem ty_boot (t : Ty) : tyName t ∈ ["len", "all", "any", "tuple", "list", "sorted", "sum", "min", "max", "int", "isinstance", "str", "bool", "range", "zip", "enumerate", "set", "dict", "ValueError"] ∧ bootBuiltins (Str.ofString (tyName t)) = some (.type (tyName t)) := by
  cases t <;> exact ⟨by decide, rfl⟩
theorem snd_bi {b : Bi} {es : List Ex} (ih : ∀ x ∈ es, Snd F x) : Snd F (.bi b es) := by
  refine Snd.of rfl rfl rfl fun {Z c X E a} C h => ?_
  unfold okE at h
  split at h <;> try cases h
  all_goals first | contradiction | skip
  rename_i e; cases e
  rename_i x p as pos
  cases hb : biArgs c b x as with
  | none => rw [hb] at h; cases h
  | some as' =>
    rw [hb] at h
    have h : okL true c es as' = true := h
    unfold biArgs at hb
    split at hb
    · rename_i t
      split at hb
      · rename_i y py
        split at hb
        · rename_i hn
          cases hb
          obtain ⟨hn1, hn2⟩ := band2 hn
          obtain ⟨rfl, gy, dy, ny⟩ := gname_ok C hn1
          obtain ⟨rfl, gx, dx, nx⟩ := gname_ok C hn2
          match es, h, ih with
          | [e], h, ih =>
            obtain ⟨_, h1, _⟩ := okL_cons h
            obtain ⟨tb1, tb2⟩ := ty_boot t
            have hy : PE X (.Name (Str.ofString (tyName t)) py) (tC (.ty (tyName t))) := pe_bltn gy (mg_free C tb1) tb2 rfl ny dy
            refine PE.imp (pe_callB (call_isiP (Z := Z) t) gx (mg_free C (x := "isinstance") (by decide)) rfl (pa_cons ((ih e (by simp)).o C h1) (pa_cons hy pa_nil rfl) (star_of h1 _ _)) nx dx (star_of h1 _ _) rfl) fun σ H Q q => ?_
            obtain ⟨ρ, M, s, q⟩ := q
            simp only [ev, evs] at q
            refine ⟨ρ, M, s, ?_⟩
            cases ee : ev F e ρ with
            | bad => rw [ee] at q; exact q
            | exc k => rw [ee] at q; exact q
            | ok pv =>
              rw [ee] at q
              simp only [R.bind_ok] at q
              intro v H1 e1 w1
              cases er : bi (.isi t) [pv] with
              | bad => rw [er] at q; exact q.elim
              | exc k => exact (bi_nox (.inr ⟨t, rfl⟩) er).elim
              | ok r =>
                rw [er] at q
                exact ⟨v, rfl, M, [pv], r, s.own.go e1, ⟨v, [], rfl, w1, rfl⟩, er, fun v' H3 e3 w3 => q v' H3 (e1.trans e3) w3⟩
          | [], h, _ => have := okL_shape h; simp at this
          | _ :: _ :: _, h, _ => have := okL_shape h; simp at this
        · cases hb
      · cases hb
    · split at hb
      · rename_i hn
        cases hb
        obtain ⟨hn, hne⟩ := band2 hn
        obtain ⟨hn, hgn⟩ := band2 hn
        obtain ⟨his, hcm⟩ := band2 hn
        obtain ⟨rfl, gx, dx, nx⟩ := gname_ok C hgn
        have hcal : biCalm b = true → X.calm = true := fun z => by
          rw [z] at hcm
          exact C.calm hcm
        obtain ⟨hin, rl⟩ := bi_rule (Z := Z) (X := X) (by have := C.un; omega) his hcal
        have hA := argsw_sound C h fun ir hm e ho => (ih ir hm).o C ho
        match es, as, h, hne, hA with
        | e :: es, a :: as, h, hne, hA =>
          obtain ⟨_, h1, h2⟩ := okL_cons h
          have rd : ∀ {σ : L2.St} {H : Hp} {Q : VK}, tM Z X.K E (ev F (.bi b (e :: es))) σ H Q → tCB (rPn Z X.K (bi b)) (tLw Z X.K E (evs F (e :: es))) σ H Q := fun {σ H Q} q => bi_tM (fun ps k => bi_nox (.inl his)) (by
            obtain ⟨ρ, M, s, q⟩ := q
            exact ⟨ρ, M, s, by simpa only [ev] using q⟩)
          rcases rl with ⟨id, r1, r2⟩ | ⟨T, r1, r2⟩
          · exact PE.imp (pe_callB r2 gx (mg_free C hin) r1 hA nx dx (star_of h1 _ _) (stars_of h2)) fun σ H Q q => rd q
          · exact PE.imp (pe_callTy r2 gx (mg_free C hin) r1 hA nx dx (star_of h1 _ _) (stars_of h2)) fun σ H Q q => rd q
        | [], [], _, hne, _ => cases hne
        | [], _ :: _, h, _, _ => have := okL_shape h; simp at this
        | _ :: _, [], h, _, _ => have := okL_shape h; simp at this
      · cases hb
/-- methods -/
theorem stars_all {o : Bool} {c : Ck} {pos : Pos} {env : Env} {irs : List Ex} {es : List Expr} (h : okL o c irs es = true) : (backTo pos (starEach es env)).all (fun x => !x.1) = true := by
  have := stars_of (pos := pos) (env := env) h
  rw [List.all_eq_true]
  intro x hx
  rw [List.any_eq_false] at this
  have := this x hx
  simpa using this
theorem mt_rule {Z : Zx} {X : Cx} {m : Mt} (hu : X.A.units + 65 < cLine) (hm : mtIs m = true) : ∃ T id, PlainAttrs T ∧ Slot T (Str.ofString (mtName m)) id ∧ typeOf (.builtin id) = pure (.type "method_descriptor") ∧ MtR X id (rPm Z X.K (mt m)) ∧ ∀ (M : List Addr) (H : Hp) (p : PV) (v : V), mtOk m p = true → Vw Z X.K M H p v → tyV X.K T v H := by
  cases m with
  | join => exact ⟨_, _, PySem.F.plainAttrs_str, PySem.F.slot_str_join, PySem.F.type_str_join, mt_joinP, fun M H p v hp hv => by
      cases p with
      | str s => obtain ⟨rfl, _⟩ := hv; exact rfl
      | _ => cases hp⟩
  | sindex => exact ⟨_, _, PySem.F.plainAttrs_str, PySem.F.slot_str_index, PySem.F.type_str_index, mt_sixP, fun M H p v hp hv => by
      cases p with
      | str s => obtain ⟨rfl, _⟩ := hv; exact rfl
      | _ => cases hp⟩
  | lstrip => exact ⟨_, _, PySem.F.plainAttrs_str, PySem.F.slot_str_lstrip, PySem.F.type_str_lstrip, mt_lsP, fun M H p v hp hv => by
      cases p with
      | str s => obtain ⟨rfl, _⟩ := hv; exact rfl
      | _ => cases hp⟩
  | split => exact ⟨_, _, PySem.F.plainAttrs_str, PySem.F.slot_str_split, PySem.F.type_str_split, mt_spP, fun M H p v hp hv => by
      cases p with
      | str s => obtain ⟨rfl, _⟩ := hv; exact rfl
      | _ => cases hp⟩
  | startswith => exact ⟨_, _, PySem.F.plainAttrs_str, PySem.F.slot_str_startswith, PySem.F.type_str_startswith, mt_swP, fun M H p v hp hv => by
      cases p with
      | str s => obtain ⟨rfl, _⟩ := hv; exact rfl
      | _ => cases hp⟩
  | partition => exact ⟨_, _, PySem.F.plainAttrs_str, PySem.F.slot_str_partition, PySem.F.type_str_partition, mt_ptP, fun M H p v hp hv => by
      cases p with
      | str s => obtain ⟨rfl, _⟩ := hv; exact rfl
      | _ => cases hp⟩
  | count => exact ⟨_, _, PySem.F.plainAttrs_list, PySem.F.slot_list_count, PySem.F.type_list_count, mt_countP hu, fun M H p v hp hv => by
      cases p with
      | lst s => obtain ⟨a, vs, rfl, h1, _⟩ := hv; exact .inl ⟨rfl, _, SqL.of h1⟩
      | _ => cases hp⟩
  | index => exact ⟨_, _, PySem.F.plainAttrs_list, PySem.F.slot_list_index, PySem.F.type_list_index, mt_indexP hu, fun M H p v hp hv => by
      cases p with
      | lst s => obtain ⟨a, vs, rfl, h1, _⟩ := hv; exact .inl ⟨rfl, _, SqL.of h1⟩
      | _ => cases hp⟩
theorem base_of {o : Expr} {name : Str} {env : Env} (h : (match o with | .Call .. => false | _ => true) = true) : attributeBase o name env (eval o env) = eval o env := by
  cases o <;> first | rfl | cases h
theorem snd_mt {m : Mt} {x : Ex} {es : List Ex} (hx : Snd F x) (ih : ∀ x ∈ es, Snd F x) : Snd F (.mt m x es) := by
  refine Snd.of rfl rfl rfl fun {Z c X E a} C h => ?_
  unfold okE at h
  split at h <;> try cases h
  all_goals first | contradiction | skip
  rename_i e; cases e
  rename_i oe name apos as cpos
  obtain ⟨h, h8⟩ := band2 h
  obtain ⟨h, h7⟩ := band2 h
  obtain ⟨h, h6⟩ := band2 h
  obtain ⟨h, h5⟩ := band2 h
  obtain ⟨h, h4⟩ := band2 h
  obtain ⟨h, h3⟩ := band2 h
  obtain ⟨h1, h2⟩ := band2 h
  cases of_decide_eq_true h2
  obtain ⟨T, id, r1, r2, r3, r4, r5⟩ := mt_rule (Z := Z) (X := X) (by have := C.un; omega) h1
  have hA := argsw_sound C h4 fun ir hm e ho => (ih ir hm).o C ho
  have hl := okL_shape h4
  match es, as, h4, h5, h6, hA, hl with
  | e :: es, a :: as, h4, h5, h6, hA, hl =>
    obtain ⟨_, g1, g2⟩ := okL_cons h4
    have hfew : ((backTo cpos (starEach (a :: as) X.env)).all (fun x => !x.1) && (backToKw cpos (keywordEach [] X.env)).all (fun x => x.1.isSome)
      && decide ((a :: as).length + ([] : List Keyword).length + (if ([] : List Keyword).isEmpty then 0 else 1) < 30)) = true := by
      rw [stars_all h4]
      have := of_decide_eq_true h6
      show decide ((a :: as).length + 0 + 0 < 30) = true
      exact decide_eq_true (by omega)
    refine PE.imp (pe_bm r1 r2 r3 r4 (hx.o C h3) hA (base_of h8) hfew h7 (star_of g1 _ _) (stars_of g2)) fun σ H Q q => ?_
    obtain ⟨ρ, M, s, q⟩ := q
    simp only [ev] at q
    refine ⟨ρ, M, s, ?_⟩
    cases ea : ev F x ρ with
    | bad => rw [ea] at q; exact q
    | exc k => rw [ea] at q; exact q
    | ok p =>
      rw [ea] at q
      simp only [R.bind_ok] at q
      by_cases hok : mtOk m p = true
      · rw [if_pos hok] at q
        intro v H1 e1 w1
        refine ⟨r5 M H1 p v hok w1, ρ, M, s.go e1, ?_⟩
        cases eb : evs F (e :: es) ρ with
        | bad => rw [eb] at q; exact q
        | exc k => rw [eb] at q; exact fun H2 e2 => q H2 ((e1.Hm s.own).trans e2)
        | ok ps =>
          rw [eb] at q
          simp only [R.bind_ok] at q
          intro vs H2 e2 w2
          have o1 := s.own.go e1
          cases er : mt m p ps with
          | bad => rw [er] at q; exact q.elim
          | exc k => exact (mt_nox h1 er).elim
          | ok r =>
            rw [er] at q
            exact ⟨M, p, ps, r, o1.go e2, w1.go o1 e2, w2, er, fun v' H4 e4 w4 => q v' H4 ((e1.trans e2).trans e4) w4⟩
      · rw [if_neg hok] at q
        exact q.elim
  | [], [], _, h5, _, _, _ => cases h5
  | [], _ :: _, h, _, _, _, _ => have := okL_shape h; simp at this
  | _ :: _, [], h, _, _, _, _ => have := okL_shape h; simp at this
theorem own_slots {c : Ck} {tg : Tg} {e : Expr} {scope : Scope} (h : tgOk (blkCk c scope) tg e = true) : (ownOf c (tgSlots tg)).map (·.2) = tgSlots tg := by
  have go : ∀ is : List Nat, (∀ i ∈ is, ∃ x, c.N[i]? = some x) → (ownOf c is).map (·.2) = is := by
    intro is
    induction is with
    | nil => intro _; rfl
    | cons i is ih =>
      intro h
      obtain ⟨x, hx⟩ := h i (List.mem_cons_self ..)
      have := ih fun j hj => h j (List.mem_cons_of_mem _ hj)
      unfold ownOf at this ⊢
      rw [List.filterMap_cons, hx]
      simp only [Option.map_some, List.map_cons, this]
  refine go _ fun i hi => ?_
  unfold tgOk at h
  split at h
  · obtain ⟨h1, _⟩ := band2 h
    have : i = _ := List.mem_singleton.mp hi
    subst this
    exact ⟨_, of_decide_eq_true h1⟩
  · rename_i is es k p
    obtain ⟨h, h1⟩ := band2 h
    obtain ⟨_, hl⟩ := band2 h
    have hl := of_decide_eq_true hl
    have hi : i ∈ is := hi
    obtain ⟨j, hj, rfl⟩ := List.getElem_of_mem hi
    rw [List.all_eq_true] at h1
    have := h1 (is[j], es[j]'(by omega)) (by
      rw [List.mem_iff_getElem]
      exact ⟨j, by simp; omega, by simp⟩)
    dsimp only at this
    split at this
    · obtain ⟨q, _⟩ := band2 this
      exact ⟨_, of_decide_eq_true q⟩
    · cases this
  · cases h
theorem pts_sound {Z : Zx} {c : Ck} {X : Cx} {E : XK} (C : Cxt Z F c X E) {ifs : List Ex} {es : List Expr} (h : okL false c ifs es = true) (n : es.all noIte = true) (l : ifs.length ≤ 1) (ih : ∀ x ∈ ifs, Snd F x) : PTs X es (tB Z X.K E (evAnd F ifs)) := by
  match ifs, es, h, n, l with
  | [], [], _, _, _ =>
    refine ⟨fun pins s σ H Q I hq => pts_nil.run pins s σ H Q I ?_⟩
    obtain ⟨ρ, M, sr, hq⟩ := hq
    simp only [evAnd] at hq
    exact hq H (Ext.refl H)
  | [x], [e], h, n, _ =>
    obtain ⟨h0, h1, _⟩ := okL_cons h
    refine ⟨fun pins s σ H Q I hq => (pts_one ((ih x (by simp)).t C h0 h1 (okL_noIte (c := c) n).1)).run pins s σ H Q I ?_⟩
    obtain ⟨ρ, M, sr, q⟩ := hq
    refine ⟨ρ, M, sr, ?_⟩
    simp only [evAnd] at q
    cases ee : ev F x ρ with
    | bad => rw [ee] at q; exact q
    | exc k => rw [ee] at q; exact q
    | ok p =>
      rw [ee] at q
      cases p with
      | bl b =>
        simp only [R.bind_ok, asBl] at q
        cases b <;> exact q
      | _ => exact q.elim
  | [], _ :: _, h, _, _ => have := okL_shape h; simp at this
  | _ :: _, [], h, _, _ => have := okL_shape h; simp at this
  | [_], _ :: _ :: _, h, _, _ => have := okL_shape h; simp at this
  | _ :: _ :: _, _, _, _, l => simp at l
/-- a comprehension's parts -/
structure CompOk (Z : Zx) (F : Fs) (c : Ck) (X : Cx) (E : XK) (elt : Ex) (tg : Tg) (ik : IK) (ies ifs : List Ex) (elt' tg' iter : Expr) (ifs' : List Expr) (scope : Scope) : Prop where
  cm : X.calm = true
  hi : PI X tg' iter (tIt Z X.K E (fun ρ => (evs F ies ρ).bind (walk ik)))
  ok : BlkOk X.N X.env.scope scope (ownOf c (tgSlots tg))
  sl : (ownOf c (tgSlots tg)).map (·.2) = tgSlots tg
  hg : ∀ (s : Shared) (H : Hp) (D : Addr) (cl : List (Str × Addr)) (fp : List Addr), PG (X.blk s H scope (compEnvC scope cl D X.env) fp) tg' (gT X.K tg)
  ht : ∀ (s : Shared) (H : Hp) (D : Addr) (cl : List (Str × Addr)) (fp : List Addr), PTs (X.blk s H scope (compEnvC scope cl D X.env) fp) ifs' (tB Z X.K XF (evAnd F ifs))
  he : ∀ (s : Shared) (H : Hp) (D : Addr) (cl : List (Str × Addr)) (fp : List Addr), PE (X.blk s H scope (compEnvC scope cl D X.env) fp) elt' (tM Z X.K XF (ev F elt))
  hs : ∀ x, foldedSetIterable iter X.env x = pure x
theorem comp_inv {elt : Ex} {tg : Tg} {ik : IK} {ies ifs : List Ex} (he : Snd F elt) (hi : ∀ x ∈ ies, Snd F x) (hf : ∀ x ∈ ifs, Snd F x) {Z : Zx} {c : Ck} {X : Cx} {E : XK} {a : Expr} (C : Cxt Z F c X E) (h : okE c (.comp elt tg ik ies ifs) a = true) :
    ∃ elt' tg' iter ifs' scope pos, a = .ListComp elt' [⟨tg', iter, ifs', 0⟩] scope pos ∧ CompOk Z F c X E elt tg ik ies ifs elt' tg' iter ifs' scope := by
  unfold okE at h
  split at h <;> try cases h
  all_goals first | contradiction | skip
  rename_i e; cases e
  rename_i elt' tg' iter ifs' scope pos
  obtain ⟨h, h7⟩ := band2 h
  obtain ⟨h, h6⟩ := band2 h
  obtain ⟨h, h5⟩ := band2 h
  obtain ⟨h, h4⟩ := band2 h
  obtain ⟨h, h3⟩ := band2 h
  obtain ⟨h, h2⟩ := band2 h
  obtain ⟨h0, h1⟩ := band2 h
  have hc := C.calm h0
  refine ⟨elt', tg', iter, ifs', scope, pos, rfl, ?_⟩
  cases ia : iterArgs c ik tg' iter with
  | none => rw [ia] at h1; cases h1
  | some as =>
    rw [ia] at h1
    have h1 : okL true c ies as = true := h1
    refine ⟨hc, sound_I C hc ia h1 fun ir hm e ho => (hi ir hm).o C ho, blkOk_by (by rw [C.N, C.sc]; exact h3), own_slots h2, fun s H D cl fp => tg_sound (blk_cxt C h0 scope s H D cl fp) h2, fun s H D cl fp => pts_sound (blk_cxt C h0 scope s H D cl fp) h4 h5 (of_decide_eq_true h6) hf, fun s H D cl fp => he.e (blk_cxt C h0 scope s H D cl fp) (band2 h7).1 (band2 h7).2, fun x => ?_⟩
    unfold iterArgs at ia
    split at ia
    · split at ia
      · cases ia
      · rename_i hns
        cases iter <;> first | rfl | (exact (hns _ _ _ rfl).elim)
    all_goals first | rfl | cases ia
theorem snd_comp {elt : Ex} {tg : Tg} {ik : IK} {ies ifs : List Ex} (he : Snd F elt) (hi : ∀ x ∈ ies, Snd F x) (hf : ∀ x ∈ ifs, Snd F x) : Snd F (.comp elt tg ik ies ifs) := by
  refine Snd.ofN rfl rfl (fun ρ p hp => ?_) fun {Z c X E a} C h => ?_
  · rw [ev_comp] at hp
    cases e : (evs F ies ρ).bind (walk ik) with
    | ok xs =>
      rw [e] at hp
      simp only [R.bind_ok] at hp
      cases e2 : compL (turnC F elt tg ifs ρ) xs with
      | ok ys => rw [e2] at hp; cases hp; exact ⟨_, rfl⟩
      | exc k => rw [e2] at hp; cases hp
      | bad => rw [e2] at hp; cases hp
    | exc k => rw [e] at hp; cases hp
    | bad => rw [e] at hp; cases hp
  obtain ⟨elt', tg', iter, ifs', scope, pos, rfl, k⟩ := comp_inv he hi hf C h
  refine PE.imp (pe_lc k.cm C.nd k.hi k.ok k.hg k.ht k.he k.hs) fun σ H Q q => ?_
  rw [k.sl]
  exact tLc_of q
/-! ### dicts -/
theorem nosl_of {e : Expr} (h : noSlice e = true) : NoSl e := fun ov iv => by
  cases e <;> first | rfl | cases h
/-- a dict in its slot -/
theorem dict_at {Z : Zx} {K : PySem.W.Frag} {M : List Addr} {H : Hp} {σ : L2.St} {ρ : O.St} (s : SR Z K M H σ ρ) {i : Nat} {kvs : List (List Nat × PV)} (e : ρ[i]? = some (.od kvs)) {x : List Nat} : ∃ a o, σ[i]? = some (some (.ref a)) ∧ IsD H a ∧ DGet H a (.str (cps x)) o ∧ ((∃ p v, O.dget kvs x = some p ∧ o = some v ∧ Rep Z K (Hm H M) p v) ∨ (O.dget kvs x = none ∧ o = none)) := by
  obtain ⟨a, vs, h1, h2, h3, h4⟩ := s.fd i kvs e
  refine ⟨a, valV vs (.inr (cps x)), h1, .inl ⟨vs, .inl h3⟩, DGet.k (k := .inr (cps x)) h3, ?_⟩
  rcases kvs_get (x := x) h4 with ⟨p, v, g1, g2, g3⟩ | ⟨g1, g2⟩
  · exact .inl ⟨p, v, g1, g2, g3⟩
  · exact .inr ⟨g1, g2⟩
theorem strs_repS {Z : Zx} {K : PySem.W.Frag} {H : Hp} : ∀ {l : List (List Nat)}, (∀ t ∈ l, okS t) → RepL Z K H (l.map .str) ((l.map cps).map V.str)
  | [], _ => rfl
  | t :: l, ok => ⟨_, _, rfl, ⟨rfl, ok t (List.mem_cons_self ..)⟩, strs_repS fun u hu => ok u (List.mem_cons_of_mem _ hu)⟩
end
end OS

end

section
set_option Elab.async false
set_option linter.all false
set_option maxRecDepth 100000
set_option maxHeartbeats 1000000
namespace OS
open PySem PySem.Spec PyProof.Rows L2 O
section
variable {F : Fs} {ir : Ex}
theorem snd_srtKeys (i : Nat) : Snd F (.srtKeys i) := by
  refine Snd.of rfl rfl rfl fun {Z c X E a} C h => ?_
  unfold okE at h
  split at h <;> try cases h
  all_goals first | contradiction | skip
  rename_i e; cases e
  obtain ⟨h, h3⟩ := band2 h
  obtain ⟨h1, h2⟩ := band2 h
  obtain ⟨rfl, gx, dx, nx⟩ := gname_ok C h2
  refine PE.imp (pe_callB (call_sortedD (C.calm h1)) gx (mg_free C (x := "sorted") (by decide)) rfl (pa_cons (snd_var C h3) pa_nil rfl) nx dx rfl rfl) fun σ H Q q => ?_
  obtain ⟨ρ, M, s, q⟩ := q
  simp only [ev] at q
  cases ei : ρ[i]? with
  | none => rw [ei] at q; exact q.elim
  | some sv =>
    rw [ei] at q
    cases sv with
    | od kvs =>
      simp only at q
      by_cases hl : decide (kvs.length < 64) = true
      · rw [if_pos hl] at q
        have hl := of_decide_eq_true hl
        obtain ⟨b, vs, g1, g2, g3, g4⟩ := s.fd i kvs ei
        refine ⟨.ref b, g1, b, vs, (kvs.map (·.1)).map cps, rfl, .inl g3, by rw [g4.1]; simp, by simpa using hl, fun ys p hp hs hn => ?_⟩
        have ey := sorted_is hp hs
        subst ey
        refine q _ _ (Ext.new hn) ⟨p, _, rfl, Hm.of upd_same (s.own.new hn), ?_⟩
        exact strs_repS fun t ht => by
          have := (sortS_perm (kvs.map (·.1))).mem_iff.mp ht
          obtain ⟨kv, hm, rfl⟩ := List.mem_map.mp this
          exact g4.2.1 kv hm
      · rw [if_neg hl] at q; exact q.elim
    | _ => exact q.elim
theorem snd_dget {i : Nat} {k : Ex} (hk : Snd F k) : Snd F (.dget i k) := by
  refine Snd.of rfl rfl rfl fun {Z c X E a} C h => ?_
  unfold okE at h
  split at h <;> try cases h
  all_goals first | contradiction | skip
  rename_i e; cases e
  obtain ⟨h, h4⟩ := band2 h
  obtain ⟨h, h3⟩ := band2 h
  obtain ⟨h1, h2⟩ := band2 h
  cases of_decide_eq_true h1
  have hs := star_of h3 [] X.env
  refine PE.imp (pe_dget1 (by have := C.un; omega) (snd_var C h2) (hk.o C h3) ⟨rfl, by rw [hs]; rfl, h4, by rw [hs]; rfl⟩) fun σ H Q q => ?_
  obtain ⟨ρ, M, s, q⟩ := q
  simp only [ev] at q
  cases ei : ρ[i]? with
  | none => rw [ei] at q; exact q.elim
  | some sv =>
    rw [ei] at q
    cases sv with
    | od kvs =>
      simp only at q
      obtain ⟨b, _, g1, g2, _, _⟩ := dict_at s ei (x := [])
      refine ⟨.ref b, g1, b, rfl, g2, ρ, M, s, ?_⟩
      cases ek : ev F k ρ with
      | bad => rw [ek] at q; exact q
      | exc j => rw [ek] at q; exact q
      | ok p =>
        rw [ek] at q
        cases p with
        | str x =>
          intro v H1 e1 w1
          obtain ⟨rfl, _⟩ := w1
          obtain ⟨b', o, g1', _, g3, g4⟩ := dict_at (s.go e1) ei (x := x)
          rw [g1] at g1'
          cases g1'
          refine ⟨o, g3, ?_⟩
          rcases g4 with ⟨p, v, k1, rfl, k3⟩ | ⟨k1, rfl⟩
          · simp only [R.bind_ok, asStr, k1] at q
            exact q v H1 e1 k3
          · simp only [R.bind_ok, asStr, k1] at q
            exact q .non H1 e1 rfl
        | _ => exact q.elim
    | _ => exact q.elim
theorem snd_dgetD {i : Nat} {k d : Ex} (hk : Snd F k) (hd : Snd F d) : Snd F (.dgetD i k d) := by
  refine Snd.of rfl rfl rfl fun {Z c X E a} C h => ?_
  unfold okE at h
  split at h <;> try cases h
  all_goals first | contradiction | skip
  rename_i e; cases e
  obtain ⟨h, h4⟩ := band2 h
  obtain ⟨h, h5⟩ := band2 h
  obtain ⟨h, h3⟩ := band2 h
  obtain ⟨h1, h2⟩ := band2 h
  obtain ⟨h6, h7⟩ := band2 h5
  cases of_decide_eq_true h1
  have hs := fun es => star_of h3 es X.env
  have hs2 := star_of h7 [] X.env
  refine PE.imp (pe_dget2 (by have := C.un; omega) (snd_var C h2) (hk.o C h3) (hd.e C h6 h7) ⟨rfl, by rw [hs, hs2]; rfl, h4, by rw [hs, hs2]; rfl⟩) fun σ H Q q => ?_
  obtain ⟨ρ, M, s, q⟩ := q
  simp only [ev] at q
  cases ei : ρ[i]? with
  | none => rw [ei] at q; exact q.elim
  | some sv =>
    rw [ei] at q
    cases sv with
    | od kvs =>
      simp only at q
      obtain ⟨b, _, g1, g2, _, _⟩ := dict_at s ei (x := [])
      refine ⟨.ref b, g1, b, rfl, g2, ρ, M, s, ?_⟩
      cases ek : ev F k ρ with
      | bad => rw [ek] at q; exact q
      | exc j => rw [ek] at q; exact q
      | ok p =>
        rw [ek] at q
        cases p with
        | str x =>
          intro v H1 e1 w1
          obtain ⟨rfl, _⟩ := w1
          simp only [R.bind_ok, asStr] at q
          refine ⟨ρ, M, s.go e1, ?_⟩
          cases ed : ev F d ρ with
          | bad => rw [ed] at q; exact q
          | exc j => rw [ed] at q; exact fun H2 e2 => q H2 ((e1.Hm s.own).trans e2)
          | ok pd =>
            rw [ed] at q
            intro vd H2 e2 w2
            obtain ⟨b', o, g1', _, g3, g4⟩ := dict_at ((s.go e1).go e2) ei (x := x)
            rw [g1] at g1'
            cases g1'
            refine ⟨o, g3, ?_⟩
            rcases g4 with ⟨p, v, k1, rfl, k3⟩ | ⟨k1, rfl⟩
            · simp only [R.bind_ok, k1] at q
              exact q v H2 (e1.trans e2) k3
            · simp only [R.bind_ok, k1] at q
              exact q vd H2 (e1.trans e2) w2
        | _ => exact q.elim
    | _ => exact q.elim
theorem snd_dix {i : Nat} {k : Ex} (hk : Snd F k) : Snd F (.dix i k) := by
  refine Snd.of rfl rfl rfl fun {Z c X E a} C h => ?_
  unfold okE at h
  split at h <;> try cases h
  all_goals first | contradiction | skip
  rename_i e; cases e
  obtain ⟨h, h3⟩ := band2 h
  obtain ⟨h1, h2⟩ := band2 h
  refine PE.imp (pe_dget (by have := C.un; omega) (snd_var C h1) (hk.o C h2) (nosl_of h3)) fun σ H Q q => ?_
  obtain ⟨ρ, M, s, q⟩ := q
  simp only [ev] at q
  cases ei : ρ[i]? with
  | none => rw [ei] at q; exact q.elim
  | some sv =>
    rw [ei] at q
    cases sv with
    | od kvs =>
      simp only at q
      obtain ⟨b, _, g1, g2, _, _⟩ := dict_at s ei (x := [])
      refine ⟨.ref b, g1, ρ, M, s, ?_⟩
      cases ek : ev F k ρ with
      | bad => rw [ek] at q; exact q
      | exc j => rw [ek] at q; exact q
      | ok p =>
        rw [ek] at q
        cases p with
        | str x =>
          intro v H1 e1 w1
          obtain ⟨rfl, _⟩ := w1
          obtain ⟨b', o, g1', _, g3, g4⟩ := dict_at (s.go e1) ei (x := x)
          rw [g1] at g1'
          cases g1'
          rcases g4 with ⟨p, v, k1, rfl, k3⟩ | ⟨k1, rfl⟩
          · simp only [R.bind_ok, asStr, k1] at q
            exact ⟨_, v, rfl, g3, q v H1 e1 k3⟩
          · simp only [R.bind_ok, asStr, k1] at q
            exact q.elim
        | _ => exact q.elim
    | _ => exact q.elim
theorem snd_din {i : Nat} {k : Ex} (hk : Snd F k) : Snd F (.din i k) := by
  have inv : ∀ {c : Ck} {a : Expr}, okE c (.din i k) a = true → ∃ l y q p, a = .Compare l [.In] [.Name y q] p ∧ slotOk c i y = true ∧ okE c k l = true ∧ behindInMarks .In (.Name y q) = false := fun {c a} h => by
    unfold okE at h
    split at h <;> try cases h
    all_goals first | contradiction | skip
    rename_i e; cases e
    obtain ⟨h1, h4⟩ := band2 h
    obtain ⟨h1, h3⟩ := band2 h1
    obtain ⟨h1, h2⟩ := band2 h1
    cases of_decide_eq_true h1
    exact ⟨_, _, _, _, rfl, h2, h3, bnot1 h4⟩
  have rd : ∀ {Z : Zx} {X : Cx} {E : XK} {σ : L2.St} {H : Hp} {Q : VK}, tM Z X.K E (ev F (.din i k)) σ H Q → tDIn (tO Z X.K E (ev F k)) (tVar i) σ H Q := fun {Z X E σ H Q} q => by
    obtain ⟨ρ, M, s, q⟩ := q
    simp only [ev] at q
    refine ⟨ρ, M, s, ?_⟩
    cases ek : ev F k ρ with
    | bad => rw [ek] at q; exact q
    | exc j => rw [ek] at q; exact q
    | ok p =>
      rw [ek] at q
      cases p with
      | str x =>
        intro v H1 e1 w1
        obtain ⟨rfl, _⟩ := w1
        simp only [R.bind_ok, asStr] at q
        cases ei : ρ[i]? with
        | none => rw [ei] at q; exact q.elim
        | some sv =>
          rw [ei] at q
          cases sv with
          | od kvs =>
            simp only at q
            obtain ⟨b', o, g1', _, g3, g4⟩ := dict_at (s.go e1) ei (x := x)
            refine ⟨.ref b', g1', b', o, rfl, g3, ?_⟩
            rcases g4 with ⟨p, v, k1, rfl, k3⟩ | ⟨k1, rfl⟩
            · rw [k1] at q
              exact q _ H1 e1 rfl
            · rw [k1] at q
              exact q _ H1 e1 rfl
          | _ => exact q.elim
      | _ => exact q.elim
  refine Snd.ofT rfl rfl (fun {Z c X E a} C h => ?_) fun {Z c X E a} C h n => ?_
  · obtain ⟨l, y, q, p, rfl, h1, h2, h3⟩ := inv h
    exact PE.imp (pe_cmp (pc_din (by have := C.un; omega) (hk.o C h2) (snd_var C h1)) h3) fun σ H Q q => rd q
  · obtain ⟨l, y, q, p, rfl, h1, h2, h3⟩ := inv h
    refine PT.imp (pt_cmp (pc_din (by have := C.un; omega) (hk.o C h2) (snd_var C h1)) h3) fun σ H Q q => ?_
    have := tB_tM q
    exact rd this
/-! ### a dict of the module -/
theorem pe_kd {X : Cx} {o i : Expr} {d : Addr} {es : Array DictEntry} {n : Nat} {ty : TE} {pos : Pos} (D : KDict X.K X.w d es n) (ho : PE X o (tC (.ref d))) (hi : PE X i ty) (hs : NoSl i) : PE X (.Subscript o i pos) (fun σ H Q => ty σ H fun y H2 => ∃ z u0 v0, y = .str z ∧ PySem.W.nsIn X.K d z = some (some u0) ∧ RelV v0 u0 ∧ Q v0 H2) := by
  refine ⟨fun pins s σ H Q I h => subD_of PySem.F.slot_dict_getitem.lookup hs (thn (ho.run pins s σ H (fun v H1 => v = .ref d ∧ H1 = H) I ⟨rfl, rfl⟩) fun u s1 ⟨x, H1, I1, rx, ex, eH⟩ => ?_)⟩
  subst ex eH
  cases rx
  refine thn (hi.run pins s1 σ _ _ I1 h) fun iv s2 ⟨y, H2, I2, ry, z, u0, v0, ey, e1, e2, q⟩ => ⟨kd_type D I2, op_item_kd D pins s2 σ H2 (.ref d) y (.ref d) iv Q I2 rfl ry ⟨z, u0, v0, rfl, ey, e1, e2, q⟩⟩
theorem lookup_mem {x v : List Nat} : ∀ {kvs : List (List Nat × List Nat)}, kvs.lookup x = some v → (x, v) ∈ kvs
  | [], h => by cases h
  | (k, u) :: kvs, h => by
    rw [List.lookup_cons] at h
    split at h
    · rename_i e
      have : x = k := by simpa using e
      cases h
      rw [this]; exact List.mem_cons_self ..
    · exact List.mem_cons_of_mem _ (lookup_mem h)
theorem snd_gix {x : String} {kvs : List (List Nat × List Nat)} {k : Ex} (hk : Snd F k) : Snd F (.gix x kvs k) := by
  refine Snd.of rfl rfl rfl fun {Z c X E a} C h => ?_
  unfold okE at h
  split at h <;> try cases h
  all_goals first | contradiction | skip
  rename_i e; cases e
  obtain ⟨h, h4⟩ := band2 h
  obtain ⟨h, h3⟩ := band2 h
  obtain ⟨h1, h2⟩ := band2 h
  obtain ⟨rfl, g, dd, n⟩ := gname_ok C h1
  obtain ⟨d, es, m, e1, kd, vals⟩ := C.tabs _ (of_decide_eq_true h2)
  refine PE.imp (pe_kd kd (pe_glob g e1 rfl dd) (hk.o C h3) (nosl_of h4)) fun σ H Q q => ?_
  obtain ⟨ρ, M, s, q⟩ := q
  simp only [ev] at q
  refine ⟨ρ, M, s, ?_⟩
  cases ek : ev F k ρ with
  | bad => rw [ek] at q; exact q
  | exc j => rw [ek] at q; exact q
  | ok p =>
    rw [ek] at q
    cases p with
    | str y =>
      simp only [R.bind_ok, asStr] at q
      intro v H1 e1' w1
      obtain ⟨rfl, _⟩ := w1
      cases el : kvs.lookup y with
      | none => rw [el] at q; exact q.elim
      | some t =>
        rw [el] at q
        obtain ⟨o1, u, u1, u2⟩ := vals (y, t) (lookup_mem el)
        exact ⟨cps y, u, .str (cps t), rfl, u1, u2, q _ H1 e1' ⟨rfl, o1⟩⟩
    | _ => exact q.elim
/-! ### sets of texts -/
theorem nub_perm {ss : List (List Nat)} {ys : List Str} (nd : ys.Nodup) (h : ∀ k, k ∈ ys ↔ k ∈ ss.map cps) : ys.Perm ((nub ss).map cps) := by
  have n2 : ((nub ss).map cps).Nodup := by
    rw [List.Nodup, List.pairwise_map]
    exact (nub_nodup ss).imp fun hne e => hne (cps_inj e)
  have m2 : ∀ k, k ∈ (nub ss).map cps ↔ k ∈ ss.map cps := fun k => by
    simp only [List.mem_map]
    exact ⟨fun ⟨x, h1, h2⟩ => ⟨x, nub_mem.mp h1, h2⟩, fun ⟨x, h1, h2⟩ => ⟨x, nub_mem.mpr h1, h2⟩⟩
  exact perm_nodup nd n2 fun k => by rw [h k, m2 k]
/-- set(xs) within another call -/
theorem set_pe {Z : Zx} {c : Ck} {X : Cx} {E : XK} {x : Ex} {e : Expr} {y : Str} {p1 p2 : Pos} (C : Cxt Z F c X E) (hx : Snd F x) (hc : c.calm = true) (hy : gname c "set" y = true) (he : okE c x e = true) : PE X (.Call (.Name y p1) [e] [] p2) (fun σ H Q => ∃ ρ M, SR Z X.K M H σ ρ ∧ match ev F x ρ with
    | .ok (.lst xs) => ∃ ss, strsP xs = some ss ∧ ss.length < 1000 ∧ ∀ p ys H', Ext Z.T H H' → H' p = none → (∀ t ∈ ss, okS t) → ys.Perm ((nub ss).map cps) → Q (.ref p) (upd H' p (SetTx X.prog X.w p ys))
    | .ok _ => False
    | .exc k => ∀ H', Ext Z.T (Hm H M) H' → E (.ref (Z.cad k)) none H'
    | .bad => False) := by
  obtain ⟨rfl, gy, dy, ny⟩ := gname_ok C hy
  refine PE.imp (pe_callTy (cr_setTx (C.calm hc)) gy (mg_free C (x := "set") (by decide)) rfl (pa_cons (hx.o C he) pa_nil (star_of he _ _)) ny dy (star_of he _ _) rfl) fun σ H Q q => ?_
  obtain ⟨ρ, M, s, q⟩ := q
  refine ⟨ρ, M, s, ?_⟩
  cases ea : ev F x ρ with
  | bad => rw [ea] at q; exact q
  | exc k => rw [ea] at q; exact q
  | ok p =>
    rw [ea] at q
    cases p with
    | lst xs =>
      obtain ⟨ss, q1, q2, q3⟩ := q
      intro v H1 e1 w1
      obtain ⟨a, vs, rfl, h1, h2⟩ := w1
      obtain ⟨ev, okk⟩ := strs_rep h2 q1
      subst ev
      refine ⟨a, ss.map cps, rfl, SqL.of h1, by simpa using q2, fun p ys hp nd hm => q3 p ys H1 e1 hp okk (nub_perm nd hm)⟩
    | _ => exact q.elim
theorem oneArg_ok {params : Arguments} {y : Str} (h : oneArg params y = true) : ∃ an ap, params = ⟨[], [⟨y, an, ap⟩], none, [], [], none, []⟩ := by
  unfold oneArg at h
  split at h
  · cases of_decide_eq_true h
    exact ⟨_, _, rfl⟩
  · cases h
theorem lamOk_ok {params : Arguments} {scope : Scope} {y : Str} (h : lamOk params scope y = true) : ∃ an ap, params = ⟨[], [⟨y, an, ap⟩], none, [], [], none, []⟩ ∧ y ∈ [Str.ofString "setting", Str.ofString "one"] ∧ scope.kind = .function ∧ scope.isCoroutine = false ∧ scope.isGenerator = false ∧ scope.names = [(y, .local)] := by
  unfold lamOk at h
  obtain ⟨h, n6⟩ := band2 h
  obtain ⟨h, n5⟩ := band2 h
  obtain ⟨h, n4⟩ := band2 h
  obtain ⟨h, n3⟩ := band2 h
  obtain ⟨n1, n2⟩ := band2 h
  have n3' : ∀ k : ScopeKind, (match k with | .function => true | _ => false) = true → k = .function := fun k hk => by cases k <;> first | rfl | cases hk
  obtain ⟨an, ap, e⟩ := oneArg_ok n1
  exact ⟨an, ap, e, of_decide_eq_true n2, n3' _ n3, bnot1 n4, bnot1 n5, of_decide_eq_true n6⟩
theorem snd_srtItems (i : Nat) : Snd F (.srtItems i) := by
  refine Snd.of rfl rfl rfl fun {Z c X E a} C h => ?_
  unfold okE at h
  split at h <;> try cases h
  all_goals first | contradiction | skip
  rename_i e; cases e
  obtain ⟨h, h5⟩ := band2 h
  obtain ⟨h, h4⟩ := band2 h
  obtain ⟨h, h3⟩ := band2 h
  obtain ⟨h1, h2⟩ := band2 h
  obtain ⟨rfl, gx, dx, nx⟩ := gname_ok C h2
  have h3 := of_decide_eq_true h3
  subst h3
  refine PE.imp (pe_callB (cr_sortIK (Z := Z) (C.calm h1) (by have := C.un; omega)) gx (mg_free C (x := "sorted") (by decide)) rfl (pa_cons (pe_bm0 PySem.F.plainAttrs_dict PySem.F.slot_dict_items PySem.F.type_dict_items mt_itemsK (snd_var C h4) rfl h5) pa_nil rfl) nx dx rfl rfl) fun σ H Q q => ?_
  obtain ⟨ρ, M, s, q⟩ := q
  simp only [ev] at q
  cases ei : ρ[i]? with
  | none => rw [ei] at q; exact q.elim
  | some sv =>
    rw [ei] at q
    cases sv with
    | od kvs =>
      simp only at q
      unfold srtIt at q
      by_cases hl : srtOk (kvs.map fun kv => PV.tup [.str kv.1, kv.2]) = true
      · rw [if_pos hl] at q
        obtain ⟨b, vs, g1, g2, g3, g4⟩ := s.fd i kvs ei
        refine ⟨.ref b, g1, ?_, b, vs, rfl, rfl, g3, fun p hp => ?_⟩
        · exact .inr (.inr (.inl ⟨rfl, .inl ⟨vs, g3⟩⟩))
        · have ex : Ext Z.T H (upd H p (L2.DX.itemsO p b)) := Ext.new hp
          refine ⟨p, b, vs, kvs, M, rfl, upd_same, ?_, s.own.go ex, ⟨g4.1, g4.2.1, RepL.go (ex.Hm s.own) g4.2.2⟩, hl, fun v H' e1 hr => q v H' (ex.trans e1) hr⟩
          rw [upd_ne (ne_of_none g3 hp)]
          exact g3
      · rw [if_neg hl] at q; exact q.elim
    | _ => exact q.elim
theorem snd_srtKey0 {x : Ex} (hx : Snd F x) : Snd F (.srtKey0 x) := by
  refine Snd.of rfl rfl rfl fun {Z c X E a} C h => ?_
  unfold okE at h
  split at h <;> try cases h
  all_goals first | contradiction | skip
  rename_i e; cases e
  obtain ⟨h, h7⟩ := band2 h
  obtain ⟨h, h6⟩ := band2 h
  obtain ⟨h, h5⟩ := band2 h
  obtain ⟨h, h4⟩ := band2 h
  obtain ⟨h, h3⟩ := band2 h
  obtain ⟨h1, h2⟩ := band2 h
  have h5 := of_decide_eq_true h5
  have h6 := of_decide_eq_true h6
  subst h5
  subst h6
  obtain ⟨rfl, gx, dx, nx⟩ := gname_ok C h3
  obtain ⟨an, ap, rfl, n2, n3, n4, n5, n6⟩ := lamOk_ok h7
  · obtain ⟨cc, P, TB, hcode, hmT, hu⟩ := C.lam h2
    refine PE.imp (pe_key0 (m := ev F x) (Z := Z) (E := E) (C.calm h1) gx (mg_free C (x := "sorted") (by decide)) rfl nx dx (star_of h4 _ _) (hx.o C h4) TB hcode hmT hu rfl (fun q pm cv ctv v => ?_) n3 n4 n5 n6 ?_ C.dep C.un) fun σ H Q q => ?_
    · rcases List.mem_cons.mp n2 with z | z
      · cases z; rfl
      · cases List.mem_singleton.mp z; rfl
    · rcases List.mem_cons.mp n2 with z | z
      · cases z; rfl
      · cases List.mem_singleton.mp z; rfl
    · obtain ⟨ρ, M, s, q⟩ := q
      simp only [ev] at q
      exact ⟨ρ, M, s, q⟩
theorem snd_srtSet {x : Ex} (hx : Snd F x) : Snd F (.srtSet x) := by
  refine Snd.of rfl rfl rfl fun {Z c X E a} C h => ?_
  unfold okE at h
  split at h <;> try cases h
  all_goals first | contradiction | skip
  rename_i e; cases e
  obtain ⟨h, h4⟩ := band2 h
  obtain ⟨h, h3⟩ := band2 h
  obtain ⟨h1, h2⟩ := band2 h
  obtain ⟨rfl, gx, dx, nx⟩ := gname_ok C h2
  refine PE.imp (pe_callB (cr_srtTx (C.calm h1)) gx (mg_free C (x := "sorted") (by decide)) rfl (pa_cons (set_pe C hx h1 h3 h4) pa_nil rfl) nx dx rfl rfl) fun σ H Q q => ?_
  obtain ⟨ρ, M, s, q⟩ := q
  simp only [ev] at q
  refine ⟨ρ, M, s, ?_⟩
  cases ea : ev F x ρ with
  | bad => rw [ea] at q; exact q
  | exc k => rw [ea] at q; exact q
  | ok p =>
    rw [ea] at q
    cases p with
    | lst xs =>
      simp only [R.bind_ok] at q
      cases es : strsP xs with
      | none => rw [es] at q; exact q.elim
      | some ss =>
        simp only [es] at q
        by_cases hl : sset ss = true
        · rw [if_pos hl] at q
          have hb : ss.length < 1000 ∧ (nub ss).length < 64 := by
            unfold sset at hl
            rw [Bool.or_eq_true, Bool.and_eq_true, decide_eq_true_eq, decide_eq_true_eq, decide_eq_true_eq] at hl
            rcases hl with hl | hl
            · exact ⟨by omega, Nat.lt_of_le_of_lt (nub_len ss) hl⟩
            · exact hl
          refine ⟨ss, es, hb.1, fun p ys H' e1 hp okk pm => ?_⟩
          have hlen : ys.length < 64 := by
            rw [pm.length_eq, List.length_map]
            exact hb.2
          refine ⟨p, ys, rfl, upd_same, hlen, fun p2 zs hp2 pz hz => ?_⟩
          have ez := sorted_is (pz.trans pm) hz
          subst ez
          have e2 : Ext Z.T H' (upd H' p (SetTx X.prog X.w p ys)) := Ext.new hp
          have o2 := (s.own.go e1).go e2
          refine q _ _ ((e1.trans e2).trans (Ext.new hp2)) ⟨p2, _, rfl, Hm.of upd_same (o2.new hp2), strs_repS fun t ht => okk t ?_⟩
          exact nub_mem.mp ((sortS_perm (nub ss)).mem_iff.mp ht)
        · rw [if_neg hl] at q; exact q.elim
    | _ => exact q.elim
/-- set(xs) of rows of texts within another call -/
theorem rows_pe {Z : Zx} {c : Ck} {X : Cx} {E : XK} {x : Ex} {e : Expr} {y : Str} {p1 p2 : Pos} (C : Cxt Z F c X E) (hx : Snd F x) (hc : c.calm = true) (hy : gname c "set" y = true) (he : okE c x e = true) : PE X (.Call (.Name y p1) [e] [] p2) (fun σ H Q => ∃ ρ M, SR Z X.K M H σ ρ ∧ match ev F x ρ with
    | .ok (.lst xs) => ∃ ss, tupsP xs = some ss ∧ ss.length < 64 ∧ ss.Nodup ∧ ∀ p H', Ext Z.T H H' → H' p = none → Q (.ref p) (upd H' p (SetRw X.prog X.w p ss.length))
    | .ok _ => False
    | .exc k => ∀ H', Ext Z.T (Hm H M) H' → E (.ref (Z.cad k)) none H'
    | .bad => False) := by
  obtain ⟨rfl, gy, dy, ny⟩ := gname_ok C hy
  refine PE.imp (pe_callTy (cr_setRw (C.calm hc) (by have := C.un; omega)) gy (mg_free C (x := "set") (by decide)) rfl (pa_cons (hx.o C he) pa_nil (star_of he _ _)) ny dy (star_of he _ _) rfl) fun σ H Q q => ?_
  obtain ⟨ρ, M, s, q⟩ := q
  refine ⟨ρ, M, s, ?_⟩
  cases ea : ev F x ρ with
  | bad => rw [ea] at q; exact q
  | exc k => rw [ea] at q; exact q
  | ok p =>
    rw [ea] at q
    cases p with
    | lst xs =>
      obtain ⟨ss, q1, q2, q3, q4⟩ := q
      intro v H1 e1 w1
      obtain ⟨a, vs, rfl, h1, h2⟩ := w1
      obtain ⟨prs, z1, z2, z3⟩ := rows_rep (RepL.up (s.own.go e1) h2) q1
      have ln : prs.length = ss.length := by have := congrArg List.length z2; simpa using this
      refine ⟨a, prs, rfl, z1 ▸ SqL.of h1, z3, by rw [ln]; exact q2, by rw [z2]; exact rows_nodup q3, fun p hp => ?_⟩
      rw [ln]
      exact q4 p H1 e1 hp
    | _ => exact q.elim
theorem snd_lenSetT {x : Ex} (hx : Snd F x) : Snd F (.lenSetT x) := by
  refine Snd.of rfl rfl rfl fun {Z c X E a} C h => ?_
  unfold okE at h
  split at h <;> try cases h
  all_goals first | contradiction | skip
  rename_i e; cases e
  obtain ⟨h, h4⟩ := band2 h
  obtain ⟨h, h3⟩ := band2 h
  obtain ⟨h1, h2⟩ := band2 h
  obtain ⟨rfl, gx, dx, nx⟩ := gname_ok C h2
  refine PE.imp (pe_callB cr_lenRw gx (mg_free C (x := "len") (by decide)) rfl (pa_cons (rows_pe C hx h1 h3 h4) pa_nil rfl) nx dx rfl rfl) fun σ H Q q => ?_
  obtain ⟨ρ, M, s, q⟩ := q
  simp only [ev] at q
  refine ⟨ρ, M, s, ?_⟩
  cases ea : ev F x ρ with
  | bad => rw [ea] at q; exact q
  | exc k => rw [ea] at q; exact q
  | ok p =>
    rw [ea] at q
    cases p with
    | lst xs =>
      simp only [R.bind_ok] at q
      cases es : tupsP xs with
      | none => rw [es] at q; exact q.elim
      | some ss =>
        simp only [es] at q
        by_cases hl : (decide (ss.length < 64) && decide ss.Nodup) = true
        · rw [if_pos hl] at q
          obtain ⟨l1, l2⟩ := band2 hl
          have l1 := of_decide_eq_true l1
          refine ⟨ss, es, l1, of_decide_eq_true l2, fun p H' e1 hp => ⟨p, ss.length, rfl, upd_same, l1, ?_⟩⟩
          exact q _ _ (e1.trans (Ext.new hp)) rfl
        · rw [if_neg hl] at q; exact q.elim
    | _ => exact q.elim
theorem snd_lenSet {x : Ex} (hx : Snd F x) : Snd F (.lenSet x) := by
  refine Snd.of rfl rfl rfl fun {Z c X E a} C h => ?_
  unfold okE at h
  split at h <;> try cases h
  all_goals first | contradiction | skip
  rename_i e; cases e
  obtain ⟨h, h4⟩ := band2 h
  obtain ⟨h, h3⟩ := band2 h
  obtain ⟨h1, h2⟩ := band2 h
  obtain ⟨rfl, gx, dx, nx⟩ := gname_ok C h2
  refine PE.imp (pe_callB cr_lenTx gx (mg_free C (x := "len") (by decide)) rfl (pa_cons (set_pe C hx h1 h3 h4) pa_nil rfl) nx dx rfl rfl) fun σ H Q q => ?_
  obtain ⟨ρ, M, s, q⟩ := q
  simp only [ev] at q
  refine ⟨ρ, M, s, ?_⟩
  cases ea : ev F x ρ with
  | bad => rw [ea] at q; exact q
  | exc k => rw [ea] at q; exact q
  | ok p =>
    rw [ea] at q
    cases p with
    | lst xs =>
      simp only [R.bind_ok] at q
      cases es : strsP xs with
      | none => rw [es] at q; exact q.elim
      | some ss =>
        simp only [es] at q
        by_cases hl : decide (ss.length < 64) = true
        · rw [if_pos hl] at q
          refine ⟨ss, es, Nat.lt_trans (of_decide_eq_true hl) (by decide), fun p ys H' e1 hp okk pm => ?_⟩
          have hlen : ys.length = (nub ss).length := by rw [pm.length_eq, List.length_map]
          have h64 : (nub ss).length < 64 := Nat.lt_of_le_of_lt (nub_len ss) (of_decide_eq_true hl)
          refine ⟨p, ys, rfl, upd_same, by omega, ?_⟩
          rw [hlen]
          exact q _ _ (e1.trans (Ext.new hp)) rfl
        · rw [if_neg hl] at q; exact q.elim
    | _ => exact q.elim
theorem repL_get {Z : Zx} {K : PySem.W.Frag} {H : Hp} : ∀ {ps : List PV} {vs : List V}, ps.length = vs.length → (∀ (j : Nat) p v, ps[j]? = some p → vs[j]? = some v → Rep Z K H p v) → RepL Z K H ps vs
  | [], [], _, _ => rfl
  | [], _ :: _, h, _ => by simp at h
  | _ :: _, [], h, _ => by simp at h
  | p :: ps, v :: vs, h, g => ⟨v, vs, rfl, g 0 p v rfl rfl, repL_get (by simpa using h) fun j p v a b => g (j + 1) p v (by simpa using a) (by simpa using b)⟩
theorem walk_zipL (p q : PV) : walk .zip [p, q] = .bad ∨ ∃ ys zs, items p = some ys ∧ items q = some zs ∧ ys.length ≤ 1000000 ∧ walk .zip [p, q] = .ok (zipL ys zs) := by
  have e : walk .zip [p, q] = (match items p, items q with | some xs, some ys => if lim xs.length && lim ys.length then .ok (zipL xs ys) else .bad | _, _ => .bad) := rfl
  rw [e]
  cases e1 : items p with
  | none => exact .inl rfl
  | some ys =>
    cases e2 : items q with
    | none => exact .inl rfl
    | some zs =>
      simp only
      by_cases l : (lim ys.length && lim zs.length) = true
      · refine .inr ⟨ys, zs, rfl, rfl, of_decide_eq_true (show lim ys.length = true from (band2 l).1), ?_⟩
        rw [if_pos l]
      · exact .inl (by rw [if_neg l])
theorem okL_two {c : Ck} {x y : Ex} {e1 e2 : Expr} (h4 : okE c x e1 = true) (h5 : okE c y e2 = true) : okL true c [x, y] [e1, e2] = true := by
  simp only [okL, h4, h5]
  rfl
theorem snd_tupZip {x y : Ex} (hx : Snd F x) (hy : Snd F y) : Snd F (.tupZip x y) := by
  refine Snd.of rfl rfl rfl fun {Z c X E a} C h => ?_
  unfold okE at h
  split at h <;> try cases h
  all_goals first | contradiction | skip
  rename_i e; cases e
  obtain ⟨h, h5⟩ := band2 h
  obtain ⟨h, h4⟩ := band2 h
  obtain ⟨h, h3⟩ := band2 h
  obtain ⟨h1, h2⟩ := band2 h
  obtain ⟨rfl, gx, dx, nx⟩ := gname_ok C h2
  obtain ⟨rfl, gz, dz, nz⟩ := gname_ok C h3
  have h6 := okL_two h4 h5
  have hA := argsw_sound C h6 fun ir hm e ho => by
    rcases List.mem_cons.mp hm with rfl | hm
    · exact hx.o C ho
    · cases List.mem_singleton.mp hm
      exact hy.o C ho
  obtain ⟨_, h7, h8⟩ := okL_cons h6
  refine PE.imp (pe_tupZip (C.calm h1) gx (mg_free C (x := "tuple") (by decide)) gz (mg_free C (x := "zip") (by decide)) hA (star_of h7 _ _) (stars_of h8)) fun σ H Q q => ?_
  obtain ⟨ρ, M, s, q⟩ := q
  simp only [ev] at q
  refine ⟨ρ, M, s, ?_⟩
  simp only [evs]
  cases ea : ev F x ρ with
  | bad => rw [ea] at q; exact q
  | exc k => rw [ea] at q; exact q
  | ok p =>
    rw [ea] at q
    simp only [R.bind_ok] at q ⊢
    cases eb : ev F y ρ with
    | bad => rw [eb] at q; exact q
    | exc k => rw [eb] at q; exact q
    | ok p2 =>
      rw [eb] at q
      simp only [R.bind_ok] at q ⊢
      rcases walk_zipL p p2 with w | ⟨ys, zs, i1, i2, hl, w⟩
      · rw [w] at q; exact q.elim
      · rw [w] at q
        simp only [R.bind_ok] at q
        intro vs H1 e1 w1
        obtain ⟨v, _, rfl, hv, u, _, rfl, hu, rfl⟩ := w1
        have own := s.own.go e1
        obtain ⟨z1, vs1, rfl, s1, r1⟩ := vw_src own hv i1
        obtain ⟨z2, vs2, rfl, s2, r2⟩ := vw_src own hu i2
        refine ⟨z1, z2, vs1, vs2, rfl, s1, s2, by have := r1.length; omega, fun H2 t o as k1 k2 k3 k4 k5 k6 => ?_⟩
        have ex : Ext Z.T H1 H2 := ⟨fun b o e _ => k1 b o e, fun t => t.ext k1⟩
        refine q _ _ (e1.trans ex) ⟨t, as.map V.ref, rfl, SqQ.of (Hm.of k3 (own.new k2)) k4, repL_get ?_ fun j pp v hp hv => ?_⟩
        · have := r1.length
          have := r2.length
          rw [zipL_len, List.length_map, k5]
          omega
        · rw [List.getElem?_map] at hv
          cases ej : as[j]? with
          | none => rw [ej] at hv; cases hv
          | some a =>
            rw [ej] at hv
            cases hv
            obtain ⟨oo, x', y', n1, n2, n3, n4, n5⟩ := k6 j a ej
            rw [zipL_get] at hp
            cases q1 : ys[j]? with
            | none => rw [q1] at hp; cases hp
            | some p' =>
              cases q2 : zs[j]? with
              | none => rw [q1, q2] at hp; cases hp
              | some q' =>
                rw [q1, q2] at hp
                cases hp
                obtain ⟨v', a1, a2⟩ := r1.get q1
                obtain ⟨u', b1, b2⟩ := r2.get q2
                rw [n2] at a1
                cases a1
                rw [n3] at b1
                cases b1
                exact ⟨a, _, rfl, SqQ.of (Hm.of n4 (own.new n1)) n5, ⟨_, _, rfl, Rep.go (ex.Hm own) a2, _, _, rfl, Rep.go (ex.Hm own) b2, rfl⟩⟩
end
end OS

end

section
set_option Elab.async false
set_option linter.all false
set_option maxRecDepth 100000
set_option maxHeartbeats 1000000
/-! two comprehensions over a list: [part() for part in ..], lambdas of this frame; [word for word, met in .. if met], within an except suite too -/
namespace OS
open PySem PySem.Spec PyProof.Rows L2 O L2H HotX
section
variable {X : Cx} {Z : Zx} {F : Fs} {E : XK}
theorem tLs_of {K : PySem.W.Frag} {tl : TE} {g : TG} {tt : TT} {te : L2.St → TE} {sl : List Nat} {f : PV → R (Option PV)} {σ : L2.St} {ρ : O.St} {H : Hp} {M : List Addr} {Q : VK} {ps ys : List PV} (sr : SR Z K M H σ ρ) (hlm : lim ps.length = true) (hy : compL f ps = .ok ys)
    (htl : ∀ Q' : VK, (∀ v H1, Ext Z.T H H1 → Vw Z K M H1 (.lst ps) v → Q' v H1) → tl σ H Q')
    (step : ∀ (D : Addr) (Hc : Hp) (x : PV) (v : V) (o : Option PV), f x = .ok o → Own Hc (D :: M) → LamX.Tabs Z.T Hc → SR Z K (D :: M) Hc σ ρ → Rep Z K (Hm Hc (D :: M)) x v →
      ∀ (R0 : Hp → Prop) (R1 : VK), (o = none → ∀ H4, Ext Z.T Hc H4 → R0 H4) → (∀ q, o = some q → ∀ y H4, Ext Z.T Hc H4 → Rep Z K (Hm H4 (D :: M)) q y → R1 y H4) →
      g v (wipe σ sl) Hc fun σ2 H2 => wipe σ2 sl = wipe σ sl ∧ tt σ2 H2 fun b H3 => if b = true then te σ σ2 H3 R1 else R0 H3)
    (hQ : PN Z K E M H Q (.ok (.lst ys))) : tLs K tl g tt te sl σ H Q := by
  refine htl _ fun v H1 e1 w => ?_
  obtain ⟨a, vs, rfl, h1, h2⟩ := w
  have own1 := sr.own.go e1
  have hlen : ps.length = vs.length := h2.length
  have hsm : ps.length ≤ 1000000 := of_decide_eq_true hlm
  refine ⟨a, vs, rfl, SqL.of h1, fun D hD => ⟨fun i Hc => i ≤ ps.length ∧ ∃ qs zs, ys = qs ++ zs ∧ compL f (ps.drop i) = .ok zs ∧ Grow Z K M D H1 i qs Hc, ⟨Nat.zero_le _, [], ys, rfl, by simpa using hy, Grow.start own1 hD⟩, ?_, ?_, ?_⟩⟩
  · rintro i Hc ⟨_, qs, zs, _, _, gr⟩
    exact SqL.of (gr.ext.keep _ _ h1 noTbl.lst)
  · rintro Hc ⟨_, qs, zs, ey, ez, gr⟩
    rw [← hlen, List.drop_length] at ez
    cases ez
    rw [List.append_nil] at ey
    subst ey
    obtain ⟨acc, a1, a2, _⟩ := gr.acc
    exact hQ D acc Hc (own1.new hD) (e1.trans gr.ext) a1 ((e1.Hm sr.own).trans gr.low) a2
  · rintro i x Hc hx ⟨hi, qs, zs, ey, ez, gr⟩
    have hlt : i < ps.length := by rw [hlen]; exact (List.getElem?_eq_some_iff.mp hx).1
    obtain ⟨v, hv, hr⟩ := (RepL.go gr.low h2).get (List.getElem?_eq_getElem hlt)
    rw [hx] at hv
    cases hv
    rw [List.drop_eq_getElem_cons hlt] at ez
    unfold compL at ez
    have srD : SR Z K (D :: M) Hc σ ρ := (sr.go e1).more gr.own (fun b hb => ⟨List.mem_cons_of_mem _ hb, by
      rcases own1 b hb with ⟨l, z⟩ | ⟨l, z⟩
      · rw [z]; exact gr.ext.keep _ _ z noTbl.lst
      · rw [z]; exact gr.ext.keep _ _ z noTbl.dK⟩) gr.low
    cases ef : f ps[i] with
    | bad => rw [ef] at ez; cases ez
    | exc k => rw [ef] at ez; cases ez
    | ok o =>
      rw [ef] at ez
      refine step D Hc ps[i] x o ef gr.own srD.tabs srD hr _ _ (fun ho H4 e4 => ?_) fun q ho y H4 e4 hq => ?_
      · subst ho
        exact ⟨hlt, qs, zs, ey, ez, (gr.go e4).skip⟩
      · subst ho
        obtain ⟨acc, a1, a2, a3⟩ := Grow.add hD (gr.go e4) hq
        have ez : (compL f (ps.drop (i + 1))).bind (fun ys => .ok (q :: ys)) = .ok zs := ez
        cases ew : compL f (ps.drop (i + 1)) with
        | bad => rw [ew] at ez; cases ez
        | exc k => rw [ew] at ez; cases ez
        | ok ws =>
          rw [ew] at ez
          cases ez
          refine ⟨acc, a1, ?_, hlt, qs ++ [q], ws, by rw [ey, List.append_assoc]; rfl, ew, a3⟩
          show acc.length < 2 ^ 24
          omega
theorem nm_own {c : Ck} {scope : Scope} {j : Nat} {x : Str} (h : nmTg (blkCk c scope) j x = true) : c.N[j]? = some x := of_decide_eq_true (band2 h).1
theorem nm_pg {c : Ck} {Y : Cx} (hsc : Y.env.scope = c.sc) (hN : Y.N = c.N) (hnd : Y.N.Nodup) (hl : ∀ x, c.loc x = true → Y.fn x = true) {j : Nat} {x : Str} {p : Pos} (h : nmTg c j x = true) : PG Y (.Name x p) (gName j) := by
  obtain ⟨h1, h2⟩ := band2 h
  have h1 := of_decide_eq_true h1
  split at h2
  · rename_i e
    exact pg_name hnd (by rw [hN]; exact h1) (.inl (by rw [hsc]; exact e)) (.inr (by rw [hsc]; exact e))
  · rename_i e
    exact pg_name hnd (by rw [hN]; exact h1) (.inr (by rw [hsc]; exact e)) (.inl (hl _ h2))
  · cases h2
theorem nm_pe {c : Ck} {Y : Cx} (hsc : Y.env.scope = c.sc) (hN : Y.N = c.N) {i : Nat} {y : Str} {p : Pos} (hy : slotOk c i y = true) : PE Y (.Name y p) (tVar i) := by
  unfold slotOk at hy
  rw [Bool.and_eq_true, Bool.and_eq_true, decide_eq_true_eq] at hy
  obtain ⟨⟨y1, y2⟩, y3⟩ := hy
  exact pe_var (by rw [hN]; exact y1) (by rw [hsc]; exact vis_ok y2) (plainN_ok y3).1 (plainN_ok y3).2.1
theorem hsx {c : Ck} (C : Cxt Z F c X E) : X.calm = true ∨ HotC X := C.hotx.imp C.calm id
theorem blk_sc {c : Ck} (C : Cxt Z F c X E) {scope : Scope} {s : Shared} {H : Hp} {D : Addr} {cl : List (Str × Addr)} {fp : List Addr} : (X.blk s H scope (compEnvC scope cl D X.env) fp).env.scope = (blkCk c scope).sc := by
  show relabel scope X.env = relS scope c.sc
  rw [← C.sc]
  rfl
theorem noSet_pure {iter : Expr} (h : noSet iter = true) (env : Env) (x : Value) : foldedSetIterable iter env x = pure x := by
  cases iter <;> first | rfl | cases h
theorem snd_compH {j1 j2 : Nat} {e : Ex} (he : Snd F e) : Snd F (.compH j1 j2 e) := by
  refine Snd.of rfl rfl rfl fun {Z c X E a} C h => ?_
  unfold okE at h
  split at h <;> try cases h
  all_goals first | contradiction | skip
  rename_i e0; cases e0
  rename_i elt tg iter ifs scope pos
  obtain ⟨h, h5⟩ := band2 h
  obtain ⟨h, h4⟩ := band2 h
  obtain ⟨h, h3⟩ := band2 h
  obtain ⟨h1, h2⟩ := band2 h
  unfold cmpH at h5
  split at h5
  · rename_i x xp y yp z zp k tp t ttp
    obtain ⟨h5, h9⟩ := band2 h5
    obtain ⟨h5, h8⟩ := band2 h5
    obtain ⟨h6, h7⟩ := band2 h5
    have n12 : j1 ≠ j2 := of_decide_eq_true h4
    have ow : (ownOf c [j1, j2]).map (·.2) = [j1, j2] := by
      unfold ownOf
      simp [nm_own h6, nm_own h7]
    refine PE.imp (pe_lcO (tl := tO Z X.K E (ev F e)) (g := gTup X.K 2 (gCons (gName j1) (gCons (gName j2) gNil))) (tt := L2.tB (tVar j2)) (te := fun _ => tVar j1) (hsx C) C.nd (he.o C h1) (blkOk_by (by rw [C.N, C.sc]; exact h3))
      (fun pins σ s H D cl fp at' => pg_tupH (blk_pz (hsx C) at') (pgs_cons (nm_pg (blk_sc C) C.N C.nd (fun _ hx => hx) h6) (pgs_cons (nm_pg (blk_sc C) C.N C.nd (fun _ hx => hx) h7) pgs_nil)))
      (fun pins σ s H D cl fp at' => pts_one (pt_val (nm_pe (blk_sc C) C.N h9)))
      (fun pins σ s H D cl fp at' => nm_pe (blk_sc C) C.N h8) (noSet_pure h2 _)) fun σ H Q q => ?_
    rw [ow]
    obtain ⟨ρ, M, sr, q⟩ := q
    simp only [ev] at q
    cases ea : ev F e ρ with
    | bad => rw [ea] at q; exact q.elim
    | exc k => rw [ea] at q; exact ⟨ρ, M, sr, by rw [ea]; exact q⟩
    | ok p =>
      rw [ea] at q
      simp only [R.bind_ok] at q
      cases p with
      | lst ps =>
        dsimp only at q
        by_cases hl : (lim ps.length && (decide (j1 < ρ.length) && decide (j2 < ρ.length))) = true
        · rw [if_pos hl] at q
          obtain ⟨hl, hl2⟩ := band2 hl
          obtain ⟨l1, l2⟩ := band2 hl2
          have l1 : j1 < σ.length := Nat.lt_of_lt_of_le (of_decide_eq_true l1) sr.len
          have l2 : j2 < σ.length := Nat.lt_of_lt_of_le (of_decide_eq_true l2) sr.len
          cases ec : compL selP ps with
          | bad => rw [ec] at q; exact q.elim
          | exc k => exact (compL_nox ec).elim
          | ok ys =>
            rw [ec] at q
            simp only [R.bind_ok] at q
            refine tLs_of (E := E) sr hl ec (fun Q' k => ⟨ρ, M, sr, by rw [ea]; exact k⟩) (fun D Hc x v o ef ow tb srD hr R0 R1 r0 r1 => ?_) (PN.of (X := X) sr.own (fun p hp => ⟨ys, by cases hp; rfl⟩) q)
            unfold selP at ef
            split at ef
            · rename_i w b
              cases ef
              obtain ⟨a, us, rfl, hq, hu⟩ := hr
              obtain ⟨u1, r', rfl, hw, u2, r'', rfl, hb, e'⟩ := hu
              have e' : r'' = [] := e'
              subst e'
              have hb : u2 = .bl b := hb
              subst hb
              refine ⟨a, [u1, .bl b], rfl, SqT.go (T := []) (Ext.unHm ow) hq.1, rfl, u1, [.bl b], rfl, .bl b, [], rfl, rfl, ?_, ?_⟩
              · refine wipe_eq (by simp [L2.wipe_length]) fun j hj => ?_
                have hj1 : j ≠ j1 := fun z => hj (by simp [z])
                have hj2 : j ≠ j2 := fun z => hj (by simp [z])
                rw [set_other hj2, set_other hj1, wipe_other σ hj]
              · refine ⟨.bl b, set_here (by simpa [L2.wipe_length] using l2), b, rfl, ?_⟩
                cases b with
                | true =>
                  rw [if_pos rfl]
                  refine ⟨u1, by rw [set_other n12]; exact set_here (by simpa [L2.wipe_length] using l1), r1 w rfl u1 Hc (Ext.refl _) hw⟩
                | false =>
                  rw [if_neg Bool.false_ne_true]
                  exact r0 rfl Hc (Ext.refl _)
            · cases ef
        · rw [if_neg hl] at q; exact q.elim
      | _ => exact q.elim
  · cases h5
/-- part(): a lambda of the frame, called in a block -/
def tLam (Z : Zx) (K : PySem.W.Frag) (F : Fs) (j : Nat) (σ0 : L2.St) : TE := fun σ H Q => ∃ (M : List Addr) (f : Addr) (k : Nat) (is : List Nat) (ps : List PV) (vs : List V) (q : PV), σ[j]? = some (some (.ref f)) ∧ Own H M ∧ LamX.Tabs Z.T H ∧ LamA Z (Hm H M) k is f ∧ vs.length = is.length ∧ RepL Z K (Hm H M) ps vs ∧
  (∀ (j i : Nat) (v : V), is[j]? = some i → vs[j]? = some v → σ0[i]? = some (some v)) ∧ F k ps = .ok q ∧ ∀ v H', Ext Z.T H H' → Rep Z K (Hm H' M) q v → Q v H'
theorem pe_lamB (CRu : CloRule Z F X) (mk : Z.fc = X.env.cells ∧ Z.fN = X.N ∧ Z.fS = some X.env.scope ∧ ∀ x, X.fn x = true) {pins : List (Addr × Obj)} {σ0 : L2.St} {s0 : Shared} {H0 : Hp} {fp : List Addr} (at' : AtB X pins σ0 s0 H0 fp) {scope : Scope} {ce : Env} {x : Str} {p pos : Pos} {j : Nat}
    (hv : PE (X.blk s0 H0 scope ce fp) (.Name x p) (tVar j)) : PE (X.blk s0 H0 scope ce fp) (.Call (.Name x p) [] [] pos) (tLam Z X.K F j σ0) := by
  refine ⟨fun pins' s σ H Q I q => ?_⟩
  obtain ⟨M, f, k, is, ps, vs, q0, hj, ow, tb, la, hl, hR, hval, hF, hq⟩ := q
  obtain ⟨lvl, room, CK⟩ := CRu
  refine wpAny_Call_Name_kw (thn (hv.run pins' s σ H (fun v' H1 => v' = .ref f ∧ H1 = H) I ⟨.ref f, hj, rfl, rfl⟩) fun u s2 ⟨v', H1, I1, rv, q1⟩ => ?_)
  obtain ⟨ev', eH⟩ := q1
  subst ev'
  rw [eH] at I1
  obtain rfl : u = Value.ref f := rv
  obtain ⟨qn, params, body, lsc, sc, pm, ctv, c', h1, h2, h3, h4, L, h5, h6, h7⟩ := la
  obtain ⟨m1, m2, m3, m4⟩ := mk
  rw [m3] at h4
  cases h4
  rw [m1] at h1
  rw [m2] at h7
  have I2 := inv_hide I1 ow
  have fobj := (I1.hok f _ (Hm.in h1).1).1
  obtain ⟨I0, f0⟩ := at'
  have ca := cells_at I0 m4
  have cel : ∀ {y : Str} {c : Addr}, X.env.cells.lookup y = some c → Hm H M c = none ∧ ∀ o, s0.heap.get? c = some o → s2.heap.get? c = some o := fun {y c} e => by
    have nf : c ∉ fp := fun z => (f0 c z).2.2.2.2.1 y c e rfl
    obtain ⟨v, o, g1, g2⟩ := I0.cell y c e
    refine ⟨I2.base.free c o g1 (I0.freeC y c e) nf, fun o' e' => I2.base.keep c o' e' (I0.freeC y c e) (ca.nfr c (cadr_mem e)) nf⟩
  have hfree := L.has I0.ok
  have cm : ∀ {y : Str} {c : Addr}, (cloFrom X.env.cells lsc.names []).lookup y = some c → X.env.cells.lookup y = some c ∧ (y, NameKind.free) ∈ lsc.names := fun {y c} e => by
    rcases cloFrom_mem (PySem.mem_of_lookup e) with hm | ⟨g1, g2⟩
    · cases hm
    · obtain ⟨c1, hc⟩ := hfree _ g1 rfl
      have hc : X.env.cells.lookup y = some c1 := hc
      have e2 : c = c1 := by rw [g2, hc]; rfl
      rw [e2]
      exact ⟨hc, g1⟩
  have look : ∀ y, lsc.names.lookup y = some .free → ∃ c, (cloFrom X.env.cells lsc.names []).lookup y = some c := fun y hl => by
    have hy : (y, NameKind.free) ∈ lsc.names := PySem.mem_of_lookup hl
    exact mem_lookup (cloFrom_has (cells := X.env.cells) (acc := []) hy)
  refine PySem.W.callWith_F0 ⟨_, _, _, _, fobj⟩ (wpAny_call (codeAny_mono (CK k X.A X.stack s2 (Hm H M) f qn params body lsc (cloFrom X.env.cells lsc.names []) pm ctv c' vs ps (fun v H' => Ext Z.T (Hm H M) H' ∧ Rep Z X.K H' q0 v) (fun _ _ _ => False) room I2.env0 fobj h2 h3
    (fun y z c e1 e2 => I0.ok.inj y z c (cm e1).1 (cm e2).1) look (fun y c e => ?_) (by rw [hl, h6]) (fun i y v a b => ?_) ((tabs_Hm ow).mpr tb) hR ?_) fun rr s' hz => ?_))
  · obtain ⟨v, o, g1, g2⟩ := I0.cell y c (cm e).1
    exact ⟨(cel (cm e).1).1, v, o, (cel (cm e).1).2 o g1, g2⟩
  · obtain ⟨hx, i', hi, hN⟩ := h7 i y a
    obtain ⟨c0, hc0⟩ := look y hx
    obtain ⟨hc1, hm⟩ := cm hc0
    have hs := hval i i' v hi b
    have hk := L.free _ hm rfl
    have hk : X.env.scope.names.lookup y = some .cell ∨ X.env.scope.names.lookup y = some .free := hk
    obtain ⟨m, _, hl⟩ := I0.loc
    obtain ⟨u, ru, lk⟩ := hl i' y v hN hs (.inr hk)
    rcases lk with ⟨k', _⟩ | ⟨_, c3, e', z⟩
    · have k' : X.env.scope.names.lookup y = some .local := k'
      rcases hk with k2 | k2 <;> rw [k2] at k' <;> cases k'
    · rw [hc1] at e'
      cases e'
      obtain ⟨o', o1, o2⟩ := z
      exact ⟨c0, u, hc0, ⟨o', (cel hc1).2 o' o1, o2⟩, ru⟩
  · rw [hF]
    exact fun v H' e w => ⟨e, w⟩
  · cases rr with
    | error e =>
      obtain ⟨_, _, _, _, _, _, _, _, _, _, _, _, z⟩ := hz
      exact z.elim
    | ok fl =>
      cases fl with
      | ret u =>
        obtain ⟨v, H2, I3, rv, H', rfl, nM, e, w⟩ := call_back I1 ow hz
        refine ⟨v, _, I3, rv, hq v _ (hback_ext ow nM e) ?_⟩
        rw [hback_hm nM]
        exact w
      | next => exact False.elim hz
      | brk => exact False.elim hz
      | cont => exact False.elim hz
theorem snd_compM {j : Nat} {e : Ex} (he : Snd F e) : Snd F (.compM j e) := by
  refine Snd.of rfl rfl rfl fun {Z c X E a} C h => ?_
  unfold okE at h
  split at h <;> try cases h
  all_goals first | contradiction | skip
  rename_i e0; cases e0
  rename_i elt tg iter ifs scope pos
  obtain ⟨h, h7⟩ := band2 h
  obtain ⟨h, h6⟩ := band2 h
  obtain ⟨h, h5⟩ := band2 h
  obtain ⟨h, h4⟩ := band2 h
  obtain ⟨h, h3⟩ := band2 h
  obtain ⟨h1, h2⟩ := band2 h
  unfold cmpM at h7
  split at h7
  · rename_i x xp cp y yp
    obtain ⟨h8, h9⟩ := band2 h7
    have ow : (ownOf c [j]).map (·.2) = [j] := by
      unfold ownOf
      simp [nm_own h8]
    refine PE.imp (pe_lcO (tl := tO Z X.K E (ev F e)) (g := gName j) (tt := tYes) (te := fun σ => tLam Z X.K F j σ) (hsx C) C.nd (he.o C h4) (blkOk_by (by rw [C.N, C.sc]; exact h6))
      (fun pins σ s H D cl fp at' => nm_pg (blk_sc C) C.N C.nd (fun _ hx => hx) h8) (fun pins σ s H D cl fp at' => pts_nil)
      (fun pins σ s H D cl fp at' => pe_lamB (C.clo h3) (C.mkr h2) at' (nm_pe (blk_sc C) C.N h9)) (noSet_pure h5 _)) fun σ H Q q => ?_
    rw [ow]
    obtain ⟨ρ, M, sr, q⟩ := q
    simp only [ev] at q
    cases ea : ev F e ρ with
    | bad => rw [ea] at q; exact q.elim
    | exc k => rw [ea] at q; exact ⟨ρ, M, sr, by rw [ea]; exact q⟩
    | ok p =>
      rw [ea] at q
      simp only [R.bind_ok] at q
      cases p with
      | lst ps =>
        dsimp only at q
        by_cases hl : (lim ps.length && decide (j < ρ.length)) = true
        · rw [if_pos hl] at q
          obtain ⟨hl, l1⟩ := band2 hl
          have l1 : j < σ.length := Nat.lt_of_lt_of_le (of_decide_eq_true l1) sr.len
          cases ec : compL (lamQ F ρ) ps with
          | bad => rw [ec] at q; exact q.elim
          | exc k => exact (compL_nox ec).elim
          | ok ys =>
            rw [ec] at q
            simp only [R.bind_ok] at q
            refine tLs_of (E := E) sr hl ec (fun Q' k => ⟨ρ, M, sr, by rw [ea]; exact k⟩) (fun D Hc x v o ef ow tb srD hr R0 R1 r0 r1 => ?_) (PN.of (X := X) sr.own (fun p hp => ⟨ys, by cases hp; rfl⟩) q)
            unfold lamQ at ef
            split at ef
            · rename_i k is
              obtain ⟨f, rfl, la⟩ := hr
              cases e1 : caps ρ is with
              | none => rw [e1] at ef; cases ef
              | some qs =>
                rw [e1] at ef
                dsimp only at ef
                cases e2 : F k qs with
                | bad => rw [e2] at ef; cases ef
                | exc i => rw [e2] at ef; cases ef
                | ok q0 =>
                  rw [e2] at ef
                  cases ef
                  obtain ⟨us, u1, u2, u3⟩ := caps_rep (fun i p e => srD.fv i p e) e1
                  refine ⟨?_, ?_⟩
                  · refine wipe_eq (by simp [L2.wipe_length]) fun i hi => ?_
                    have hi1 : i ≠ j := fun z => hi (by simp [z])
                    rw [set_other hi1, wipe_other σ hi]
                  · unfold tYes
                    dsimp only
                    rw [if_pos rfl]
                    exact ⟨D :: M, f, k, is, qs, us, q0, set_here (by simpa [L2.wipe_length] using l1), ow, tb, la, u1, u2, u3, e2, fun v H' e' hv => r1 q0 rfl v H' e' hv⟩
            · cases ef
        · rw [if_neg hl] at q; exact q.elim
      | _ => exact q.elim
  · cases h7
end
end OS

end

section
set_option Elab.async false
set_option linter.all false
set_option maxRecDepth 100000
set_option maxHeartbeats 1000000
namespace OS
open PySem PySem.Spec PyProof.Rows L2 O
section
variable {F : Fs} {ir : Ex}
theorem snd_all (F : Fs) : ∀ (n : Nat) (ir : Ex), sizeOf ir ≤ n → Snd F ir := by
  intro n
  induction n with
  | zero => intro ir h; cases ir <;> simp at h
  | succ n ih =>
    intro ir h
    have L : ∀ (es : List Ex), sizeOf es ≤ n → ∀ x ∈ es, Snd F x := fun es hs x hx => ih x (Nat.le_trans (Nat.le_of_lt (List.sizeOf_lt_of_mem hx)) hs)
    have none_ : ∀ ir : Ex, (∀ c a, okE c ir a = false) → Snd F ir := fun ir z => ⟨fun {Z c X E a} C _ k => (by rw [z c a] at k; cases k), fun {Z c X E a} C k => (by rw [z c a] at k; cases k), fun {Z c X E a} C _ k _ => (by rw [z c a] at k; cases k), fun {Z c X E a} C _ k => (by rw [z c a] at k; cases k)⟩
    cases ir with
    | var i => exact snd_var_ i
    | bor i => exact snd_bor i
    | con p => exact snd_con p
    | glob x p => exact snd_glob x p
    | tup es => simp at h; exact snd_tup (L es (by omega))
    | lst es => simp at h; exact snd_lst (L es (by omega))
    | bin o a b => simp at h; exact snd_bin (ih a (by omega)) (ih b (by omega))
    | neg a => simp at h; exact snd_neg (ih a (by omega))
    | cmp o a b => simp at h; exact snd_cmp (ih a (by omega)) (ih b (by omega))
    | chain o1 o2 a b d => simp at h; exact snd_chain (ih a (by omega)) (ih b (by omega)) (ih d (by omega))
    | isC pos k a => simp at h; exact snd_isC (ih a (by omega))
    | band es => simp at h; exact snd_band (L es (by omega))
    | bor_ es => simp at h; exact snd_bor_ (L es (by omega))
    | not a => simp at h; exact snd_not (ih a (by omega))
    | ite t a b => simp at h; exact snd_ite (ih t (by omega)) (ih a (by omega)) (ih b (by omega))
    | idx a i => simp at h; exact snd_idx (ih a (by omega)) (ih i (by omega))
    | cut a lo hi =>
      simp at h
      refine snd_cut (ih a (by omega)) (fun y e => ?_) fun y e => ?_
      · subst e; simp at h; exact ih y (by omega)
      · subst e; simp at h; exact ih y (by omega)
    | rev a => simp at h; exact snd_rev (ih a (by omega))
    | call k es => simp at h; exact snd_call (L es (by omega))
    | bi b es => simp at h; exact snd_bi (L es (by omega))
    | mt m a es => simp at h; exact snd_mt (ih a (by omega)) (L es (by omega))
    | comp elt tg ik ies ifs => simp at h; exact snd_comp (ih elt (by omega)) (L ies (by omega)) (L ifs (by omega))
    | fnC k => exact snd_fnC
    | callV f es => simp at h; exact snd_callV (ih f (by omega)) (L es (by omega))
    | isX i k => exact snd_isX
    | isV i => exact snd_isV
    | lam k is => exact snd_lam
    | callC i => exact snd_callC
    | callL k es => simp at h; exact snd_callL (L es (by omega))
    | callS k i es => simp at h; exact snd_callS (L es (by omega))
    | hot k i => exact snd_hot
    | lenSetT a => simp at h; exact snd_lenSetT (ih a (by omega))
    | compM j a => simp at h; exact snd_compM (ih a (by omega))
    | compH j1 j2 a => simp at h; exact snd_compH (ih a (by omega))
    | srtKeys i => exact snd_srtKeys i
    | gix x kvs k => simp at h; exact snd_gix (ih k (by omega))
    | srtSet a => simp at h; exact snd_srtSet (ih a (by omega))
    | srtKey0 a => simp at h; exact snd_srtKey0 (ih a (by omega))
    | srtItems i => exact snd_srtItems i
    | lenSet a => simp at h; exact snd_lenSet (ih a (by omega))
    | tupZip a b => simp at h; exact snd_tupZip (ih a (by omega)) (ih b (by omega))
    | dget i k => simp at h; exact snd_dget (ih k (by omega))
    | dgetD i k d => simp at h; exact snd_dgetD (ih k (by omega)) (ih d (by omega))
    | dix i k => simp at h; exact snd_dix (ih k (by omega))
    | din i k => simp at h; exact snd_din (ih k (by omega))
    | _ => exact none_ _ fun c a => by unfold okE; rfl
theorem snd (F : Fs) (ir : Ex) : Snd F ir := snd_all F (sizeOf ir) ir (Nat.le_refl _)
end
end OS

end

section
set_option Elab.async false
set_option linter.all false
set_option maxRecDepth 100000
set_option maxHeartbeats 1000000
namespace OS
open PySem PySem.Spec PyProof.Rows L2 O
/-! ### what the compiler's orders hang on: the scope alone -/
def pureOf {A : Type} : Sem A → Option A
  | .pure a => some a
  | _ => none
theorem pureOf_eq {A : Type} {x : Sem A} {a : A} (h : pureOf x = some a) : x = pure a := by
  cases x <;> first | (cases h; rfl) | cases h
def dEnv (sc : Scope) : Env := { scope := sc, locals := 0, globals := 0, cells := [] }
theorem kindOf_sc {e e' : Env} (h : e.scope = e'.scope) (x : Str) : e.kindOf x = e'.kindOf x := by unfold Env.kindOf; rw [h]
theorem block_sc {e e' : Env} (h : e.scope = e'.scope) : e.blockKind = e'.blockKind := by unfold Env.blockKind; rw [h]
theorem swaps_sc {e e' : Env} (h : e.scope = e'.scope) (v : Expr) (t : Option Expr) (l : Nat) : swapsWith v t l e = swapsWith v t l e' := by
  unfold swapsWith
  simp only [h, block_sc h, kindOf_sc h]
theorem sole_sc {e e' : Env} (h : e.scope = e'.scope) (v : Expr) (t : List Expr) (l : Nat) : swapsWithSole t v l e = swapsWithSole t v l e' := by
  unfold swapsWithSole
  split
  · exact swaps_sc h _ _ _
  · rfl
theorem stores_sc {e e' : Env} (h : e.scope = e'.scope) (v : Expr) (t : List Expr) : swappedStores t v e = swappedStores t v e' := by
  unfold swappedStores
  simp only [block_sc h, kindOf_sc h]
def noSwap (c : Ck) (v : Expr) (t : Option Expr) (l : Nat) : Bool := match pureOf (swapsWith v t l (dEnv c.sc)) with | some false => true | _ => false
def yesSwap (c : Ck) (v : Expr) (t : Option Expr) (l : Nat) : Bool := match pureOf (swapsWith v t l (dEnv c.sc)) with | some true => true | _ => false
def noSole (c : Ck) (v : Expr) (t : List Expr) (l : Nat) : Bool := match pureOf (swapsWithSole t v l (dEnv c.sc)) with | some false => true | _ => false
def noStores (c : Ck) (v : Expr) (t : List Expr) : Bool := match pureOf (swappedStores t v (dEnv c.sc)) with | some none => true | _ => false
def stores (c : Ck) (v : Expr) (t : List Expr) (ns : List Str) : Bool := match pureOf (swappedStores t v (dEnv c.sc)) with | some (some m) => decide (m = ns) | _ => false
/-! ### the checker -/
def locOk (c : Ck) (i : Nat) (x : Str) : Bool := decide (c.N[i]? = some x) && (match c.sc.names.lookup x with | some .local => true | some .cell => c.loc x | _ => false)
def lclOk (c : Ck) (i : Nat) (x : Str) : Bool := decide (c.N[i]? = some x) && decide (c.sc.names.lookup x = some .local)
def ownE (own : Bool) (e : Ex) : Bool := if own then isNew e else fz e
def ownA (own : Bool) (e : Ex) : Bool := if own then isNew e || (match e with | .bin .add _ _ => true | _ => false) else fz e
/-- within an except suite -/
def suiteCk (c : Ck) : Ck := { c with calm := false, calls := [], ow := false, lam := false, mkr := false, clo := false, hot := c.ht, ht := none }
def tryCk (c : Ck) : Ck := { c with hot := none, ht := none }
def ownL : List (Nat × Bool) → List Ex → Bool
  | [], [] => true
  | t :: ts, e :: es => ownE t.2 e && ownL ts es
  | _, _ => false
def isBin : Ex → Bool
  | .bin .add _ _ => true
  | _ => false
def slotsIn (c : Ck) (is : List Nat) (es : List Expr) : Bool := decide (is.length = es.length) && (is.zip es).all fun q => (match q.2 with
    | .Name x _ => lclOk c q.1 x
    | _ => false)
/-- its result is not handed over -/
def fnPl (c : Ck) (k : Nat) : Bool := match fnAt c.fns k with | some f => !f.ow | none => false
/-- {} -/
def dOk (c : Ck) : Option Ex → Expr → Bool
  | none, .Dict [] [] _ => true
  | some e, .Call (.Name x _) [a] [] _ => c.calm && gname c "dict" x && fz e && okE c e a
  | _, _ => false
/-- a closure of a slot is called, no more -/
def callB (c : Ck) (a : Nat) : List Stmt → Bool
  | [.Expr (.Call (.Name f fp) [] [] p1) e1] => slotOk c a f && noSwap c (.Call (.Name f fp) [] [] p1) none e1.line
  | _ => false
mutual
def okSm (c : Ck) : Sm → Stmt → Bool
  | .asg i own e, .Assign [.Name x p] v pos => locOk c i x && ownA own e && okE c e v && (noSwap c v (some (.Name x p)) pos.line || (lclOk c i x && yesSwap c v (some (.Name x p)) pos.line && (match e with | .comp .. => true | _ => false)))
  | .asgs ts e, .Assign [.Tuple es k p] v pos => tgOk c (.tup (ts.map (·.1))) (.Tuple es k p) && noSole c v [.Tuple es k p] pos.line && noStores c v [.Tuple es k p] && okE c e v && (match ts with
      | [] => false
      | t :: ts => !(ts.any (·.2)) && (if t.2 then (match e with | .call k _ => (match fnAt c.fns k with | some f => f.ow | none => false) | _ => false) else fz e))
  | .par ts es, .Assign [.Tuple tes k p] (.Tuple as k2 p2) pos => c.calm && ownL ts es && okL false c es as && decide (es.length ≤ 1000) && noSole c (.Tuple as k2 p2) [.Tuple tes k p] pos.line &&
      ((noStores c (.Tuple as k2 p2) [.Tuple tes k p] && tgOk c (.tup (ts.map (·.1))) (.Tuple tes k p)) || (match ts, tes, as with
        | [t, u], [.Name x _, .Name y _], [_, _] => decide (t.1 ≠ u.1) && lclOk c t.1 x && lclOk c u.1 y && stores c (.Tuple as k2 p2) [.Tuple tes k p] [x, y]
        | [t, u, w], [.Name x _, .Name y _, .Name z _], [_, _, _] => decide (t.1 ≠ u.1) && decide (t.1 ≠ w.1) && decide (u.1 ≠ w.1) && lclOk c t.1 x && lclOk c u.1 y && lclOk c w.1 z && stores c (.Tuple as k2 p2) [.Tuple tes k p] [x, y, z]
        | _, _, _ => false))
  | .app i e, .Expr (.Call (.Attribute (.Name x _) nm apos) [a] [] cpos) _ => decide (nm = Str.ofString "append") && slotOk c i x && fz e && okE c e a && (apos.endLine == cpos.line)
  | .ext i e, .Expr (.Call (.Attribute (.Name x _) nm apos) [a] [] cpos) _ => decide (nm = Str.ofString "extend") && slotOk c i x && okE c e a && (apos.endLine == cpos.line)
  | .setL i k e, .Assign [.Subscript (.Name x p) ke p2] v pos => slotOk c i x && okE c k ke && noSlice ke && fz e && okE c e v && noSole c v [.Subscript (.Name x p) ke p2] pos.line && noStores c v [.Subscript (.Name x p) ke p2]
  | .exp e, .Expr v pos => fz e && okE c e v && noSwap c v none pos.line
  | .ret e, .Return (some v) _ => !c.ow && fz e && okE c e v
  | .retO e es, .Return (some (.Tuple (a :: as) _ _)) _ => c.ow && (match e with | .bor _ => true | .bin .add _ _ => true | e => isNew e) && okE c e a && okL false c es as && decide (es.length ≤ 1000)
  | .ife t a b, .If t' a' b' _ => fz t && okE c t t' && noIte t' && okB c a a' && okB c b b'
  | .for_ tg ik ies body, .For tg' iter body' [] _ => c.calm && (match iterArgs c ik tg' iter with | some as => okL false c ies as | none => false) && tgOk c tg tg' && okB c body body'
  | .whl t body, .While t' body' [] _ => fz t && okE c t t' && noIte t' && okB c body body'
  | .dnew i eo, .Assign [.Name x p] v pos => locOk c i x && dOk c eo v && noSwap c v (some (.Name x p)) pos.line
  | .setD i k e, .Assign [.Subscript (.Name x p) ke p2] v pos => slotOk c i x && okE c k ke && fz e && okE c e v && noSwap c v (some (.Subscript (.Name x p) ke p2)) pos.line
  | .parD i eo ts es, .Assign [.Tuple tes k p] (.Tuple (a0 :: as) k2 p2) pos => c.calm && dOk c eo a0 && ownL ts es && okL false c es as && decide (es.length ≤ 900) && noSole c (.Tuple (a0 :: as) k2 p2) [.Tuple tes k p] pos.line &&
      ((noStores c (.Tuple (a0 :: as) k2 p2) [.Tuple tes k p] && tgOk c (.tup (i :: ts.map (·.1))) (.Tuple tes k p)) || (match ts, tes, as with
        | [u], [.Name x _, .Name y _], [_] => decide (i ≠ u.1) && lclOk c i x && lclOk c u.1 y && stores c (.Tuple (a0 :: as) k2 p2) [.Tuple tes k p] [x, y]
        | _, _, _ => false))
  | .tryC ks j p k1 a1 k2 a2 i suite, .Try [.If (.Compare (.Name x _) [op] [.Constant q cj cp]  _) [.Expr (.Call (.Name f fp) [.Name y yp] [] p1) e1] [.Expr (.Call (.Name g gp) [.Name z zp] [] p2) e2] _] [.ExceptHandler (some (.Name xc _)) (some n) (b₀ :: suite') _] [] [] _ =>
      c.calm && c.tr && !c.ow && decide (op = .Eq) && slotOk c j x && conOk p q && fnOk c k1 f 1 && slotOk c a1 y && fnOk c k2 g 1 && slotOk c a2 z && noSwap c (.Call (.Name f fp) [.Name y yp] [] p1) none e1.line && noSwap c (.Call (.Name g gp) [.Name z zp] [] p2) none e2.line && excOk c 0 xc && lclOk c i n && (ks.all fun k => (excAt c.excs k).isSome) && okB (suiteCk c) suite (b₀ :: suite') && fnPl c k1 && fnPl c k2
  | .dnew2 i j e1 e2, .Assign [.Tuple [.Name x q1, .Name y q2] k p] (.Tuple [a0, a1] k2 p2) pos => c.calm && dOk c (some e1) a0 && dOk c (some e2) a1 && noSole c (.Tuple [a0, a1] k2 p2) [.Tuple [.Name x q1, .Name y q2] k p] pos.line && decide (i ≠ j) &&
      ((noStores c (.Tuple [a0, a1] k2 p2) [.Tuple [.Name x q1, .Name y q2] k p] && tgOk c (.tup [i, j]) (.Tuple [.Name x q1, .Name y q2] k p)) || (lclOk c i x && lclOk c j y && stores c (.Tuple [a0, a1] k2 p2) [.Tuple [.Name x q1, .Name y q2] k p] [x, y]))
  | .asgC i elt i1 e1 i2 e2, .Assign [.Name x p] (.ListComp elt' [⟨tg', it1, [], 0⟩, ⟨tg2', it2, [], 0⟩] scope cp) pos => c.calm && lclOk c i x && yesSwap c (.ListComp elt' [⟨tg', it1, [], 0⟩, ⟨tg2', it2, [], 0⟩] scope cp) (some (.Name x p)) pos.line
      && (match iterArgs c .val tg' it1 with | some as => okL true c [e1] as | none => false) && tgOk (blkCk c scope) (.one i1) tg' && tgOk (blkCk c scope) (.one i2) tg2' && (match iterArgs (blkCk c scope) .val tg2' it2 with | some as => okL false (blkCk c scope) [e2] as | none => false)
      && blkC c.N c.sc scope (ownOf c [i1, i2]) && (fz elt && okE (blkCk c scope) elt elt') && decide (i1 ≠ i2)
  | .parE i e j d, .Assign [.Tuple [.Name x q1, .Name y q2] k p] (.Tuple [a0, a1] k2 p2) pos => c.calm && (fz e && okE c e a0) && dOk c (some d) a1 && noSole c (.Tuple [a0, a1] k2 p2) [.Tuple [.Name x q1, .Name y q2] k p] pos.line && decide (i ≠ j) &&
      ((noStores c (.Tuple [a0, a1] k2 p2) [.Tuple [.Name x q1, .Name y q2] k p] && tgOk c (.tup [i, j]) (.Tuple [.Name x q1, .Name y q2] k p)) || (lclOk c i x && lclOk c j y && stores c (.Tuple [a0, a1] k2 p2) [.Tuple [.Name x q1, .Name y q2] k p] [x, y]))
  | .dcopy i j, .Assign [.Name x p] (.Call (.Name f fp) [.Name y yp] [] cp) pos => locOk c i x && gname c "dict" f && slotOk c j y && noSwap c (.Call (.Name f fp) [.Name y yp] [] cp) (some (.Name x p)) pos.line
  | .brk, .Break _ => true
  | .rai k, .Raise (some (.Call (.Name x _) [.Constant (.str _) _ _] [] _)) none _ => c.calm && excOk c k x
  | .doc, .Expr (.Constant (.str _) _ _) _ => true
  | .tryX ks a i suite, .Try body' [.ExceptHandler (some (.Name x _)) (some n) (b₀ :: suite') _] [] [] _ => c.calm && c.tr && !c.ow && c.clo && excOk c 0 x && lclOk c i n && (ks.all fun k => (excAt c.excs k).isSome) && callB c a body' && okB (suiteCk c) suite (b₀ :: suite')
  | .tryE ks body i suite, .Try body' [.ExceptHandler (some (.Name x _)) (some n) (b₀ :: suite') _] [] [] _ => c.calm && c.tr && !c.ow && excOk c 0 x && lclOk c i n && (ks.all fun k => (excAt c.excs k).isSome) && okB (tryCk c) body body' && okB (suiteCk c) suite (b₀ :: suite')
  | _, _ => false
def okB (c : Ck) : List Sm → List Stmt → Bool
  | [], [] => true
  | s :: ss, sts => (match s with
    | .frz _ => okB c ss sts
    | s => (match sts with
      | st :: sts => okSm c s st && okB c ss sts
      | [] => false))
  | _, _ => false
end
/-- a class of exceptions that is raised -/
def RaiseOk (Z : Zx) (X : Cx) (k : Nat) (x : Str) : Prop := ∃ B newId initId bmB, ExcBaseFacts B newId initId bmB ∧ PySem.W.excIn X.K (Z.cad k) bmB newId = true ∧ X.mg x = some (.ref (Z.cad k)) ∧ PySem.W.keepIn X.K (.ref (Z.cad k)) = true ∧ PySem.W.subIn X.K (.ref (Z.cad k)) (.type "BaseException") = some true ∧ PySem.W.typeIn X.K (.ref (Z.cad k)) = some (.type "type")
/-- where a body runs -/
structure Cs (Z : Zx) (F : Fs) (c : Ck) (X : Cx) (E : XK) : Prop extends Cxt Z F c X E where
  pown : PassesOwn (model X.prog X.w) X.A X.env X.xe
  tk : L2N.Takes X (fun cls d _ H => E cls d H)
  rz : ∀ k x, excAt c.excs k = some x → RaiseOk Z X k (Str.ofString x)
  stk : X.stack = X.env :: X.outer
  frm : X.env.frame = some X.env.locals
  xf : c.tr = true → ∀ k x, excAt c.excs k = some x → ExcC X.K (Z.cad k) ∧ PySem.W.exmOne X.K (.ref (Z.cad k)) (.ref (Z.cad 0)) = some true ∧ PySem.W.kitOne X.K (.ref (Z.cad k)) (.type "ValueError") = some true ∧ ∀ j y, excAt c.excs j = some y → PySem.W.kitOne X.K (.ref (Z.cad k)) (.ref (Z.cad j)) = some (subX k j)
  htr : ∀ k nm, c.ht = some (k, nm) → ∀ (a : Addr) (oe : Obj) (pn : List (Addr × Obj)) (j : Nat) (x : String), L2N.Zn (.ref (Z.cad j)) none oe → (∃ vs, oe.data = .fields vs) → excAt c.excs j = some x → HotRule { Z with xa := some (a, j) } F (X.suite a ((a, oe) :: pn)) XF k nm
/-! ### readings -/
/-- a result that is handed back -/
def PR (Z : Zx) (K : PySem.W.Frag) (w : Bool) (M : List Addr) (H : Hp) (Q : VK) (p : PV) : Prop :=
  if w then (∃ xs qs, p = .tup (.lst xs :: qs)) ∧ ∀ t a ys vs H' M' xs qs, p = .tup (.lst xs :: qs) → Own H' M' → a ∈ M' → H' a = some (.lst ys) → Ext Z.T (Hm H M) (Hm H' M') → SqT K H' t (.ref a :: vs) → RepL Z K (Hm H' M') xs ys → RepL Z K (Hm H' M') qs vs → Q (.ref t) H'
  else ∀ v H' M', Own H' M' → Ext Z.T (Hm H M) (Hm H' M') → Rep Z K (Hm H' M') p v → Q v H'
def PF (Z : Zx) (K : PySem.W.Frag) (E : XK) (w : Bool) (M : List Addr) (H : Hp) (D : Ends) : Fl → Prop
  | .next r => ∀ σ' H' M', SR Z K M' H' σ' r → Ext Z.T (Hm H M) (Hm H' M') → D.nx σ' H'
  | .brk r => ∀ σ' H' M', SR Z K M' H' σ' r → Ext Z.T (Hm H M) (Hm H' M') → D.bk σ' H'
  | .ret p => PR Z K w M H D.rt p
  | .exc k => ∀ H', Ext Z.T (Hm H M) H' → E (.ref (Z.cad k)) none H'
  | .bad => False
def tS (Z : Zx) (K : PySem.W.Frag) (E : XK) (w : Bool) (m : O.St → Fl) : TS := fun D σ H => ∃ ρ M, SR Z K M H σ ρ ∧ PF Z K E w M H D (m ρ)
theorem PS.imp {X : Cx} {e : Stmt} {t t' : TS} (h : PS X e t) (i : ∀ D σ H, t' D σ H → t D σ H) : PS X e t' := ⟨fun pins s σ H D I q => h.run pins s σ H D I (i D σ H q)⟩
theorem PSs.imp {X : Cx} {e : List Stmt} {t t' : TS} (h : PSs X e t) (i : ∀ D σ H, t' D σ H → t D σ H) : PSs X e t' := ⟨fun pins s σ H D I q => h.run pins s σ H D I (i D σ H q)⟩
section
variable {Z : Zx} {K : PySem.W.Frag} {E : XK} {w : Bool} {M M' : List Addr} {H H' : Hp} {D : Ends} {σ : L2.St} {ρ : O.St}
theorem PR.go {Q : VK} {p : PV} (e : Ext Z.T (Hm H M) (Hm H' M')) (h : PR Z K w M H Q p) : PR Z K w M' H' Q p := by
  unfold PR at h ⊢
  cases w with
  | true => exact ⟨h.1, fun t a ys vs H2 M2 xs qs e1 o ha h1 e2 => h.2 t a ys vs H2 M2 xs qs e1 o ha h1 (e.trans e2)⟩
  | false => exact fun v H2 M2 o e2 => h v H2 M2 o (e.trans e2)
theorem PF.go (e : Ext Z.T (Hm H M) (Hm H' M')) : ∀ {f : Fl}, PF Z K E w M H D f → PF Z K E w M' H' D f
  | .next _, h => fun σ' H2 M2 s e2 => h σ' H2 M2 s (e.trans e2)
  | .brk _, h => fun σ' H2 M2 s e2 => h σ' H2 M2 s (e.trans e2)
  | .ret _, h => PR.go e h
  | .exc _, h => fun H2 e2 => h H2 (e.trans e2)
  | .bad, h => h
/-- one after another -/
theorem seq_tS {m1 : O.St → Fl} {m2 : O.St → Fl} (h : tS Z K E w (fun r => (m1 r).andThen m2) D σ H) : tSeq (tS Z K E w m1) (tS Z K E w m2) D σ H := by
  obtain ⟨ρ, M, s, h⟩ := h
  refine ⟨ρ, M, s, ?_⟩
  dsimp only at h
  cases e : m1 ρ with
  | next r =>
    rw [e] at h
    intro σ' H' M' s' e'
    exact ⟨r, M', s', PF.go e' h⟩
  | brk r => rw [e] at h; exact h
  | ret p => rw [e] at h; exact h
  | exc k => rw [e] at h; exact h
  | bad => rw [e] at h; exact h
/-- an evaluated expression's way on -/
theorem fl_tM {m : O.St → R PV} {f : O.St → PV → Fl} {Q : VK} (h : tS Z K E w (fun r => (m r).fl (f r)) D σ H)
    (k : ∀ ρ M p v H', SR Z K M H σ ρ → m ρ = .ok p → Ext Z.T H H' → Rep Z K (Hm H' M) p v → PF Z K E w M H' D (f ρ p) → Q v H') : tM Z K E m σ H Q := by
  obtain ⟨ρ, M, s, h⟩ := h
  refine ⟨ρ, M, s, ?_⟩
  dsimp only at h
  cases e : m ρ with
  | bad => rw [e] at h; exact h
  | exc j => rw [e] at h; exact h
  | ok p =>
    rw [e] at h
    exact fun v H' e1 hv => k ρ M p v H' s e e1 hv (PF.go (e1.Hm s.own) h)
theorem fl_tO {m : O.St → R PV} {f : O.St → PV → Fl} {Q : VK} (h : tS Z K E w (fun r => (m r).fl (f r)) D σ H)
    (k : ∀ ρ M p v H', SR Z K M H σ ρ → m ρ = .ok p → Ext Z.T H H' → Vw Z K M H' p v → PF Z K E w M H' D (f ρ p) → Q v H') : tO Z K E m σ H Q := by
  obtain ⟨ρ, M, s, h⟩ := h
  refine ⟨ρ, M, s, ?_⟩
  dsimp only at h
  cases e : m ρ with
  | bad => rw [e] at h; exact h
  | exc j => rw [e] at h; exact h
  | ok p =>
    rw [e] at h
    exact fun v H' e1 hv => k ρ M p v H' s e e1 hv (PF.go (e1.Hm s.own) h)
theorem fl_tB {m : O.St → R PV} {f : O.St → PV → Fl} {Q : Bool → Hp → Prop} (h : tS Z K E w (fun r => (m r).fl (f r)) D σ H) (hb : ∀ r p, (∀ b, p ≠ .bl b) → f r p = .bad)
    (k : ∀ ρ M b H', SR Z K M H σ ρ → m ρ = .ok (.bl b) → Ext Z.T H H' → PF Z K E w M H' D (f ρ (.bl b)) → Q b H') : tB Z K E m σ H Q := by
  obtain ⟨ρ, M, s, h⟩ := h
  refine ⟨ρ, M, s, ?_⟩
  dsimp only at h
  cases e : m ρ with
  | bad => rw [e] at h; exact h
  | exc j => rw [e] at h; exact h
  | ok p =>
    rw [e] at h
    cases p with
    | bl b => exact fun H' e1 => k ρ M b H' s e e1 (PF.go (e1.Hm s.own) h)
    | _ => have h : PF Z K E w M H D (f ρ _) := h; rw [hb ρ _ (fun b z => by cases z)] at h; exact h
/-! ### laying values into slots -/
def LayOk (Z : Zx) (K : PySem.W.Frag) (M' : List Addr) (H' : Hp) : List (Nat × Bool) → List PV → List V → List Addr → Prop
  | [], [], vs, _ => vs = []
  | t :: ts, p :: ps, vs, A => ∃ v r, vs = v :: r ∧ if t.2 then ∃ a ys xs, v = .ref a ∧ p = .lst xs ∧ a ∉ A ∧ a ∈ M' ∧ H' a = some (.lst ys) ∧ RepL Z K (Hm H' M') xs ys ∧ LayOk Z K M' H' ts ps r (a :: A) else Rep Z K (Hm H' M') p v ∧ LayOk Z K M' H' ts ps r A
  | _, _, _, _ => False
/-- the held slots' addresses are among A -/
def Among (σ : L2.St) (ρ : O.St) (A : List Addr) : Prop := ∀ i a, Held ρ i → σ[i]? = some (some (.ref a)) → a ∈ A
theorem SR.among (s : SR Z K M H σ ρ) : Among σ ρ M := fun i a h e => by
  rcases h with ⟨xs, q⟩ | ⟨xs, q⟩
  · obtain ⟨b, vs, h1, h2, _⟩ := s.fo i xs q
    rw [e] at h1
    cases h1
    exact h2
  · obtain ⟨b, vs, h1, h2, _⟩ := s.fd i xs q
    rw [e] at h1
    cases h1
    exact h2
theorem SR.seto (s : SR Z K M H σ ρ) {i : Nat} {a : Addr} {xs : List PV} {vs : List V} {A : List Addr} (am : Among σ ρ A) (hA : a ∉ A) (hM : a ∈ M) (h1 : H a = some (.lst vs)) (h2 : RepL Z K (Hm H M) xs vs) : SR Z K M H (σ.set i (some (.ref a))) (ρ.set i (.ow xs)) where
  own := s.own
  tabs := s.tabs
  len := by simpa using s.len
  fv := fun j q e => by
    by_cases hj : j = i
    · subst hj
      exact absurd (set_at e).1 (by intro z; cases z)
    · rw [set_other hj] at e
      obtain ⟨u, q1, q2⟩ := s.fv j q e
      exact ⟨u, by rw [set_other hj]; exact q1, q2⟩
  fo := fun j q e => by
    by_cases hj : j = i
    · subst hj
      obtain ⟨e1, e2⟩ := set_at e
      cases e1
      exact ⟨a, vs, set_here (Nat.lt_of_lt_of_le e2 s.len), hM, h1, h2⟩
    · rw [set_other hj] at e
      obtain ⟨b, u, q1, q2⟩ := s.fo j q e
      exact ⟨b, u, by rw [set_other hj]; exact q1, q2⟩
  fd := fun j q e => by
    by_cases hj : j = i
    · subst hj
      exact absurd (set_at e).1 (by intro z; cases z)
    · rw [set_other hj] at e
      obtain ⟨b, u, q1, q2⟩ := s.fd j q e
      exact ⟨b, u, by rw [set_other hj]; exact q1, q2⟩
  apart := fun j k b hjk hj hk e => by
    by_cases j1 : j = i
    · subst j1
      have hk1 : k ≠ j := fun z => hjk z.symm
      rw [set_other hk1]
      have hk' := held_other hk1 hk
      intro z
      have := (set_at e).1
      cases this
      exact hA (am k _ hk' z)
    · rw [set_other j1] at e
      have hj' := held_other j1 hj
      by_cases k1 : k = i
      · subst k1
        intro z
        have := (set_at z).1
        cases this
        exact hA (am j _ hj' e)
      · rw [set_other k1]
        exact s.apart j k b hjk hj' (held_other k1 hk) e
theorem Among.setv {A : List Addr} (am : Among σ ρ A) {i : Nat} {p : PV} {o : Option V} : Among (σ.set i o) (ρ.set i (.v p)) A := fun j a h e => by
  by_cases hj : j = i
  · subst hj
    rcases h with ⟨_, q⟩ | ⟨_, q⟩ <;> exact absurd (set_at q).1 (by intro z; cases z)
  · rw [set_other hj] at e
    exact am j a (held_other hj h) e
theorem Among.seto {A : List Addr} (am : Among σ ρ A) {i : Nat} {b : Addr} {s : SV} : Among (σ.set i (some (.ref b))) (ρ.set i s) (b :: A) := fun j a h e => by
  by_cases hj : j = i
  · subst hj
    have := (set_at e).1
    cases this
    exact List.mem_cons_self ..
  · rw [set_other hj] at e
    exact List.mem_cons_of_mem _ (am j a (held_other hj h) e)
theorem SR.lay : ∀ {ts : List (Nat × Bool)} {ps : List PV} {vs : List V} {A : List Addr} {σ : L2.St} {ρ ρ' : O.St}, SR Z K M H σ ρ → Among σ ρ A → LayOk Z K M H ts ps vs A → layL ts ps ρ = some ρ' → SR Z K M H (setsV (ts.map (·.1)) vs σ) ρ'
  | [], [], vs, A, σ, ρ, ρ', s, am, h, e => by
    cases (show vs = [] from h)
    cases e
    exact s
  | (i, o) :: ts, p :: ps, vs, A, σ, ρ, ρ', s, am, h, e => by
    obtain ⟨v, r, rfl, h⟩ := h
    unfold layL at e
    cases o with
    | true =>
      obtain ⟨a, ys, xs, rfl, rfl, h1, h2, h3, h4, h5⟩ := h
      have e : layL ts ps (ρ.set i (.ow xs)) = some ρ' := e
      show SR Z K M H (setsV (ts.map (·.1)) r (σ.set i (some (.ref a)))) ρ'
      exact SR.lay (s.seto am h1 h2 h3 h4) am.seto h5 e
    | false =>
      obtain ⟨h1, h2⟩ := h
      have e : layL ts ps (ρ.set i (.v p)) = some ρ' := e
      show SR Z K M H (setsV (ts.map (·.1)) r (σ.set i (some v))) ρ'
      exact SR.lay (s.setv h1) am.setv h2 e
  | [], _ :: _, _, _, _, _, _, _, _, h, _ => h.elim
  | _ :: _, [], _, _, _, _, _, _, _, h, _ => h.elim
theorem LayOk.len : ∀ {ts : List (Nat × Bool)} {ps : List PV} {vs : List V} {A : List Addr}, LayOk Z K M H ts ps vs A → ts.length = vs.length
  | [], [], vs, A, h => by cases (show vs = [] from h); rfl
  | (i, o) :: ts, p :: ps, vs, A, h => by
    obtain ⟨v, r, rfl, h⟩ := h
    cases o with
    | true =>
      obtain ⟨a, ys, xs, _, _, _, _, _, _, h5⟩ := h
      rw [List.length_cons, List.length_cons, LayOk.len h5]
    | false => rw [List.length_cons, List.length_cons, LayOk.len h.2]
  | [], _ :: _, _, _, h => h.elim
  | _ :: _, [], _, _, h => h.elim
/-- frozen items alone -/
theorem LayOk.frozen : ∀ {ts : List (Nat × Bool)} {ps : List PV} {vs : List V} {A : List Addr}, ts.any (·.2) = false → ts.length = ps.length → RepL Z K (Hm H M) ps vs → LayOk Z K M H ts ps vs A
  | [], [], vs, A, _, _, h => h
  | (i, o) :: ts, p :: ps, vs, A, hf, hl, h => by
    obtain ⟨v, r, rfl, h1, h2⟩ := h
    rw [List.any_cons, Bool.or_eq_false_iff] at hf
    obtain ⟨f1, f2⟩ := hf
    cases (show o = false from f1)
    exact ⟨v, r, rfl, h1, LayOk.frozen f2 (by simpa using hl) h2⟩
  | [], _ :: _, _, _, _, hl, _ => by simp at hl
  | _ :: _, [], _, _, _, hl, _ => by simp at hl
end
end OS

end

section
set_option Elab.async false
set_option linter.all false
set_option maxRecDepth 100000
set_option maxHeartbeats 1000000
namespace OS
open PySem PySem.Spec PyProof.Rows L2 O
section
variable {Z : Zx} {K : PySem.W.Frag} {E : XK} {w : Bool} {M M' : List Addr} {H H' : Hp} {D : Ends} {σ : L2.St} {ρ : O.St}
/-- a new list that is owned from now on -/
theorem SR.fresh (s : SR Z K M H σ ρ) {a : Addr} {vs : List V} (e : Ext Z.T H H') (h1 : H' a = some (.lst vs)) (e2 : Ext Z.T (Hm H M) (Hm H' (a :: M))) : SR Z K (a :: M) H' σ ρ :=
  s.more (own_cons (s.own.go e) h1) (fun b hb => ⟨List.mem_cons_of_mem _ hb, by
    rcases s.own b hb with ⟨l, z⟩ | ⟨l, z⟩
    · rw [z]; exact e.keep _ _ z noTbl.lst
    · rw [z]; exact e.keep _ _ z noTbl.dK⟩) e2
theorem fl_tN {m : O.St → R PV} {f : O.St → PV → Fl} {Q : VK} (h : tS Z K E w (fun r => (m r).fl (f r)) D σ H) (hb : ∀ r p, (∀ xs, p ≠ .lst xs) → f r p = .bad)
    (k : ∀ ρ M xs a vs H', SR Z K M H σ ρ → m ρ = .ok (.lst xs) → a ∉ M → SR Z K (a :: M) H' σ ρ → H' a = some (.lst vs) → RepL Z K (Hm H' (a :: M)) xs vs → PF Z K E w (a :: M) H' D (f ρ (.lst xs)) → Q (.ref a) H') : tN Z K E m σ H Q := by
  obtain ⟨ρ, M, s, h⟩ := h
  refine ⟨ρ, M, s, ?_⟩
  dsimp only at h
  cases e : m ρ with
  | bad => rw [e] at h; exact h
  | exc j => rw [e] at h; exact h
  | ok p =>
    rw [e] at h
    cases p with
    | lst xs =>
      intro a vs H' ha e1 h1 e2 hr
      exact k ρ M xs a vs H' s e ha (s.fresh e1 h1 e2) h1 hr (PF.go e2 h)
    | _ => have h : PF Z K E w M H D (f ρ _) := h; rw [hb ρ _ (fun b z => by cases z)] at h; exact h
/-- a list in a slot that changes -/
theorem SR.change (s : SR Z K M H σ ρ) {i : Nat} {a : Addr} {xs xs' : List PV} {vs vs' : List V} (hi : ρ[i]? = some (.ow xs)) (h1 : σ[i]? = some (some (.ref a))) (ha : a ∈ M) (h2 : H a = some (.lst vs)) (h3 : RepL Z K (Hm H M) xs' vs') : SR Z K M (upd H a (.lst vs')) σ (ρ.set i (.ow xs')) := by
  have hm : Hm (upd H a (.lst vs')) M = Hm H M := hm_upd ha
  have hH : Held ρ i := .inl ⟨xs, hi⟩
  have hlt : i < ρ.length := (List.getElem?_eq_some_iff.mp hi).1
  have held : ∀ j, Held (ρ.set i (.ow xs')) j → Held ρ j := fun j hj => by
    by_cases e : j = i
    · subst e; exact hH
    · exact held_other e hj
  refine ⟨fun b hb => ?_, by simpa using s.len, fun j p e => ?_, fun j p e => ?_, fun j p e => ?_, fun j k b hjk hj hk => s.apart j k b hjk (held j hj) (held k hk), (tabs_upd h2).mpr s.tabs⟩
  · by_cases e : b = a
    · subst e; exact .inl ⟨_, upd_same⟩
    · rw [upd_ne e]; exact s.own b hb
  · have hj : j ≠ i := fun z => by subst z; exact absurd (set_at e).1 (by intro z; cases z)
    rw [set_other hj] at e
    rw [hm]
    exact s.fv j p e
  · by_cases hj : j = i
    · subst hj
      cases (set_at e).1
      exact ⟨a, vs', h1, ha, upd_same, by rw [hm]; exact h3⟩
    · rw [set_other hj] at e
      obtain ⟨b, us, q1, q2, q3, q4⟩ := s.fo j p e
      have : b ≠ a := fun z => by subst z; exact s.apart j i b hj (.inl ⟨_, e⟩) hH q1 h1
      exact ⟨b, us, q1, q2, by rw [upd_ne this]; exact q3, by rw [hm]; exact q4⟩
  · have hj : j ≠ i := fun z => by subst z; exact absurd (set_at e).1 (by intro z; cases z)
    rw [set_other hj] at e
    obtain ⟨b, us, q1, q2, q3, q4⟩ := s.fd j p e
    have : b ≠ a := fun z => by subst z; exact s.apart j i b hj (.inr ⟨_, e⟩) hH q1 h1
    exact ⟨b, us, q1, q2, by rw [upd_ne this]; exact q3, by rw [hm]; exact q4⟩
/-- an owned list is frozen -/
theorem SR.freeze (s : SR Z K M H σ ρ) {i : Nat} {xs : List PV} (hi : ρ[i]? = some (.ow xs)) : ∃ M', SR Z K M' H σ (ρ.set i (.v (.lst xs))) ∧ Ext Z.T (Hm H M) (Hm H M') := by
  obtain ⟨a, vs, h1, ha, h2, h3⟩ := s.fo i xs hi
  have hH : Held ρ i := .inl ⟨xs, hi⟩
  have own' : Own H (M.filter fun b => b ≠ a) := fun b hb => s.own b (List.mem_filter.mp hb).1
  have ext : Ext Z.T (Hm H M) (Hm H (M.filter fun b => b ≠ a)) := ⟨fun b o e _ => by
    obtain ⟨e1, e2⟩ := Hm.in e
    exact Hm.of e1 fun m => e2 (List.mem_filter.mp m).1, fun t => (tabs_Hm own').mpr ((tabs_Hm s.own).mp t)⟩
  have keep : ∀ b, b ∈ M → b ≠ a → b ∈ M.filter fun b => b ≠ a := fun b hb hn => List.mem_filter.mpr ⟨hb, by simpa using hn⟩
  have nota : a ∉ M.filter fun b => b ≠ a := fun m => by simpa using (List.mem_filter.mp m).2
  refine ⟨M.filter fun b => b ≠ a, ⟨own', by simpa using s.len, fun j p e => ?_, fun j p e => ?_, fun j p e => ?_, fun j k b hjk hj hk => ?_, s.tabs⟩, ext⟩
  · by_cases hj : j = i
    · subst hj
      cases (set_at e).1
      exact ⟨_, h1, a, vs, rfl, Hm.of h2 nota, RepL.go ext h3⟩
    · rw [set_other hj] at e
      obtain ⟨v, q1, q2⟩ := s.fv j p e
      exact ⟨v, q1, Rep.go ext q2⟩
  · have hj : j ≠ i := fun z => by subst z; exact absurd (set_at e).1 (by intro z; cases z)
    rw [set_other hj] at e
    obtain ⟨b, us, q1, q2, q3, q4⟩ := s.fo j p e
    exact ⟨b, us, q1, keep b q2 (fun z => by subst z; exact s.apart j i b hj (.inl ⟨_, e⟩) hH q1 h1), q3, RepL.go ext q4⟩
  · have hj : j ≠ i := fun z => by subst z; exact absurd (set_at e).1 (by intro z; cases z)
    rw [set_other hj] at e
    obtain ⟨b, us, q1, q2, q3, q4, q5, q6⟩ := s.fd j p e
    exact ⟨b, us, q1, keep b q2 (fun z => by subst z; exact s.apart j i b hj (.inr ⟨_, e⟩) hH q1 h1), q3, q4, q5, RepL.go ext q6⟩
  · have nh : ∀ j, Held (ρ.set i (.v (.lst xs))) j → j ≠ i := fun j hj z => by
      subst z
      rcases hj with ⟨_, e⟩ | ⟨_, e⟩ <;> exact absurd (set_at e).1 (by intro z; cases z)
    exact s.apart j k b hjk (held_other (nh j hj) hj) (held_other (nh k hk) hk)
end
section
variable {Z : Zx} {F : Fs} {X : Cx} {E : XK} {c : Ck}
/-- a statement of the language does what it says -/
def SndS (F : Fs) (s : Sm) : Prop := ∀ {Z : Zx} {c : Ck} {X : Cx} {E : XK} {st : Stmt}, Cs Z F c X E → okSm c s st = true → PS X st (tS Z X.K E c.ow (exS F s))
def SndB (F : Fs) (ss : List Sm) : Prop := ∀ {Z : Zx} {c : Ck} {X : Cx} {E : XK} {sts : List Stmt}, Cs Z F c X E → okB c ss sts = true → PSs X sts (tS Z X.K E c.ow (exB F ss))
theorem locOk_ok (C : Cxt Z F c X E) {i : Nat} {x : Str} (h : locOk c i x = true) : X.N[i]? = some x ∧ Loc X.env.scope x ∧ (X.fn x = true ∨ X.env.scope.names.lookup x = some .local) := by
  obtain ⟨h1, h2⟩ := band2 h
  obtain ⟨l1, l2⟩ := loc_of C h2
  exact ⟨by rw [C.N]; exact of_decide_eq_true h1, l1, l2⟩
theorem lclOk_ok (C : Cxt Z F c X E) {i : Nat} {x : Str} (h : lclOk c i x = true) : X.N[i]? = some x ∧ X.env.scope.names.lookup x = some .local := by
  obtain ⟨h1, h2⟩ := band2 h
  exact ⟨by rw [C.N]; exact of_decide_eq_true h1, by rw [C.sc]; exact of_decide_eq_true h2⟩
theorem noSwap_ok (C : Cxt Z F c X E) {v : Expr} {t : Option Expr} {l : Nat} (h : noSwap c v t l = true) : swapsWith v t l X.env = pure false := by
  unfold noSwap at h
  split at h
  · rename_i e
    rw [swaps_sc (e' := dEnv c.sc) C.sc]
    exact pureOf_eq e
  · cases h
theorem yesSwap_ok (C : Cxt Z F c X E) {v : Expr} {t : Option Expr} {l : Nat} (h : yesSwap c v t l = true) : swapsWith v t l X.env = pure true := by
  unfold yesSwap at h
  split at h
  · rename_i e
    rw [swaps_sc (e' := dEnv c.sc) C.sc]
    exact pureOf_eq e
  · cases h
theorem noSole_ok (C : Cxt Z F c X E) {v : Expr} {t : List Expr} {l : Nat} (h : noSole c v t l = true) : swapsWithSole t v l X.env = pure false := by
  unfold noSole at h
  split at h
  · rename_i e
    rw [sole_sc (e' := dEnv c.sc) C.sc]
    exact pureOf_eq e
  · cases h
theorem noStores_ok (C : Cxt Z F c X E) {v : Expr} {t : List Expr} (h : noStores c v t = true) : swappedStores t v X.env = pure none := by
  unfold noStores at h
  split at h
  · rename_i e
    rw [stores_sc (e' := dEnv c.sc) C.sc]
    exact pureOf_eq e
  · cases h
theorem stores_ok (C : Cxt Z F c X E) {v : Expr} {t : List Expr} {ns : List Str} (h : stores c v t ns = true) : swappedStores t v X.env = pure (some ns) := by
  unfold stores at h
  split at h
  · rename_i m e
    cases of_decide_eq_true h
    rw [stores_sc (e' := dEnv c.sc) C.sc]
    exact pureOf_eq e
  · cases h
theorem asg_rd {i : Nat} {own : Bool} {e : Ex} {D : Ends} {σ : L2.St} {H : Hp} {w : Bool} (h : tS Z X.K E w (exS F (.asg i own e)) D σ H) : tAsg (if own then tN Z X.K E (ev F e) else tM Z X.K E (ev F e)) (gName i) D σ H := by
  have h : tS Z X.K E w (fun r => (ev F e r).fl fun p => match laid own p with | some s => .next (r.set i s) | none => .bad) D σ H := by
    obtain ⟨ρ, M, s, q⟩ := h
    simp only [exS] at q
    exact ⟨ρ, M, s, q⟩
  cases own with
  | false => exact fl_tM h fun ρ M p v H' s _ e1 hv pf => pf _ H' M ((s.go e1).setv hv) (Ext.refl _)
  | true =>
    refine fl_tN h (fun r p hp => ?_) fun ρ M xs a vs H' s _ ha s2 h1 hr pf => pf _ H' (a :: M) (s2.seto s.among ha (List.mem_cons_self ..) h1 hr) (Ext.refl _)
    cases p <;> first | rfl | exact absurd rfl (hp _)
theorem own_pe (C : Cxt Z F c X E) {own : Bool} {e : Ex} {v : Expr} (h2 : ownE own e = true) (h3 : okE c e v = true) : PE X v (if own then tN Z X.K E (ev F e) else tM Z X.K E (ev F e)) := by
  cases own with
  | true => exact (snd F e).n C h2 h3
  | false => exact (snd F e).e C h2 h3
theorem snds_exp {e : Ex} : SndS F (.exp e) := by
  intro Z c X E st C h
  unfold okSm at h
  split at h <;> try cases h
  all_goals first | contradiction | skip
  rename_i e1; cases e1
  obtain ⟨h, h3⟩ := band2 h
  obtain ⟨h1, h2⟩ := band2 h
  refine PS.imp (ps_expr ((snd F e).e C.toCxt h1 h2) (noSwap_ok C.toCxt h3)) fun D σ H q => fl_tM (w := c.ow) (D := D) (f := fun r _ => .next r) ?_ fun ρ M p v H' s _ e1 hv pf => pf _ H' M (s.go e1) (Ext.refl _)
  obtain ⟨ρ, M, s, q⟩ := q
  exact ⟨ρ, M, s, by simpa only [exS] using q⟩
theorem snds_ret {e : Ex} : SndS F (.ret e) := by
  intro Z c X E st C h
  unfold okSm at h
  split at h <;> try cases h
  all_goals first | contradiction | skip
  rename_i e1; cases e1
  obtain ⟨h, h2⟩ := band2 h
  obtain ⟨h0, h1⟩ := band2 h
  have h0 := bnot1 h0
  rw [h0]
  refine PS.imp (ps_ret ((snd F e).e C.toCxt h1 h2)) fun D σ H q => fl_tM (w := false) (D := D) (f := fun _ p => .ret p) ?_ fun ρ M p v H' s _ e1 hv pf => pf v H' M (s.own.go e1) (Ext.refl _) hv
  obtain ⟨ρ, M, s, q⟩ := q
  exact ⟨ρ, M, s, by simpa only [exS] using q⟩
theorem snds_brk : SndS F .brk := by
  intro Z c X E st C h
  unfold okSm at h
  split at h <;> try cases h
  all_goals first | contradiction | skip
  rename_i e1; cases e1
  refine PS.imp ps_break fun D σ H q => ?_
  obtain ⟨ρ, M, s, q⟩ := q
  simp only [exS] at q
  exact q σ H M s (Ext.refl _)
theorem snds_doc : SndS F .doc := by
  intro Z c X E st C h
  unfold okSm at h
  split at h <;> try cases h
  all_goals first | contradiction | skip
  rename_i e1; cases e1
  refine PS.imp ps_doc fun D σ H q => ?_
  obtain ⟨ρ, M, s, q⟩ := q
  simp only [exS] at q
  exact q σ H M s (Ext.refl _)
theorem snds_rai {k : Nat} : SndS F (.rai k) := by
  intro Z c X E st C h
  unfold okSm at h
  split at h <;> try cases h
  all_goals first | contradiction | skip
  rename_i e1; cases e1
  obtain ⟨h1, h2⟩ := band2 h
  unfold excOk at h2
  obtain ⟨h2, h4⟩ := band2 h2
  obtain ⟨h2, h3⟩ := band2 h2
  cases ex : excAt c.excs k with
  | none => rw [ex] at h2; cases h2
  | some y =>
    rw [ex] at h2
    cases of_decide_eq_true h2
    obtain ⟨B, nid, iid, bmB, r1, r2, r3, r4, r5, r6⟩ := C.rz k y ex
    refine PS.imp (L2N.ps_raise (C.calm h1) C.tk (L2N.pmk_own r1 r2 r3 r4 (raises_own r5 r6) (gl_of C.toCxt h3) (plainN_ok h4).1)) fun D σ H q => ?_
    obtain ⟨ρ, M, s, q⟩ := q
    simp only [exS] at q
    exact q H (Ext.unHm s.own)
theorem snds_ife {t : Ex} {a b : List Sm} (ha : SndB F a) (hb : SndB F b) : SndS F (.ife t a b) := by
  intro Z c X E st C h
  unfold okSm at h
  split at h <;> try cases h
  all_goals first | contradiction | skip
  rename_i e1; cases e1
  obtain ⟨h, h5⟩ := band2 h
  obtain ⟨h, h4⟩ := band2 h
  obtain ⟨h, h3⟩ := band2 h
  obtain ⟨h1, h2⟩ := band2 h
  refine PS.imp (ps_if ((snd F t).t C.toCxt h1 h2 h3) (ha C h4) (hb C h5)) fun D σ H q => ?_
  refine fl_tB (w := c.ow) (D := D) (f := fun r p => match p with | .bl true => exB F a r | .bl false => exB F b r | _ => .bad) ?_ (fun r p hp => ?_) fun ρ M b' H' s _ e1 pf => ?_
  · obtain ⟨ρ, M, s, q⟩ := q
    simp only [exS] at q
    exact ⟨ρ, M, s, q⟩
  · cases p <;> first | rfl | exact absurd rfl (hp _)
  · cases b' with
    | true =>
      rw [if_pos rfl]
      exact ⟨ρ, M, s.go e1, pf⟩
    | false =>
      rw [if_neg Bool.false_ne_true]
      exact ⟨ρ, M, s.go e1, pf⟩
theorem snds_app {i : Nat} {e : Ex} : SndS F (.app i e) := by
  intro Z c X E st C h
  unfold okSm at h
  split at h <;> try cases h
  all_goals first | contradiction | skip
  rename_i e1; cases e1
  obtain ⟨h, h5⟩ := band2 h
  obtain ⟨h, h4⟩ := band2 h
  obtain ⟨h, h3⟩ := band2 h
  obtain ⟨h1, h2⟩ := band2 h
  cases of_decide_eq_true h1
  have hs := star_of h4 [] X.env
  refine PS.imp (ps_expr (pe_bm PySem.F.plainAttrs_list PySem.F.slot_list_append PySem.F.type_list_append mt_append (snd_var C.toCxt h2) (pa_cons ((snd F e).e C.toCxt h3 h4) pa_nil hs) rfl (by rw [hs]; rfl) h5 hs rfl)) fun D σ H q => ?_
  obtain ⟨ρ, M, s, q⟩ := q
  simp only [exS] at q
  cases ei : ρ[i]? with
  | none => rw [ei] at q; exact q.elim
  | some sv =>
    rw [ei] at q
    cases sv with
    | ow xs =>
      obtain ⟨a, vs, q1, q2, q3, q4⟩ := s.fo i xs ei
      refine ⟨.ref a, q1, .inl ⟨rfl, vs, SqL.of q3⟩, ρ, M, s, ?_⟩
      cases ee : ev F e ρ with
      | bad => simp only [ee] at q; exact q
      | exc k => simp only [ee] at q; exact q
      | ok p =>
        simp only [ee, R.fl_ok] at q
        by_cases hl : lim xs.length = true
        · rw [if_pos hl] at q
          intro v H1 e1 hv
          have s1 := s.go e1
          have q3' := e1.keep _ _ q3 noTbl.lst
          have q4' := RepL.go (e1.Hm s.own) q4
          refine ⟨a, vs, v, rfl, rfl, q3', by rw [← q4.length]; exact lim_lt hl, ?_⟩
          refine q σ _ M (s1.change ei q1 q2 q3' (RepL.append q4' ⟨v, [], rfl, hv, rfl⟩)) ?_
          rw [hm_upd q2]
          exact e1.Hm s.own
        · rw [if_neg hl] at q
          exact q.elim
    | _ => exact q.elim
theorem snds_ext {i : Nat} {e : Ex} : SndS F (.ext i e) := by
  intro Z c X E st C h
  unfold okSm at h
  split at h <;> try cases h
  all_goals first | contradiction | skip
  rename_i e1; cases e1
  obtain ⟨h, h5⟩ := band2 h
  obtain ⟨h, h4⟩ := band2 h
  obtain ⟨h1, h2⟩ := band2 h
  cases of_decide_eq_true h1
  have hs := star_of h4 [] X.env
  refine PS.imp (ps_expr (pe_bm PySem.F.plainAttrs_list PySem.F.slot_list_extend PySem.F.type_list_extend mt_extend (snd_var C.toCxt h2) (pa_cons ((snd F e).o C.toCxt h4) pa_nil hs) rfl (by rw [hs]; rfl) h5 hs rfl)) fun D σ H q => ?_
  obtain ⟨ρ, M, s, q⟩ := q
  simp only [exS] at q
  cases ei : ρ[i]? with
  | none => rw [ei] at q; exact q.elim
  | some sv =>
    rw [ei] at q
    cases sv with
    | ow xs =>
      obtain ⟨a, vs, q1, q2, q3, q4⟩ := s.fo i xs ei
      refine ⟨.ref a, q1, .inl ⟨rfl, vs, SqL.of q3⟩, ρ, M, s, ?_⟩
      cases ee : ev F e ρ with
      | bad => simp only [ee] at q; exact q
      | exc k => simp only [ee] at q; exact q
      | ok p =>
        simp only [ee, R.fl_ok] at q
        cases p with
        | lst ys =>
          by_cases hl : lim (xs.length + ys.length) = true
          · simp only [if_pos hl] at q
            intro v H1 e1 hv
            obtain ⟨b, us, rfl, w1, w2⟩ := hv
            have s1 := s.go e1
            have q3' := e1.keep _ _ q3 noTbl.lst
            have q4' := RepL.go (e1.Hm s.own) q4
            refine ⟨a, b, vs, us, rfl, rfl, q3', w1, by rw [← q4.length, ← w2.length]; exact lim_size hl, ?_⟩
            refine q σ _ M (s1.change ei q1 q2 q3' (RepL.append q4' w2)) ?_
            rw [hm_upd q2]
            exact e1.Hm s.own
          · simp only [if_neg hl] at q
            exact q.elim
        | _ => exact q.elim
    | _ => exact q.elim
theorem sub_assign {o ke : Expr} {pos : Pos} {env : Env} (h : noSlice ke = true) (v : Value) : assign (.Subscript o ke pos) env v = (do
      let ov ← holding [v] (eval o env)
      let iv ← holding [v, ov] (eval ke env)
      standAt pos
      holding [v, ov, iv] (setItem ov iv v)
      release [v, ov, iv] []) := by
  cases ke <;> first | rfl | cases h
theorem snds_setL {i : Nat} {k e : Ex} : SndS F (.setL i k e) := by
  intro Z c X E st C h
  unfold okSm at h
  split at h <;> try cases h
  all_goals first | contradiction | skip
  rename_i e1; cases e1
  obtain ⟨h, h7⟩ := band2 h
  obtain ⟨h, h6⟩ := band2 h
  obtain ⟨h, h5⟩ := band2 h
  obtain ⟨h, h4⟩ := band2 h
  obtain ⟨h, h3⟩ := band2 h
  obtain ⟨h1, h2⟩ := band2 h
  refine PS.imp (ps_asg ((snd F e).e C.toCxt h4 h5) (pg_sub (snd_var C.toCxt h1) ((snd F k).o C.toCxt h2) set_list (sub_assign h3)) (noSole_ok C.toCxt h6) (noStores_ok C.toCxt h7) rfl) fun D σ H q => ?_
  refine fl_tM (w := c.ow) (D := D) (f := fun r p => match r[i]? with
    | some (.ow xs) => (ev F k r).fl fun q => (match q with
      | .int n => (match O.ixN xs.length n with | some j => .next (r.set i (.ow (xs.set j p))) | none => .bad)
      | _ => .bad)
    | _ => .bad) ?_ fun ρ M p v H' s _ e1 hv q => ?_
  · obtain ⟨ρ, M, s, q⟩ := q
    simp only [exS] at q
    exact ⟨ρ, M, s, q⟩
  · cases ei : ρ[i]? with
    | none => rw [ei] at q; exact q.elim
    | some sv =>
      rw [ei] at q
      cases sv with
      | ow xs =>
        have s1 := s.go e1
        obtain ⟨a, vs, q1, q2, q3, q4⟩ := s1.fo i xs ei
        refine ⟨.ref a, q1, ρ, M, s1, ?_⟩
        cases ee : ev F k ρ with
        | bad => simp only [ee] at q; exact q
        | exc k => simp only [ee] at q; exact q
        | ok pk =>
          simp only [ee, R.fl_ok] at q
          cases pk with
          | int n =>
            cases ej : O.ixN xs.length n with
            | none => simp only [ej] at q; exact q.elim
            | some j =>
              simp only [ej] at q
              intro vk H2 e2 hk
              cases (show vk = _ from hk)
              have q3' := e2.keep _ _ q3 noTbl.lst
              refine ⟨a, vs, n, j, rfl, rfl, q3', by rw [← q4.length]; exact ej, ?_⟩
              refine q σ _ M ((s1.go e2).change ei q1 q2 q3' (RepL.set (Rep.go (e2.Hm s1.own) hv) j (RepL.go (e2.Hm s1.own) q4))) ?_
              rw [hm_upd q2]
              exact e2.Hm s1.own
          | _ => exact q.elim
      | _ => exact q.elim
end
end OS

end

section
set_option Elab.async false
set_option linter.all false
set_option maxRecDepth 100000
set_option maxHeartbeats 1000000
namespace OS
open PySem PySem.Spec PyProof.Rows L2 O
/-! ### what a loop walks: frozen things -/
def tIF (Z : Zx) (K : PySem.W.Frag) (E : XK) (m : O.St → R (List PV)) : TI := fun σ H RR => ∃ ρ M, SR Z K M H σ ρ ∧ match m ρ with
  | .ok xs => ∀ J H1, Ext Z.T H H1 → ItOk Z K J xs (Hm H1 M) (Hm H1 M) → RR J H1
  | .exc k => ∀ H', Ext Z.T (Hm H M) H' → E (.ref (Z.cad k)) none H'
  | .bad => False
section
variable {Z : Zx} {K : PySem.W.Frag} {H H' : Hp} {M : List Addr}
theorem hm2 : Hm (Hm H M) [] = Hm H M := Hm.nil
theorem own_nil : Own H [] := fun _ z => by cases z
theorem rep_vw {p : PV} {x : V} (h : Rep Z K (Hm H M) p x) : Vw Z K [] (Hm H M) p x := by
  cases p with
  | lst xs =>
    obtain ⟨a, vs, h1, h2, h3⟩ := h
    exact ⟨a, vs, h1, h2, by rw [hm2]; exact h3⟩
  | _ =>
    show Rep Z K (Hm (Hm H M) []) _ x
    rw [hm2]; exact h
theorem SZ.up (o : Own H M) {z : SZ} {vs : List V} (h : z.src K (Hm H M) vs) : z.src K H vs := by
  cases z with
  | lst a => exact sqL_up o h
  | tup a => exact SqT.go (Ext.unHm (T := []) o) h
  | str s => exact h
theorem itF {J : It} {xs : List PV} (h : ItOk Z K J xs (Hm H M) (Hm (Hm H M) [])) : ItOk Z K J xs (Hm H M) (Hm H M) := by rw [hm2] at h; exact h
end
section
variable {Z : Zx} {F : Fs} {X : Cx} {E : XK} {c : Ck}
theorem tIF_of {m : O.St → R (List PV)} {ik : IK} {σ : L2.St} {H : Hp} {RR : It → Hp → Prop} (h : tIF Z X.K E (fun ρ => (m ρ).bind (walk ik)) σ H RR) {Q : List V → Hp → Prop}
    (k : ∀ M ps xs vs H', walk ik ps = .ok xs → Own H' M → RepL Z X.K (Hm H' M) ps vs → (∀ J H1, Ext Z.T H' H1 → ItOk Z X.K J xs (Hm H1 M) (Hm H1 M) → RR J H1) → Q vs H') : tL Z X.K E m σ H Q := by
  obtain ⟨ρ, M, s, h⟩ := h
  dsimp only at h
  refine ⟨ρ, M, s, ?_⟩
  cases ea : m ρ with
  | bad => rw [ea] at h; exact h
  | exc j => rw [ea] at h; exact h
  | ok ps =>
    rw [ea] at h
    simp only [R.bind_ok] at h
    intro vs H1 e1 w1
    cases er : walk ik ps with
    | bad => rw [er] at h; exact h.elim
    | exc j => exact (walk_nox er).elim
    | ok xs =>
      rw [er] at h
      exact k M ps xs vs H1 er (s.own.go e1) w1 fun J H2 e2 io => h J H2 (e1.trans e2) io
theorem sound_F (C : Cxt Z F c X E) {ik : IK} {ies : List Ex} {tg iter : Expr} {as : List Expr} (h : iterArgs c ik tg iter = some as) (hl : okL false c ies as = true) : PI X tg iter (tIF Z X.K E (fun ρ => (evs F ies ρ).bind (walk ik))) := by
  have hA := args_sound C hl fun ir hm e hf ho => (snd F ir).e C hf ho
  unfold iterArgs at h
  split at h
  · split at h
    · cases h
    · rename_i a _
      cases h
      obtain ⟨e, rfl⟩ : ∃ e, ies = [e] := by
        have := okL_shape hl
        match ies, this with
        | [e], _ => exact ⟨e, rfl⟩
      obtain ⟨hf, he, _⟩ := okL_cons hl
      have hE := (snd F e).e C hf he
      refine PI.imp (PI.or (pi_list hE) (PI.or (pi_tup hE) (pi_str hE))) fun σ H RR q => ?_
      obtain ⟨ρ, M, s, q⟩ := q
      simp only [evs] at q
      cases ea : ev F e ρ with
      | bad => rw [ea] at q; exact q.elim
      | exc j => rw [ea] at q; exact .inl ⟨ρ, M, s, by rw [ea]; exact q⟩
      | ok p =>
        rw [ea] at q
        simp only [R.bind_ok] at q
        have hq : ∃ xs, items p = some xs ∧ ∀ J H1, Ext Z.T H H1 → ItOk Z X.K J xs (Hm H1 M) (Hm H1 M) → RR J H1 := by
          cases ew : walk .val [p] with
          | bad => rw [ew] at q; exact q.elim
          | exc j => exact (walk_nox ew).elim
          | ok xs =>
            rw [ew] at q
            obtain ⟨p', e0, e1, e2⟩ := walk_val ew
            cases e0
            exact ⟨xs, e1, q⟩
        clear q
        obtain ⟨xs, e1, q⟩ := hq
        cases p with
        | lst ys =>
          cases e1
          refine .inl ⟨ρ, M, s, ?_⟩
          rw [ea]
          intro v H1 e w
          obtain ⟨a', vs, rfl, h1, h2⟩ := w
          exact ⟨a', rfl, ⟨vs, SqL.of (Hm.in h1).1⟩, q _ H1 e (itF (itok_list h1 (by rw [hm2]; exact h2)))⟩
        | tup ys =>
          cases e1
          refine .inr (.inl ⟨ρ, M, s, ?_⟩)
          rw [ea]
          intro v H1 e w
          obtain ⟨a', vs, rfl, h1, h2⟩ := w
          exact ⟨a', rfl, ⟨vs, sqT_up (s.own.go e) h1⟩, q _ H1 e (itF (itok_tup h1.1 (by rw [hm2]; exact h2)))⟩
        | str z =>
          cases e1
          refine .inr (.inr ⟨ρ, M, s, ?_⟩)
          rw [ea]
          intro v H1 e w
          obtain ⟨rfl, k⟩ := w
          exact ⟨_, rfl, q _ H1 e (itF (itok_str k))⟩
        | _ => cases e1
  · split at h
    · rename_i hn
      cases h
      obtain ⟨rfl, g, d, n⟩ := gname_ok C hn
      match ies, hl, hA with
      | [e], hl, hA =>
        obtain ⟨_, he, _⟩ := okL_cons hl
        refine PI.imp (pi_range1 g (mg_free C (x := "range") (by simp)) hA (star_of he _ _)) fun σ H RR q => tIF_of q fun M ps xs vs H1 ew ow w k => ?_
        obtain ⟨j, rfl, sm, rfl⟩ := walk_rng1 ew
        obtain ⟨v, _, rfl, hv, rfl⟩ := w
        cases (show v = _ from hv)
        unfold small at sm
        rw [Bool.and_eq_true, decide_eq_true_eq, decide_eq_true_eq] at sm
        exact ⟨j, rfl, by omega, by omega, k _ H1 (Ext.refl H1) (itF itok_range)⟩
      | [], hl, _ => have := okL_shape hl; simp at this
      | _ :: _ :: _, hl, _ => have := okL_shape hl; simp at this
    · cases h
  · split at h
    · rename_i hn
      cases h
      obtain ⟨rfl, g, d, n⟩ := gname_ok C hn
      match ies, hl, hA with
      | [e, f], hl, hA =>
        obtain ⟨_, he, hl2⟩ := okL_cons hl
        obtain ⟨_, hf, _⟩ := okL_cons hl2
        refine PI.imp (pi_range2 g (mg_free C (x := "range") (by simp)) hA (by rw [star_of he, star_of hf]; rfl) (by rw [star_of hf]; rfl)) fun σ H RR q => tIF_of q fun M ps xs vs H1 ew ow w k => ?_
        obtain ⟨i, j, rfl, sm, rfl⟩ := walk_rng2 ew
        obtain ⟨v, _, rfl, hv, u, _, rfl, hu, rfl⟩ := w
        cases (show v = _ from hv)
        cases (show u = _ from hu)
        unfold small at sm
        rw [Bool.and_eq_true, Bool.and_eq_true, Bool.and_eq_true, decide_eq_true_eq, decide_eq_true_eq, decide_eq_true_eq, decide_eq_true_eq] at sm
        exact ⟨i, j, rfl, ⟨by omega, by omega, by omega, by omega⟩, k _ H1 (Ext.refl H1) (itF itok_range)⟩
      | [], hl, _ => have := okL_shape hl; simp at this
      | [_], hl, _ => have := okL_shape hl; simp at this
      | _ :: _ :: _ :: _, hl, _ => have := okL_shape hl; simp at this
    · cases h
  · split at h
    · rename_i hn
      cases h
      obtain ⟨rfl, g, d, n⟩ := gname_ok C hn
      match ies, hl, hA with
      | [e, f], hl, hA =>
        obtain ⟨_, he, hl2⟩ := okL_cons hl
        obtain ⟨_, hf, _⟩ := okL_cons hl2
        refine PI.imp (pi_zipS g (mg_free C (x := "zip") (by simp)) hA (star_of he _ _) (stars_of hl2)) fun σ H RR q => tIF_of q fun M ps xs vs H1 ew ow w k => ?_
        obtain ⟨p1, p2, ys, zs, rfl, i1, i2, rfl⟩ := walk_zip ew
        obtain ⟨v, _, rfl, hv, u, _, rfl, hu, rfl⟩ := w
        obtain ⟨z1, vs1, rfl, s1, r1⟩ := vw_src own_nil (rep_vw hv) i1
        obtain ⟨z2, vs2, rfl, s2, r2⟩ := vw_src own_nil (rep_vw hu) i2
        exact ⟨z1, z2, vs1, vs2, rfl, SZ.up ow s1, SZ.up ow s2, fun k1 k2 a1 a2 => k _ H1 (Ext.refl H1) (itF (itok_zip (SK.of_base a1 s1) (SK.of_base a2 s2) r1 r2))⟩
      | [], hl, _ => have := okL_shape hl; simp at this
      | [_], hl, _ => have := okL_shape hl; simp at this
      | _ :: _ :: _ :: _, hl, _ => have := okL_shape hl; simp at this
    · cases h
  · split at h
    · rename_i hn
      cases h
      obtain ⟨rfl, g, d, n⟩ := gname_ok C hn
      match ies, hl, hA with
      | [e], hl, hA =>
        obtain ⟨_, he, hl2⟩ := okL_cons hl
        refine PI.imp (pi_enumA g (mg_free C (x := "enumerate") (by simp)) hA (star_of he _ _)) fun σ H RR q => tIF_of q fun M ps xs vs H1 ew ow w k => ?_
        obtain ⟨p1, ys, rfl, i1, l1, rfl⟩ := walk_enum ew
        obtain ⟨v, _, rfl, hv, rfl⟩ := w
        obtain ⟨z1, vs1, rfl, s1, r1⟩ := vw_src own_nil (rep_vw hv) i1
        exact ⟨z1, vs1, rfl, SZ.up ow s1, fun k1 a1 => k _ H1 (Ext.refl H1) (itF (itok_enum (SK.of_base a1 s1) r1))⟩
      | [], hl, _ => have := okL_shape hl; simp at this
      | _ :: _ :: _, hl, _ => have := okL_shape hl; simp at this
    · cases h
  · cases h
theorem folded_of {ik : IK} {tg iter : Expr} {as : List Expr} (ia : iterArgs c ik tg iter = some as) (env : Env) (x : Value) : foldedSetIterable iter env x = pure x := by
  unfold iterArgs at ia
  split at ia
  · split at ia
    · cases ia
    · rename_i hns
      cases iter <;> first | rfl | (exact (hns _ _ _ rfl).elim)
  all_goals first | rfl | cases ia
/-! ### loops -/
theorem snds_for {tg : Tg} {ik : IK} {ies : List Ex} {body : List Sm} (hb : SndB F body) : SndS F (.for_ tg ik ies body) := by
  intro Z c X E st C h
  unfold okSm at h
  split at h <;> try cases h
  all_goals first | contradiction | skip
  rename_i e1; cases e1
  rename_i tg' iter body' pos
  obtain ⟨h, h4⟩ := band2 h
  obtain ⟨h, h3⟩ := band2 h
  obtain ⟨h1, h2⟩ := band2 h
  cases ia : iterArgs c ik tg' iter with
  | none => rw [ia] at h2; cases h2
  | some as =>
    rw [ia] at h2
    have h2 : okL false c ies as = true := h2
    refine PS.imp (ps_for C.pown (C.calm h1) (sound_F C.toCxt ia h2) (tg_sound C.toCxt h3) (hb C h4) (folded_of ia _)) fun D σ H q => ?_
    obtain ⟨ρ, M, s, q⟩ := q
    refine ⟨ρ, M, s, ?_⟩
    dsimp only
    simp only [exS] at q
    have q : PF Z X.K E c.ow M H D (((evs F ies ρ).bind (walk ik)).fl fun xs => forL (fun x r' => (bindT tg x r').fl fun r'' => exB F body r'') xs ρ) := by
      revert q
      cases evs F ies ρ <;> exact id
    cases ea : (evs F ies ρ).bind (walk ik) with
    | bad => rw [ea] at q; exact q
    | exc k => rw [ea] at q; exact q
    | ok xs =>
      rw [ea] at q
      simp only [R.fl_ok] at q
      intro J H1 e1 io
      have q := PF.go (e1.Hm s.own) q
      generalize hfl : forL (fun x r' => (bindT tg x r').fl fun r'' => exB F body r'') xs ρ = fl at q
      refine ⟨fun i m σc Hc => m = xs.length - i ∧ i ≤ xs.length ∧ ∃ ρc Mc, SR Z X.K Mc Hc σc ρc ∧ Ext Z.T (Hm H1 M) (Hm Hc Mc) ∧ forL (fun x r' => (bindT tg x r').fl fun r'' => exB F body r'') (xs.drop i) ρc = fl, ⟨xs.length, by simp, Nat.zero_le _, ρ, M, s.go e1, Ext.refl _, by simpa using hfl⟩, ?_⟩
      rintro i m σc Hc ⟨rfl, hi, ρc, Mc, sc, ec, ef⟩
      obtain ⟨j1, j2, j3⟩ := io Hc Mc sc.own (ec.trans (Ext.unHm sc.own)) ec i
      by_cases hlt : i < xs.length
      · refine .inr ⟨j1 hlt, fun σ' H' => ∃ ρc Mc, SR Z X.K Mc H' σ' ρc ∧ Ext Z.T (Hm H1 M) (Hm H' Mc) ∧ forL (fun x r' => (bindT tg x r').fl fun r'' => exB F body r'') (xs.drop (i + 1)) ρc = fl, fun σ' H' hN => ⟨xs.length - (i + 1), by omega, rfl, hlt, hN⟩, fun x H' hy => ?_⟩
        rw [List.drop_eq_getElem_cons hlt] at ef
        obtain ⟨e2, hx⟩ := j3 xs[i] x H' (List.getElem?_eq_getElem hlt) hy
        unfold forL at ef
        have s2 := sc.go e2
        have ec2 := ec.trans (e2.Hm sc.own)
        cases et : bindT tg xs[i] ρc with
        | bad => rw [et] at ef; simp only [R.fl_bad] at ef; subst ef; exact q.elim
        | exc k =>
          exfalso
          unfold bindT at et
          split at et <;> (try split at et) <;> cases et
        | ok ρ' =>
          rw [et] at ef
          simp only [R.fl_ok] at ef
          refine gT_of s2 et hx fun σ' s' _ _ => ⟨ρ', Mc, s', ?_⟩
          cases eb : exB F body ρ' with
          | next r =>
            rw [eb] at ef
            intro σ3 H3 M3 s3 e3
            exact ⟨r, M3, s3, ec2.trans e3, ef⟩
          | brk r =>
            rw [eb] at ef
            subst ef
            exact fun σ3 H3 M3 s3 e3 => q σ3 H3 M3 s3 (ec2.trans e3)
          | ret p => rw [eb] at ef; subst ef; exact PR.go ec2 q
          | exc k => rw [eb] at ef; subst ef; exact fun H3 e3 => q H3 (ec2.trans e3)
          | bad => rw [eb] at ef; subst ef; exact q.elim
      · have e : i = xs.length := by omega
        subst e
        rw [List.drop_length] at ef
        unfold forL at ef
        subst ef
        exact .inl ⟨j2 rfl, q σc Hc Mc sc ec⟩
theorem snds_whl {t : Ex} {body : List Sm} (hb : SndB F body) : SndS F (.whl t body) := by
  intro Z c X E st C h
  unfold okSm at h
  split at h <;> try cases h
  all_goals first | contradiction | skip
  rename_i e1; cases e1
  obtain ⟨h, h4⟩ := band2 h
  obtain ⟨h, h3⟩ := band2 h
  obtain ⟨h1, h2⟩ := band2 h
  refine PS.imp (ps_while C.pown ((snd F t).t C.toCxt h1 h2 h3) (hb C h4)) fun D σ H q => ?_
  obtain ⟨ρ, M, s, q⟩ := q
  simp only [exS] at q
  generalize hfl : whlL (fun r' => ev F t r') (fun r' => exB F body r') fuel ρ = fl at q
  refine ⟨fun m σc Hc => ∃ ρc Mc, SR Z X.K Mc Hc σc ρc ∧ Ext Z.T (Hm H M) (Hm Hc Mc) ∧ whlL (fun r' => ev F t r') (fun r' => exB F body r') m ρc = fl, ⟨fuel, ρ, M, s, Ext.refl _, hfl⟩, ?_⟩
  rintro m σc Hc ⟨ρc, Mc, sc, ec, ef⟩
  cases m with
  | zero =>
    unfold whlL at ef
    subst ef
    exact q.elim
  | succ m =>
    unfold whlL at ef
    refine ⟨ρc, Mc, sc, ?_⟩
    cases et : ev F t ρc with
    | bad => simp only [et, R.fl_bad] at ef; subst ef; exact q
    | exc k => simp only [et, R.fl_exc] at ef; subst ef; exact fun H3 e3 => q H3 (ec.trans e3)
    | ok p =>
      simp only [et, R.fl_ok] at ef
      cases p with
      | bl b =>
        intro H1 e1
        have s1 := sc.go e1
        have ec1 := ec.trans (e1.Hm sc.own)
        cases b with
        | false =>
          rw [if_neg Bool.false_ne_true]
          simp only at ef
          subst ef
          exact q σc H1 Mc s1 ec1
        | true =>
          rw [if_pos rfl]
          simp only at ef
          refine ⟨fun σ' H' => ∃ ρc Mc, SR Z X.K Mc H' σ' ρc ∧ Ext Z.T (Hm H M) (Hm H' Mc) ∧ whlL (fun r' => ev F t r') (fun r' => exB F body r') m ρc = fl, fun σ' H' hN => ⟨m, Nat.lt_succ_self m, hN⟩, ρc, Mc, s1, ?_⟩
          cases eb : exB F body ρc with
          | next r =>
            rw [eb] at ef
            exact fun σ3 H3 M3 s3 e3 => ⟨r, M3, s3, ec1.trans e3, ef⟩
          | brk r =>
            rw [eb] at ef
            subst ef
            exact fun σ3 H3 M3 s3 e3 => q σ3 H3 M3 s3 (ec1.trans e3)
          | ret p => rw [eb] at ef; subst ef; exact PR.go ec1 q
          | exc k => rw [eb] at ef; subst ef; exact fun H3 e3 => q H3 (ec1.trans e3)
          | bad => rw [eb] at ef; subst ef; exact q.elim
      | _ => simp only at ef; subst ef; exact q.elim
/-! ### several targets -/
theorem asgs_frozen {ts : List (Nat × Bool)} {e : Ex} {es : List Expr} {k : Nat} {p : Pos} {v : Expr} {pos : Pos} (C : Cs Z F c X E) (hf : ts.any (·.2) = false) (h1 : tgOk c (.tup (ts.map (·.1))) (.Tuple es k p) = true) (h2 : noSole c v [.Tuple es k p] pos.line = true) (h3 : noStores c v [.Tuple es k p] = true) (h4 : okE c e v = true) (h5 : fz e = true) :
    PS X (.Assign [.Tuple es k p] v pos) (tS Z X.K E c.ow (exS F (.asgs ts e))) := by
  refine PS.imp (ps_asg ((snd F e).e C.toCxt h5 h4) (tg_sound C.toCxt h1) (noSole_ok C.toCxt h2) (noStores_ok C.toCxt h3) rfl) fun D σ H q => ?_
  refine fl_tM (w := c.ow) (D := D) (f := fun r p => match p with
    | .tup ps => (match layL ts ps r with | some r' => .next r' | none => .bad)
    | _ => .bad) ?_ fun ρ M p v H' s _ e1 hv q => ?_
  · obtain ⟨ρ, M, s, q⟩ := q
    simp only [exS] at q
    exact ⟨ρ, M, s, q⟩
  · cases p with
    | tup ps =>
      cases el : layL ts ps ρ with
      | none => simp only [el] at q; exact q.elim
      | some ρ' =>
        simp only [el] at q
        obtain ⟨a, vs, rfl, r1, r2⟩ := hv
        have s1 := s.go e1
        have hlen : ts.length = ps.length := by
          have go : ∀ (ts : List (Nat × Bool)) (ps : List PV) (r r' : O.St), layL ts ps r = some r' → ts.length = ps.length := by
            intro ts
            induction ts with
            | nil => intro ps r r' h; cases ps with | nil => rfl | cons => cases h
            | cons t ts ih =>
              intro ps r r' h
              cases ps with
              | nil => cases h
              | cons p ps =>
                unfold layL at h
                cases hl : laid t.2 p with
                | none => simp only [hl] at h; cases h
                | some sv => simp only [hl] at h; rw [List.length_cons, List.length_cons, ih ps _ _ h]
          exact go ts ps ρ ρ' el
        have hl2 := r2.length
        refine ⟨a, vs, rfl, sqT_up s1.own r1, by rw [List.length_map]; omega, gNs_of (by rw [List.length_map]; omega) ?_⟩
        exact q _ H' M (SR.lay s1 s1.among (LayOk.frozen hf hlen r2) el) (Ext.refl _)
    | _ => exact q.elim
/-- arguments, some of them new lists that are owned from now on -/
def tOw (Z : Zx) (K : PySem.W.Frag) (E : XK) (ts : List (Nat × Bool)) (m : O.St → R (List PV)) : TA := fun σ H Q => ∃ ρ M, SR Z K M H σ ρ ∧ match m ρ with
  | .ok ps => ∀ vs H' M', SR Z K M' H' σ ρ → Among σ ρ M → Ext Z.T (Hm H M) (Hm H' M') → (∀ a ∈ M, a ∈ M' ∧ H' a = H a) → LayOk Z K M' H' ts ps vs M → Q vs H'
  | .exc k => ∀ H', Ext Z.T (Hm H M) H' → E (.ref (Z.cad k)) none H'
  | .bad => False
theorem own_keep {T : List (Addr × Str)} {M : List Addr} {H H' : Hp} (o : Own H M) (e : Ext T H H') : ∀ a ∈ M, H' a = H a := fun b hb => by
  rcases o b hb with ⟨l, z⟩ | ⟨l, z⟩
  · rw [z]; exact e.keep _ _ z noTbl.lst
  · rw [z]; exact e.keep _ _ z noTbl.dK
theorem new_lst {ir : Ex} {ρ : O.St} {p : PV} (h : isNew ir = true) (e : ev F ir ρ = .ok p) : ∃ xs, p = .lst xs := by
  cases ir with
  | lst es =>
    simp only [ev] at e
    cases e2 : evs F es ρ with
    | ok ps => rw [e2] at e; cases e; exact ⟨_, rfl⟩
    | exc k => rw [e2] at e; cases e
    | bad => rw [e2] at e; cases e
  | comp elt tg ik ies ifs =>
    rw [ev_comp] at e
    cases e1 : (evs F ies ρ).bind (walk ik) with
    | ok xs =>
      rw [e1] at e
      simp only [R.bind_ok] at e
      cases e2 : compL (turnC F elt tg ifs ρ) xs with
      | ok ys => rw [e2] at e; cases e; exact ⟨_, rfl⟩
      | exc k => rw [e2] at e; cases e
      | bad => rw [e2] at e; cases e
    | exc k => rw [e1] at e; cases e
    | bad => rw [e1] at e; cases e
  | _ => cases h
theorem own_args (C : Cxt Z F c X E) : ∀ {ts : List (Nat × Bool)} {irs : List Ex} {es : List Expr}, ownL ts irs = true → okL false c irs es = true → PA X es (tOw Z X.K E ts (evs F irs))
  | [], [], [], _, _ => PA.imp pa_nil fun σ H Q ⟨ρ, M, s, q⟩ => by
      simp only [evs] at q
      exact q [] H M s s.among (Ext.refl _) (fun a ha => ⟨ha, rfl⟩) rfl
  | t :: ts, ir :: irs, e :: es, h1, h2 => by
    obtain ⟨h0, g1, g2⟩ := okL_cons h2
    obtain ⟨f1, f2⟩ := band2 h1
    refine PA.imp (pa_cons (own_pe C f1 g1) (own_args C f2 g2) (star_of g1 _ _)) fun σ H Q ⟨ρ, M, s, q⟩ => ?_
    simp only [evs] at q
    obtain ⟨i, o⟩ := t
    cases o with
    | false =>
      refine ⟨ρ, M, s, ?_⟩
      cases ea : ev F ir ρ with
      | bad => rw [ea] at q; exact q
      | exc k => rw [ea] at q; exact q
      | ok p =>
        rw [ea] at q
        simp only [R.bind_ok] at q
        intro v H1 e1 hv
        have s1 := s.go e1
        refine ⟨ρ, M, s1, ?_⟩
        cases eb : evs F irs ρ with
        | bad => rw [eb] at q; exact q
        | exc k => rw [eb] at q; exact fun H2 e2 => q H2 ((e1.Hm s.own).trans e2)
        | ok ps =>
          rw [eb] at q
          simp only [R.bind_ok] at q
          intro vs H2 M2 s2 am e2 k2 l2
          exact q (v :: vs) H2 M2 s2 am ((e1.Hm s.own).trans e2) (fun a ha => ⟨(k2 a ha).1, by rw [(k2 a ha).2]; exact own_keep s.own e1 a ha⟩) ⟨v, vs, rfl, Rep.go e2 hv, l2⟩
    | true =>
      refine ⟨ρ, M, s, ?_⟩
      cases ea : ev F ir ρ with
      | bad => rw [ea] at q; exact q
      | exc k => rw [ea] at q; exact q
      | ok p =>
        rw [ea] at q
        simp only [R.bind_ok] at q
        cases p with
        | lst xs =>
          intro a ys H1 na e1 ha e1' hr
          have s1 := s.fresh e1 ha e1'
          refine ⟨ρ, a :: M, s1, ?_⟩
          cases eb : evs F irs ρ with
          | bad => rw [eb] at q; exact q
          | exc k => rw [eb] at q; exact fun H2 e2 => q H2 (e1'.trans e2)
          | ok ps =>
            rw [eb] at q
            simp only [R.bind_ok] at q
            intro vs H2 M2 s2 am e2 k2 l2
            have ka := k2 a (List.mem_cons_self ..)
            refine q (.ref a :: vs) H2 M2 s2 s.among (e1'.trans e2) (fun b hb => ⟨(k2 b (List.mem_cons_of_mem _ hb)).1, by rw [(k2 b (List.mem_cons_of_mem _ hb)).2]; exact own_keep s.own e1 b hb⟩) ⟨.ref a, vs, rfl, ?_⟩
            exact ⟨a, ys, xs, rfl, rfl, na, ka.1, by rw [ka.2]; exact ha, RepL.go e2 hr, l2⟩
        | _ => obtain ⟨xs, z⟩ := new_lst f1 ea; cases z
  | [], [], _ :: _, _, h => by have := okL_shape h; simp at this
  | [], _ :: _, _, h, _ => by cases h
  | _ :: _, [], _, h, _ => by cases h
  | _ :: _, _ :: _, [], _, h => by have := okL_shape h; simp at this
end
end OS

end

section
set_option Elab.async false
set_option linter.all false
set_option maxRecDepth 100000
set_option maxHeartbeats 1000000
namespace OS
open PySem PySem.Spec PyProof.Rows L2 O
section
variable {Z : Zx} {F : Fs} {X : Cx} {E : XK} {c : Ck}
theorem LayOk.go {K : PySem.W.Frag} {H H' : Hp} {M : List Addr} (e : Ext Z.T H H') (o : Own H M) : ∀ {ts : List (Nat × Bool)} {ps : List PV} {vs : List V} {A : List Addr}, LayOk Z K M H ts ps vs A → LayOk Z K M H' ts ps vs A
  | [], [], vs, A, h => h
  | (i, b) :: ts, p :: ps, vs, A, h => by
    obtain ⟨v, r, rfl, h⟩ := h
    cases b with
    | true =>
      obtain ⟨a, ys, xs, rfl, rfl, h1, h2, h3, h4, h5⟩ := h
      exact ⟨_, r, rfl, a, ys, xs, rfl, rfl, h1, h2, e.keep _ _ h3 noTbl.lst, RepL.go (e.Hm o) h4, h5.go e o⟩
    | false => exact ⟨v, r, rfl, Rep.go (e.Hm o) h.1, h.2.go e o⟩
  | [], _ :: _, _, _, h => h.elim
  | _ :: _, [], _, _, h => h.elim
theorem layL_len {ts : List (Nat × Bool)} : ∀ {ps : List PV} {r r' : O.St}, layL ts ps r = some r' → ts.length = ps.length := by
  induction ts with
  | nil => intro ps r r' h; cases ps with | nil => rfl | cons => cases h
  | cons t ts ih =>
    intro ps r r' h
    cases ps with
    | nil => cases h
    | cons p ps =>
      unfold layL at h
      cases hl : laid t.2 p with
      | none => simp only [hl] at h; cases h
      | some sv => simp only [hl] at h; rw [List.length_cons, List.length_cons, ih h]
/-- the way on behind the arguments -/
theorem par_rd {ts : List (Nat × Bool)} {es : List Ex} {D : Ends} {σ : L2.St} {H : Hp} {w : Bool} {Q : List V → Hp → Prop} (h : tS Z X.K E w (exS F (.par ts es)) D σ H)
    (k : ∀ M' vs H' ρ', SR Z X.K M' H' (setsV (ts.map (·.1)) vs σ) ρ' → ts.length = vs.length → (∀ H2, Ext Z.T H' H2 → D.nx (setsV (ts.map (·.1)) vs σ) H2) → Q vs H') : tOw Z X.K E ts (evs F es) σ H Q := by
  obtain ⟨ρ, M, s, h⟩ := h
  refine ⟨ρ, M, s, ?_⟩
  simp only [exS] at h
  cases ea : evs F es ρ with
  | bad => rw [ea] at h; exact h
  | exc j => rw [ea] at h; exact h
  | ok ps =>
    rw [ea] at h
    simp only [R.fl_ok] at h
    intro vs H' M' s' am e1 k1 l1
    cases el : layL ts ps ρ with
    | none => simp only [el] at h; exact h.elim
    | some ρ' =>
      simp only [el] at h
      refine k M' vs H' ρ' (SR.lay s' am l1 el) l1.len fun H2 e2 => ?_
      exact h _ H2 M' (SR.lay (s'.go e2) am (l1.go e2 s'.own) el) (e1.trans (e2.Hm s'.own))
theorem ownL_len : ∀ {ts : List (Nat × Bool)} {es : List Ex}, ownL ts es = true → ts.length = es.length
  | [], [], _ => rfl
  | [], _ :: _, h => by cases h
  | _ :: _, [], h => by cases h
  | t :: ts, e :: es, h => by rw [List.length_cons, List.length_cons, ownL_len (band2 h).2]
theorem snds_par {ts : List (Nat × Bool)} {es : List Ex} : SndS F (.par ts es) := by
  intro Z c X E st C h
  unfold okSm at h
  split at h <;> try cases h
  all_goals first | contradiction | skip
  rename_i e1; cases e1
  rename_i tes k p as k2 p2 pos
  obtain ⟨h, h6⟩ := band2 h
  obtain ⟨h, h5⟩ := band2 h
  obtain ⟨h, h4⟩ := band2 h
  obtain ⟨h, h3⟩ := band2 h
  obtain ⟨h1, h2⟩ := band2 h
  have hcm := C.calm h1
  have hA := own_args C.toCxt h2 h3
  have hlen := of_decide_eq_true h4
  have hlt : ts.length = es.length := ownL_len h2
  rw [Bool.or_eq_true] at h6
  rcases h6 with h6 | h6
  · obtain ⟨g1, g2⟩ := band2 h6
    refine PS.imp (ps_asg (pe_tup hA) (tg_sound C.toCxt g2) (noSole_ok C.toCxt h5) (noStores_ok C.toCxt g1) rfl) fun D σ H q => par_rd q fun M' vs H' ρ' s' hl kk => ?_
    refine ⟨show vs.length ≤ 2 ^ 24 by omega, fun t ht => ⟨t, vs, rfl, SqT.of upd_same, by rw [List.length_map]; exact hl.symm, gNs_of (by rw [List.length_map]; exact hl) (kk _ (Ext.new ht))⟩⟩
  · split at h6
    · rename_i t u x px y py a b
      obtain ⟨h6, g4⟩ := band2 h6
      obtain ⟨h6, g3⟩ := band2 h6
      obtain ⟨g1, g2⟩ := band2 h6
      obtain ⟨n1, l1⟩ := lclOk_ok C.toCxt g2
      obtain ⟨n2, l2⟩ := lclOk_ok C.toCxt g3
      refine PS.imp (ps_par hcm C.nd n1 n2 (of_decide_eq_true g1) l1 l2 hA (stores_ok C.toCxt g4) (noSole_ok C.toCxt h5)) fun D σ H q => par_rd q fun M' vs H' ρ' s' hl kk => ?_
      match vs, hl, kk with
      | [v, w], _, kk => exact ⟨v, w, rfl, kk _ (Ext.refl _)⟩
      | [], hl, _ => simp at hl
      | [_], hl, _ => simp at hl
      | _ :: _ :: _ :: _, hl, _ => simp at hl
    · rename_i t u w x px y py z pz a b d
      obtain ⟨h6, g7⟩ := band2 h6
      obtain ⟨h6, g6⟩ := band2 h6
      obtain ⟨h6, g5⟩ := band2 h6
      obtain ⟨h6, g4⟩ := band2 h6
      obtain ⟨h6, g3⟩ := band2 h6
      obtain ⟨g1, g2⟩ := band2 h6
      obtain ⟨n1, l1⟩ := lclOk_ok C.toCxt g4
      obtain ⟨n2, l2⟩ := lclOk_ok C.toCxt g5
      obtain ⟨n3, l3⟩ := lclOk_ok C.toCxt g6
      refine PS.imp (ps_par3 hcm C.nd n1 n2 n3 (of_decide_eq_true g1) (of_decide_eq_true g2) (of_decide_eq_true g3) l1 l2 l3 hA (stores_ok C.toCxt g7) (noSole_ok C.toCxt h5)) fun D σ H q => par_rd q fun M' vs H' ρ' s' hl kk => ?_
      match vs, hl, kk with
      | [v, w, u], _, kk => exact ⟨v, w, u, rfl, kk _ (Ext.refl _)⟩
      | [], hl, _ => simp at hl
      | [_], hl, _ => simp at hl
      | [_, _], hl, _ => simp at hl
      | _ :: _ :: _ :: _ :: _, hl, _ => simp at hl
    · cases h6
/-! ### a call whose result's first item is ours -/
def tW (Z : Zx) (K : PySem.W.Frag) (E : XK) (m : O.St → R PV) : TE := fun σ H Q => ∃ ρ M, SR Z K M H σ ρ ∧ match m ρ with
  | .ok p => ∀ t a ys vs H' xs qs, p = .tup (.lst xs :: qs) → a ∉ M → H' a = some (.lst ys) → SR Z K (a :: M) H' σ ρ → Ext Z.T (Hm H M) (Hm H' (a :: M)) → SqT K H' t (.ref a :: vs) → RepL Z K (Hm H' (a :: M)) xs ys → RepL Z K (Hm H' (a :: M)) qs vs → Q (.ref t) H'
  | .exc k => ∀ H', Ext Z.T (Hm H M) H' → E (.ref (Z.cad k)) none H'
  | .bad => False
theorem pe_callW {k : Nat} {es : List Ex} {a : Expr} (C : Cxt Z F c X E) (h : okE c (.call k es) a = true) (hw : (match fnAt c.fns k with | some f => f.ow | none => false) = true) : PE X a (tW Z X.K E (ev F (.call k es))) := by
  unfold okE at h
  split at h <;> try cases h
  all_goals first | contradiction | skip
  rename_i e; cases e
  rename_i x p as pos
  obtain ⟨h1, h2⟩ := band2 h
  unfold fnOk at h1
  obtain ⟨h1, hp⟩ := band2 h1
  obtain ⟨h1, hg⟩ := band2 h1
  obtain ⟨h1, hf⟩ := band2 h1
  have hin := of_decide_eq_true h1
  cases ef : fnAt c.fns k with
  | none => rw [ef] at hf; cases hf
  | some f =>
    rw [ef] at hf hw
    have hw : f.ow = true := hw
    obtain ⟨hf1, hf2⟩ := band2 hf
    cases of_decide_eq_true hf1
    have har := of_decide_eq_true hf2
    have CO := C.call k hin f ef
    rw [hw] at CO
    have hA := args_sound C h2 fun ir hm e hf ho => (snd F ir).e C hf ho
    refine ⟨fun pins s σ H Q I q => ?_⟩
    obtain ⟨ρ, M, sr, q⟩ := q
    have tl : tL Z X.K E (evs F es) σ H fun vs H1 => ∃ ps, evs F es ρ = .ok ps ∧ SR Z X.K M H1 σ ρ ∧ Ext Z.T H H1 ∧ RepL Z X.K (Hm H1 M) ps vs ∧ vs.length = f.ar ∧ F k ps ≠ .bad := by
      refine ⟨ρ, M, sr, ?_⟩
      simp only [ev] at q
      cases ee : evs F es ρ with
      | bad => rw [ee] at q; exact q
      | exc k => rw [ee] at q; exact q
      | ok ps =>
        rw [ee] at q
        simp only [R.bind_ok] at q
        intro vs H1 e1 w1
        exact ⟨ps, rfl, sr.go e1, e1, w1, by rw [← w1.length, evs_len ee, har], fun z => by rw [z] at q; exact q⟩
    obtain ⟨g, fd, pn, lvl, G, hroom, hm, hk, hb, hfad, hww⟩ := id CO
    refine wpAny_Call_Name_kw (ld_glob I (gl_of C hg) hm ?_ (plainN_ok hp).1)
    have fin : ∀ {s1 : Shared} {vs : List V} {us : List Value} {H1 : Hp}, Inv X pins σ H1 s1 → Vals vs us → (∃ ps, evs F es ρ = .ok ps ∧ SR Z X.K M H1 σ ρ ∧ Ext Z.T H H1 ∧ RepL Z X.K (Hm H1 M) ps vs ∧ vs.length = f.ar ∧ F k ps ≠ .bad) → wpAny (model X.prog X.w) X.A (call (.ref g) us) (EP X pins σ Q) X.xe s1 := fun {s1 vs us H1} I1 r ⟨ps, ee, s1', e1, hr, hl, nb⟩ => by
      rw [← hfad]
      refine run_call CO C.pass I1 s1'.own s1'.tabs r hl hr ?_
      simp only [ev, ee, R.bind_ok] at q
      cases er : F k ps with
      | bad => exact (nb er).elim
      | exc j => rw [er] at q; exact fun H' e' => q H' ((e1.Hm sr.own).trans e')
      | ok pv =>
        rw [er] at q
        refine ⟨hww rfl ps pv er, fun t a ys ws H' xs qs ep ha e' st r1 r2 nM => ?_⟩
        have na : a ∉ M := fun z => by rw [nM a z] at ha; cases ha
        have hba : Hback H1 M H' a = some (.lst ys) := by unfold Hback; rw [if_neg na]; exact ha
        have hhm : Hm (Hback H1 M H') (a :: M) = Hm H' [a] := by
          funext b
          unfold Hm Hback
          by_cases hba : b = a
          · subst hba; simp
          · by_cases hbM : b ∈ M
            · simp [hba, hbM, nM b hbM]
            · simp [hba, hbM]
        have ow2 : Own (Hback H1 M H') (a :: M) := by
          intro b hb
          rcases List.mem_cons.mp hb with rfl | hb
          · exact .inl ⟨ys, hba⟩
          · unfold Hback; rw [if_pos hb]; exact s1'.own b hb
        have ex2 : Ext Z.T (Hm H1 M) (Hm (Hback H1 M H') (a :: M)) := by rw [hhm]; exact e'
        have sr2 : SR Z X.K (a :: M) (Hback H1 M H') σ ρ := s1'.more ow2 (fun b hb => ⟨List.mem_cons_of_mem _ hb, by unfold Hback; rw [if_pos hb]⟩) ex2
        refine q t a ys ws _ xs qs ep na hba sr2 ((e1.Hm sr.own).trans ex2) ?_ (by rw [hhm]; exact r1) (by rw [hhm]; exact r2)
        rcases st with st | st
        · left
          have up : ∀ o, H' t = some o → Hback H1 M H' t = some o := fun o z => by
            unfold Hback
            rw [if_neg fun m => by rw [nM t m] at z; cases z]
            exact z
          rcases st with st | ⟨o, st⟩
          · exact .inl (up _ st)
          · exact .inr ⟨o, up _ st⟩
        · exact .inr st
    cases as with
    | nil =>
      cases es with
      | cons e es => have := okL_shape h2; simp at this
      | nil =>
        obtain ⟨ρ', M', sr', tl⟩ := tl
        simp only [evs] at tl
        have tl := tl [] H (Ext.refl H) rfl
        exact PySem.W.callWith_K0 I.kIn hk (fin I .nil (by obtain ⟨ps, z, r⟩ := tl; exact ⟨ps, by simpa only [evs] using z, r⟩))
    | cons a as =>
      cases es with
      | nil => have := okL_shape h2; simp at this
      | cons e es =>
        obtain ⟨_, ha1, ha2⟩ := okL_cons h2
        refine PySem.W.callWith_K (h₀ := X.base) I.ok.mod.kin hk (thn (hA.run pos pins s σ H _ I tl) fun us s1 ⟨vs, H1, I1, r, q⟩ => ⟨I1.kIn, fin I1 r q⟩) (star_of ha1 _ _) (stars_of ha2)
theorem snds_asgs {ts : List (Nat × Bool)} {e : Ex} : SndS F (.asgs ts e) := by
  intro Z c X E st C h
  unfold okSm at h
  split at h <;> try cases h
  all_goals first | contradiction | skip
  rename_i e1; cases e1
  rename_i es k p v pos
  obtain ⟨h, h5⟩ := band2 h
  obtain ⟨h, h4⟩ := band2 h
  obtain ⟨h, h3⟩ := band2 h
  obtain ⟨h1, h2⟩ := band2 h
  cases ts with
  | nil => cases h5
  | cons t ts =>
    obtain ⟨g1, g2⟩ := band2 h5
    have g1 := bnot1 g1
    obtain ⟨i, o⟩ := t
    cases o with
    | false => exact asgs_frozen C (by rw [List.any_cons, g1]; rfl) h1 h2 h3 h4 g2
    | true =>
      cases e with
      | call kf ces =>
        refine PS.imp (ps_asg (pe_callW C.toCxt h4 g2) (tg_sound C.toCxt h1) (noSole_ok C.toCxt h2) (noStores_ok C.toCxt h3) rfl) fun D σ H q => ?_
        obtain ⟨ρ, M, s, q⟩ := q
        refine ⟨ρ, M, s, ?_⟩
        rw [exS] at q
        cases ee : ev F (.call kf ces) ρ with
        | bad => rw [ee] at q; exact q
        | exc j => rw [ee] at q; exact q
        | ok pv =>
          rw [ee] at q
          simp only [R.fl_ok] at q
          intro t a ys vs H' xs qs ep na ha s' e1 st r1 r2
          subst ep
          cases el : layL ((i, true) :: ts) (.lst xs :: qs) ρ with
          | none => simp only [el] at q; exact q.elim
          | some ρ' =>
            simp only [el] at q
            have hlen := layL_len el
            have hl2 := r2.length
            have lo : LayOk Z X.K (a :: M) H' ((i, true) :: ts) (.lst xs :: qs) (.ref a :: vs) M :=
              ⟨_, _, rfl, a, ys, xs, rfl, rfl, na, List.mem_cons_self .., ha, r1, LayOk.frozen g1 (by simpa using hlen) r2⟩
            have hl3 := lo.len
            refine ⟨t, _, rfl, st, by rw [List.length_map]; exact hl3.symm, gNs_of (by rw [List.length_map]; exact hl3) ?_⟩
            exact q _ H' (a :: M) (SR.lay s' s.among lo el) e1
      | _ => cases g2
/-! ### a result whose first item is handed over -/
/-- list + list, a new list -/
theorem bin_tN {x y : Ex} {a b : Expr} {pos : Pos} (hx : PE X a (tO Z X.K E (ev F x))) (hy : PE X b (tO Z X.K E (ev F y))) : PE X (.BinOp a .Add b pos) (fun σ H Q => ∃ ρ M, SR Z X.K M H σ ρ ∧ match ev F (.bin .add x y) ρ with
    | .ok (.lst ps) => ∀ a vs H', a ∉ M → Ext Z.T H H' → H' a = some (.lst vs) → Ext Z.T (Hm H M) (Hm H' (a :: M)) → RepL Z X.K (Hm H' (a :: M)) ps vs → Q (.ref a) H'
    | .ok _ => ∀ v H', Ext Z.T H H' → Q v H'
    | .exc k => ∀ H', Ext Z.T (Hm H M) H' → E (.ref (Z.cad k)) none H'
    | .bad => False) := by
  have both : OpR X (binaryOp .Add) (fun u v H Q => rCat u v H Q ∨ rP2 Z X.K addP u v H Q) := OpR.or op_cat op_addP
  refine PE.imp (pe_op both hx hy) fun σ H Q ⟨ρ, M, s, q⟩ => ⟨ρ, M, s, ?_⟩
  simp only [ev] at q
  cases ea : ev F x ρ with
  | bad => simp only [ea] at q; exact q
  | exc k => simp only [ea] at q; exact q
  | ok p =>
    simp only [ea, R.bind_ok] at q
    intro u H1 e1 w1
    refine ⟨ρ, M, s.go e1, ?_⟩
    cases eb : ev F y ρ with
    | bad => simp only [eb] at q; exact q
    | exc k => simp only [eb] at q; exact fun H2 e2 => q H2 ((e1.Hm s.own).trans e2)
    | ok p2 =>
      simp only [eb, R.bind_ok] at q
      intro v H2 e2 w2
      have o1 := s.own.go e1
      have o2 := o1.go e2
      cases er : bop .add p p2 with
      | bad => simp only [er] at q
      | exc k => exact (bop_nox .add p p2 k er).elim
      | ok r =>
        simp only [er] at q
        have er' : addP p p2 = .ok r := er
        cases r with
        | lst ps =>
          left
          unfold addP at er'
          split at er'
          · cases er'
          · have := (sized_inv er').2; cases this
          · have := (sized_inv er').2; cases this
          · obtain ⟨l, ez⟩ := sized_inv er'
            cases ez
            obtain ⟨a1, vs1, rfl, h1, h2⟩ := w1.go o1 e2
            obtain ⟨a2, vs2, rfl, h3, h4⟩ := w2
            refine ⟨a1, a2, vs1, vs2, rfl, rfl, h1, h3, by rw [← h2.length, ← h4.length]; exact lim_size l, fun t ht => ?_⟩
            have e : Hm (upd H2 t (.lst (vs1 ++ vs2))) (t :: M) = Hm H2 M := by
              funext b
              unfold Hm
              by_cases hb : b = t
              · subst hb; simp [ht]
              · simp only [List.mem_cons, hb, false_or]
                rw [upd_ne hb]
            refine q t _ _ (o2.new ht) ((e1.trans e2).trans (Ext.new ht)) upd_same ?_ ?_
            · rw [e]; exact (e1.trans e2).Hm s.own
            · rw [e]; exact RepL.append h2 h4
          · cases er'
        | _ => exact .inr ⟨M, p, p2, _, o2, w1.go o1 e2, w2, er', fun v' H3 e3 w3 => q v' H3 ((e1.trans e2).trans e3)⟩
end
end OS

end

section
set_option Elab.async false
set_option linter.all false
set_option maxRecDepth 100000
set_option maxHeartbeats 1000000
/-! dicts of a def's own -/
namespace OS
open PySem PySem.Spec PyProof.Rows L2 O
section
variable {Z : Zx} {K : PySem.W.Frag} {E : XK} {w : Bool} {M M' : List Addr} {H H' : Hp} {D : Ends} {σ : L2.St} {ρ : O.St}
theorem own_consD {a : Addr} {vs : List (Key × V)} (ow : Own H M) (h : H a = some (.dK vs)) : Own H (a :: M) := fun b hb => by
  rcases List.mem_cons.mp hb with rfl | hb
  · exact .inr ⟨vs, h⟩
  · exact ow b hb
theorem SR.freshD (s : SR Z K M H σ ρ) {a : Addr} {vs : List (Key × V)} (e : Ext Z.T H H') (h1 : H' a = some (.dK vs)) (e2 : Ext Z.T (Hm H M) (Hm H' (a :: M))) : SR Z K (a :: M) H' σ ρ :=
  s.more (own_consD (s.own.go e) h1) (fun b hb => ⟨List.mem_cons_of_mem _ hb, own_keep s.own e b hb⟩) e2
theorem SR.setd (s : SR Z K M H σ ρ) {i : Nat} {a : Addr} {xs : List (List Nat × PV)} {vs : List (Key × V)} {A : List Addr} (am : Among σ ρ A) (hA : a ∉ A) (hM : a ∈ M) (h1 : H a = some (.dK vs)) (h2 : KVs Z K (Hm H M) xs vs) : SR Z K M H (σ.set i (some (.ref a))) (ρ.set i (.od xs)) where
  own := s.own
  tabs := s.tabs
  len := by simpa using s.len
  fv := fun j q e => by
    by_cases hj : j = i
    · subst hj
      exact absurd (set_at e).1 (by intro z; cases z)
    · rw [set_other hj] at e
      obtain ⟨u, q1, q2⟩ := s.fv j q e
      exact ⟨u, by rw [set_other hj]; exact q1, q2⟩
  fo := fun j q e => by
    by_cases hj : j = i
    · subst hj
      exact absurd (set_at e).1 (by intro z; cases z)
    · rw [set_other hj] at e
      obtain ⟨b, u, q1, q2⟩ := s.fo j q e
      exact ⟨b, u, by rw [set_other hj]; exact q1, q2⟩
  fd := fun j q e => by
    by_cases hj : j = i
    · subst hj
      obtain ⟨e1, e2⟩ := set_at e
      cases e1
      exact ⟨a, vs, set_here (Nat.lt_of_lt_of_le e2 s.len), hM, h1, h2⟩
    · rw [set_other hj] at e
      obtain ⟨b, u, q1, q2⟩ := s.fd j q e
      exact ⟨b, u, by rw [set_other hj]; exact q1, q2⟩
  apart := fun j k b hjk hj hk e => by
    by_cases j1 : j = i
    · subst j1
      have hk1 : k ≠ j := fun z => hjk z.symm
      rw [set_other hk1]
      have hk' := held_other hk1 hk
      intro z
      have := (set_at e).1
      cases this
      exact hA (am k _ hk' z)
    · rw [set_other j1] at e
      have hj' := held_other j1 hj
      by_cases k1 : k = i
      · subst k1
        intro z
        have := (set_at z).1
        cases this
        exact hA (am j _ hj' e)
      · rw [set_other k1]
        exact s.apart j k b hjk hj' (held_other k1 hk) e
/-- a dict in a slot that changes -/
theorem SR.changeD (s : SR Z K M H σ ρ) {i : Nat} {a : Addr} {xs xs' : List (List Nat × PV)} {vs' : List (Key × V)} (hi : ρ[i]? = some (.od xs)) (h1 : σ[i]? = some (some (.ref a))) (ha : a ∈ M) (h3 : KVs Z K (Hm H M) xs' vs') : SR Z K M (upd H a (.dK vs')) σ (ρ.set i (.od xs')) := by
  have hm : Hm (upd H a (.dK vs')) M = Hm H M := hm_upd ha
  have hH : Held ρ i := .inr ⟨xs, hi⟩
  have held : ∀ j, Held (ρ.set i (.od xs')) j → Held ρ j := fun j hj => by
    by_cases e : j = i
    · subst e; exact hH
    · exact held_other e hj
  have own2 : Own (upd H a (.dK vs')) M := fun b hb => by
    by_cases e : b = a
    · subst e; exact .inr ⟨_, upd_same⟩
    · rw [upd_ne e]; exact s.own b hb
  refine ⟨own2, by simpa using s.len, fun j p e => ?_, fun j p e => ?_, fun j p e => ?_, fun j k b hjk hj hk => s.apart j k b hjk (held j hj) (held k hk), (tabs_Hm own2).mp (by rw [hm]; exact (tabs_Hm s.own).mpr s.tabs)⟩
  · have hj : j ≠ i := fun z => by subst z; exact absurd (set_at e).1 (by intro z; cases z)
    rw [set_other hj] at e
    rw [hm]
    exact s.fv j p e
  · have hj : j ≠ i := fun z => by subst z; exact absurd (set_at e).1 (by intro z; cases z)
    rw [set_other hj] at e
    obtain ⟨b, us, q1, q2, q3, q4⟩ := s.fo j p e
    have : b ≠ a := fun z => by subst z; exact s.apart j i b hj (.inl ⟨_, e⟩) hH q1 h1
    exact ⟨b, us, q1, q2, by rw [upd_ne this]; exact q3, by rw [hm]; exact q4⟩
  · by_cases hj : j = i
    · subst hj
      cases (set_at e).1
      exact ⟨a, vs', h1, ha, upd_same, by rw [hm]; exact h3⟩
    · rw [set_other hj] at e
      obtain ⟨b, us, q1, q2, q3, q4⟩ := s.fd j p e
      have : b ≠ a := fun z => by subst z; exact s.apart j i b hj (.inr ⟨_, e⟩) hH q1 h1
      exact ⟨b, us, q1, q2, by rw [upd_ne this]; exact q3, by rw [hm]; exact q4⟩
/-- a new dict -/
def tDn (Z : Zx) (K : PySem.W.Frag) (E : XK) (m : O.St → R (List (List Nat × PV))) : TE := fun σ H Q => ∃ ρ M, SR Z K M H σ ρ ∧ match m ρ with
  | .ok kvs => ∀ a vs H', a ∉ M → Ext Z.T H H' → H' a = some (.dK vs) → Ext Z.T (Hm H M) (Hm H' (a :: M)) → KVs Z K (Hm H' (a :: M)) kvs vs → Q (.ref a) H'
  | .exc k => ∀ H', Ext Z.T (Hm H M) H' → E (.ref (Z.cad k)) none H'
  | .bad => False
theorem hm_new {a : Addr} {o : HO} (h : H a = none) : Hm (upd H a o) (a :: M) = Hm H M := by
  funext b
  unfold Hm
  by_cases hb : b = a
  · subst hb; simp [h]
  · simp only [List.mem_cons, hb, false_or]
    rw [upd_ne hb]
end
section
variable {Z : Zx} {F : Fs} {X : Cx} {E : XK} {c : Ck}
theorem paired_up {K : PySem.W.Frag} {H : Hp} {M : List Addr} (ow : Own H M) : ∀ {ps : List Addr} {us : List (Key × V)}, Paired (fun p kv => SqT K (Hm H M) p [kV kv.1, kv.2]) ps us → Paired (fun p kv => SqT K H p [kV kv.1, kv.2]) ps us
  | _, _, .nil => .nil
  | _, _, .cons h t => .cons (SqT.go (Ext.unHm (T := []) ow) h) (paired_up ow t)
theorem pe_dict (C : Cxt Z F c X E) {eo : Option Ex} {v : Expr} (h : dOk c eo v = true) : PE X v (tDn Z X.K E (mkD F eo)) := by
  unfold dOk at h
  split at h
  · refine PE.imp pe_dnewK fun σ H Q q => ?_
    obtain ⟨ρ, M, s, q⟩ := q
    intro p hp
    refine q p [] _ (s.own.new hp) (Ext.new hp) upd_same ?_ ⟨rfl, fun _ z => (by cases z), rfl⟩
    rw [hm_new hp]
    exact Ext.refl _
  · rename_i e x px a pos
    obtain ⟨h, h4⟩ := band2 h
    obtain ⟨h, h3⟩ := band2 h
    obtain ⟨h1, h2⟩ := band2 h
    obtain ⟨rfl, gx, dx, nx⟩ := gname_ok C h2
    refine PE.imp (pe_callTy (call_dictPl (C.calm h1)) gx (mg_free C (x := "dict") (by decide)) rfl (pa_cons ((snd F e).e C h3 h4) pa_nil (star_of h4 _ _)) nx dx (star_of h4 _ _) rfl) fun σ H Q q => ?_
    obtain ⟨ρ, M, s, q⟩ := q
    refine ⟨ρ, M, s, ?_⟩
    unfold mkD at q
    simp only at q
    cases ea : ev F e ρ with
    | bad => rw [ea] at q; exact q
    | exc k => rw [ea] at q; exact q
    | ok p =>
      rw [ea] at q
      simp only [R.bind_ok] at q
      intro v H1 e1 w1
      cases p with
      | tup xs =>
        simp only at q
        cases hp : pairs xs with
        | none => rw [hp] at q; exact q.elim
        | some kvs =>
          rw [hp] at q
          simp only at q
          by_cases hl : lim kvs.length = true
          · rw [if_pos hl] at q
            obtain ⟨b, vs, rfl, hq, hr⟩ := w1
            obtain ⟨ps, us, rfl, g2, g3⟩ := rep_pairs hp hr
            have ow1 := s.own.go e1
            refine ⟨b, ps, us, rfl, sqT_up ow1 hq, (hq.2 (pairs_tb hp)).imp (fun ⟨o, u, k1, k2⟩ => ⟨o, u, (Ext.unHm (T := []) ow1).keep _ _ k1 noTbl.frz, k2⟩) id, paired_up ow1 g2, fun t ht => ?_⟩
            refine q t _ _ (ow1.new ht) (e1.trans (Ext.new ht)) upd_same ?_ ?_
            · rw [hm_new ht]
              exact e1.Hm s.own
            · rw [hm_new ht]
              exact kvs_fold g3 ⟨rfl, fun _ z => (by cases z), rfl⟩
          · rw [if_neg hl] at q; exact q.elim
      | _ => exact q.elim
  · cases h
theorem star_dict {eo : Option Ex} {v : Expr} (h : dOk c eo v = true) (es : List Expr) (env : Env) : starEach (v :: es) env = (false, eval v env) :: starEach es env := by
  cases v with
  | Starred v p => cases eo <;> cases h
  | _ => rfl
theorem snds_dnew {i : Nat} {eo : Option Ex} : SndS F (.dnew i eo) := by
  intro Z c X E st C h
  unfold okSm at h
  split at h <;> try cases h
  all_goals first | contradiction | skip
  rename_i e1; cases e1
  obtain ⟨h, h3⟩ := band2 h
  obtain ⟨h1, h2⟩ := band2 h
  obtain ⟨l1, l2, l3⟩ := locOk_ok C.toCxt h1
  refine PS.imp (ps_set C.nd l1 l2 (pe_dict C.toCxt h2) (noSwap_ok C.toCxt h3) l3) fun D σ H q => ?_
  obtain ⟨ρ, M, s, q⟩ := q
  have q : PF Z X.K E c.ow M H D ((mkD F eo ρ).fl fun kvs => .next (ρ.set i (.od kvs))) := by
    cases eo with
    | none => simp only [exS] at q; exact q
    | some e => simp only [exS] at q; exact q
  refine ⟨ρ, M, s, ?_⟩
  cases em : mkD F eo ρ with
  | bad => rw [em] at q; exact q
  | exc k => rw [em] at q; exact q
  | ok kvs =>
    rw [em] at q
    simp only [R.fl_ok] at q
    intro a vs H' na e1 ha e2 hk
    exact PF.go e2 q _ H' (a :: M) ((s.freshD e1 ha e2).setd s.among na (List.mem_cons_self ..) ha hk) (Ext.refl _)
theorem snds_setD {i : Nat} {k e : Ex} : SndS F (.setD i k e) := by
  intro Z c X E st C h
  unfold okSm at h
  split at h <;> try cases h
  all_goals first | contradiction | skip
  rename_i e1; cases e1
  obtain ⟨h, h5⟩ := band2 h
  obtain ⟨h, h4⟩ := band2 h
  obtain ⟨h, h3⟩ := band2 h
  obtain ⟨h1, h2⟩ := band2 h
  refine PS.imp (ps_dput (by have := C.un; omega) (snd_var C.toCxt h1) ((snd F k).o C.toCxt h2) ((snd F e).e C.toCxt h3 h4) (noSwap_ok C.toCxt h5)) fun D σ H q => ?_
  refine fl_tM (w := c.ow) (D := D) (f := fun r p => match r[i]? with
    | some (.od kvs) => (ev F k r).fl fun q => (match q with
      | .str x => if lim kvs.length then .next (r.set i (.od (dput kvs x p))) else .bad
      | _ => .bad)
    | _ => .bad) ?_ fun ρ M p v H' s _ e1 hv q => ?_
  · obtain ⟨ρ, M, s, q⟩ := q
    simp only [exS] at q
    exact ⟨ρ, M, s, q⟩
  · cases ei : ρ[i]? with
    | none => rw [ei] at q; exact q.elim
    | some sv =>
      rw [ei] at q
      cases sv with
      | od kvs =>
        simp only at q
        have s1 := s.go e1
        obtain ⟨b, vs, g1, g2, g3, g4⟩ := s1.fd i kvs ei
        refine ⟨.ref b, g1, ρ, M, s1, ?_⟩
        cases ek : ev F k ρ with
        | bad => rw [ek] at q; exact q
        | exc j => rw [ek] at q; exact q
        | ok pk =>
          rw [ek] at q
          simp only [R.fl_ok] at q
          cases pk with
          | str x =>
            intro y H2 e2 w2
            obtain ⟨rfl, ox⟩ := w2
            simp only at q
            by_cases hl : lim kvs.length = true
            · rw [if_pos hl] at q
              have s2 := s1.go e2
              have g3' := e2.keep _ _ g3 noTbl.dK
              have g4' := KVs.go (e2.Hm s1.own) g4
              refine ⟨b, _, rfl, DPut.k (k := .inr (cps x)) g3' (by rw [← kvs_len g4]; exact lim_lt hl), ?_⟩
              refine q σ _ M (s2.changeD ei g1 g2 (kvs_put ox (Rep.go (e2.Hm s1.own) hv) g4')) ?_
              rw [hm_upd g2]
              exact e2.Hm s1.own
            · rw [if_neg hl] at q; exact q.elim
          | _ => exact q.elim
      | _ => exact q.elim
/-- the way on behind a new dict and the arguments -/
theorem parD_rd {i : Nat} {eo : Option Ex} {ts : List (Nat × Bool)} {es : List Ex} {D : Ends} {σ : L2.St} {H : Hp} {w : Bool} {Q : List V → Hp → Prop} (h : tS Z X.K E w (exS F (.parD i eo ts es)) D σ H)
    (k : ∀ vs H', (i :: ts.map (·.1)).length = vs.length → (∀ H2, Ext Z.T H' H2 → D.nx (setsV (i :: ts.map (·.1)) vs σ) H2) → Q vs H') : tCons (tDn Z X.K E (mkD F eo)) (tOw Z X.K E ts (evs F es)) σ H Q := by
  obtain ⟨ρ, M, s, h⟩ := h
  refine ⟨ρ, M, s, ?_⟩
  simp only [exS] at h
  cases em : mkD F eo ρ with
  | bad => rw [em] at h; exact h
  | exc j => rw [em] at h; exact h
  | ok kvs =>
    rw [em] at h
    simp only [R.fl_ok] at h
    intro a us H1 na e1 ha e2 hk
    have s1 := s.freshD e1 ha e2
    refine ⟨ρ, a :: M, s1, ?_⟩
    cases ea : evs F es ρ with
    | bad => rw [ea] at h; exact h
    | exc j => rw [ea] at h; exact fun H2 e3 => h H2 (e2.trans e3)
    | ok ps =>
      rw [ea] at h
      simp only [R.fl_ok] at h
      intro vs H2 M2 s2 am e3 k2 l2
      cases el : layL ts ps (ρ.set i (.od kvs)) with
      | none => simp only [el] at h; exact h.elim
      | some ρ' =>
        simp only [el] at h
        obtain ⟨m1, m2⟩ := k2 a (List.mem_cons_self ..)
        have hl := l2.len
        refine k (.ref a :: vs) H2 (by simp; exact hl) fun H3 e4 => ?_
        have s3 := s2.go e4
        have ha3 : H3 a = some (.dK us) := e4.keep _ _ (by rw [m2]; exact ha) noTbl.dK
        have hk3 : KVs Z X.K (Hm H3 M2) kvs us := KVs.go (e3.trans (e4.Hm s2.own)) hk
        exact h _ H3 M2 (SR.lay (s3.setd s.among na m1 ha3 hk3) (Among.seto s.among) (l2.go e4 s2.own) el) ((e2.trans e3).trans (e4.Hm s2.own))
theorem snds_parD {i : Nat} {eo : Option Ex} {ts : List (Nat × Bool)} {es : List Ex} : SndS F (.parD i eo ts es) := by
  intro Z c X E st C h
  unfold okSm at h
  split at h <;> try cases h
  all_goals first | contradiction | skip
  rename_i e1; cases e1
  rename_i tes k p a0 as k2 p2 pos
  obtain ⟨h, h6⟩ := band2 h
  obtain ⟨h, h5⟩ := band2 h
  obtain ⟨h, h4⟩ := band2 h
  obtain ⟨h, h3⟩ := band2 h
  obtain ⟨h, h2⟩ := band2 h
  obtain ⟨h1, h0⟩ := band2 h
  have hcm := C.calm h1
  have hA := pa_cons (pe_dict C.toCxt h0) (own_args C.toCxt h2 h3) (star_dict h0 _ _)
  have hlen := of_decide_eq_true h4
  have hlt : ts.length = es.length := ownL_len h2
  rw [Bool.or_eq_true] at h6
  rcases h6 with h6 | h6
  · obtain ⟨g1, g2⟩ := band2 h6
    refine PS.imp (ps_asg (pe_tup hA) (tg_sound C.toCxt g2) (noSole_ok C.toCxt h5) (noStores_ok C.toCxt g1) rfl) fun D σ H q => ?_
    unfold tAsg tTup
    refine parD_rd q fun vs H' hl kk => ?_
    have hl2 : vs.length = ts.length + 1 := by rw [← hl]; simp
    refine ⟨show vs.length ≤ 2 ^ 24 by omega, fun t ht => ⟨t, vs, rfl, SqT.of upd_same, hl.symm, gNs_of hl (kk _ (Ext.new ht))⟩⟩
  · split at h6
    · rename_i u x px y py b
      obtain ⟨h6, g4⟩ := band2 h6
      obtain ⟨h6, g3⟩ := band2 h6
      obtain ⟨g1, g2⟩ := band2 h6
      obtain ⟨n1, l1⟩ := lclOk_ok C.toCxt g2
      obtain ⟨n2, l2⟩ := lclOk_ok C.toCxt g3
      refine PS.imp (ps_par hcm C.nd n1 n2 (of_decide_eq_true g1) l1 l2 hA (stores_ok C.toCxt g4) (noSole_ok C.toCxt h5)) fun D σ H q => parD_rd q fun vs H' hl kk => ?_
      match vs, hl, kk with
      | [v, w], _, kk => exact ⟨v, w, rfl, kk _ (Ext.refl _)⟩
      | [], hl, _ => simp at hl
      | [_], hl, _ => simp at hl
      | _ :: _ :: _ :: _, hl, _ => simp at hl
    · cases h6
theorem dnew2_rd {i j : Nat} {e1 e2 : Ex} {D : Ends} {σ : L2.St} {H : Hp} {w : Bool} {Q : List V → Hp → Prop} (hij : i ≠ j) (q : tS Z X.K E w (exS F (.dnew2 i j e1 e2)) D σ H)
    (kk : ∀ vs H', [i, j].length = vs.length → (∀ H2, Ext Z.T H' H2 → D.nx (setsV [i, j] vs σ) H2) → Q vs H') : tCons (tDn Z X.K E (mkD F (some e1))) (tCons (tDn Z X.K E (mkD F (some e2))) tNil) σ H Q := by
  obtain ⟨ρ, M, s, q⟩ := q
  refine ⟨ρ, M, s, ?_⟩
  simp only [exS] at q
  cases m1 : mkD F (some e1) ρ with
  | bad => rw [m1] at q; exact q
  | exc k => rw [m1] at q; exact q
  | ok kvs =>
    rw [m1] at q
    simp only [R.fl_ok] at q
    intro a us H1 na x1 ha x2 hk
    have s1 := s.freshD x1 ha x2
    refine ⟨ρ, a :: M, s1, ?_⟩
    cases m2 : mkD F (some e2) ρ with
    | bad => rw [m2] at q; exact q
    | exc k => rw [m2] at q; exact fun H2 z => q H2 (x2.trans z)
    | ok kws =>
      rw [m2] at q
      simp only [R.fl_ok] at q
      intro b ws H2 nb x3 hb x4 hw
      refine kk [.ref a, .ref b] H2 rfl fun H3 x5 => ?_
      have s2 := (s1.freshD x3 hb x4).go x5
      have x6 := x5.Hm (s1.freshD x3 hb x4).own
      have ha2 := x5.keep _ _ (x3.keep _ _ ha noTbl.dK) noTbl.dK
      have s3 := s2.setd (i := i) s.among na (by simp) ha2 (KVs.go (x4.trans x6) hk)
      have s4 := s3.setd (i := j) (Among.seto s.among) nb (List.mem_cons_self ..) (x5.keep _ _ hb noTbl.dK) (KVs.go x6 hw)
      exact PF.go ((x2.trans x4).trans x6) q _ H3 _ s4 (Ext.refl _)
theorem snds_dnew2 {i j : Nat} {e1 e2 : Ex} : SndS F (.dnew2 i j e1 e2) := by
  intro Z c X E st C h
  unfold okSm at h
  split at h <;> try cases h
  all_goals first | contradiction | skip
  rename_i e0; cases e0
  rename_i x q1 y q2 k p a0 a1 k2 p2 pos
  obtain ⟨h, h6⟩ := band2 h
  obtain ⟨h, h5⟩ := band2 h
  obtain ⟨h, h4⟩ := band2 h
  obtain ⟨h, h3⟩ := band2 h
  obtain ⟨h1, h2⟩ := band2 h
  have hij := of_decide_eq_true h5
  have hA := pa_cons (pe_dict C.toCxt h2) (pa_cons (pe_dict C.toCxt h3) pa_nil (star_dict h3 _ _)) (star_dict h2 _ _)
  rw [Bool.or_eq_true] at h6
  rcases h6 with h6 | h6
  · obtain ⟨g1, g2⟩ := band2 h6
    refine PS.imp (ps_asg (pe_tup hA) (tg_sound C.toCxt g2) (noSole_ok C.toCxt h4) (noStores_ok C.toCxt g1) rfl) fun D σ H q => ?_
    unfold tAsg tTup
    refine dnew2_rd hij q fun vs H' hl kk => ?_
    have hl2 : vs.length = 2 := hl.symm
    exact ⟨show vs.length ≤ 2 ^ 24 by omega, fun t ht => ⟨t, vs, rfl, SqT.of upd_same, hl.symm, gNs_of hl (kk _ (Ext.new ht))⟩⟩
  · obtain ⟨h6, g3⟩ := band2 h6
    obtain ⟨g1, g2⟩ := band2 h6
    obtain ⟨n1, l1⟩ := lclOk_ok C.toCxt g1
    obtain ⟨n2, l2⟩ := lclOk_ok C.toCxt g2
    refine PS.imp (ps_par (C.calm h1) C.nd n1 n2 hij l1 l2 hA (stores_ok C.toCxt g3) (noSole_ok C.toCxt h4)) fun D σ H q => dnew2_rd hij q fun vs H' hl kk => ?_
    match vs, hl, kk with
    | [v, w], _, kk => exact ⟨v, w, rfl, kk _ (Ext.refl _)⟩
    | [], hl, _ => simp at hl
    | [_], hl, _ => simp at hl
    | _ :: _ :: _ :: _, hl, _ => simp at hl
theorem parE_rd {i j : Nat} {e d : Ex} {D : Ends} {σ : L2.St} {H : Hp} {w : Bool} {Q : List V → Hp → Prop} (hij : i ≠ j) (q : tS Z X.K E w (exS F (.parE i e j d)) D σ H)
    (kk : ∀ vs H', [i, j].length = vs.length → (∀ H2, Ext Z.T H' H2 → D.nx (setsV [i, j] vs σ) H2) → Q vs H') : tCons (tM Z X.K E (ev F e)) (tCons (tDn Z X.K E (mkD F (some d))) tNil) σ H Q := by
  obtain ⟨ρ, M, s, q⟩ := q
  refine ⟨ρ, M, s, ?_⟩
  simp only [exS] at q
  cases m1 : ev F e ρ with
  | bad => rw [m1] at q; exact q
  | exc k => rw [m1] at q; exact q
  | ok p =>
    rw [m1] at q
    simp only [R.fl_ok] at q
    intro v H1 x1 hv
    have s1 := s.go x1
    refine ⟨ρ, M, s1, ?_⟩
    cases m2 : mkD F (some d) ρ with
    | bad => rw [m2] at q; exact q
    | exc k => rw [m2] at q; exact fun H2 z => q H2 ((x1.Hm s.own).trans z)
    | ok kws =>
      rw [m2] at q
      simp only [R.fl_ok] at q
      intro b ws H2 nb x3 hb x4 hw
      refine kk [v, .ref b] H2 rfl fun H3 x5 => ?_
      have s2 := (s1.freshD x3 hb x4).go x5
      have x6 := x5.Hm (s1.freshD x3 hb x4).own
      have s3 := s2.setv (i := i) (Rep.go (x4.trans x6) hv)
      have s4 := s3.setd (i := j) (Among.setv s.among) nb (List.mem_cons_self ..) (x5.keep _ _ hb noTbl.dK) (KVs.go x6 hw)
      exact PF.go (((x1.Hm s.own).trans x4).trans x6) q _ H3 _ s4 (Ext.refl _)
theorem snds_parE {i j : Nat} {e d : Ex} : SndS F (.parE i e j d) := by
  intro Z c X E st C h
  unfold okSm at h
  split at h <;> try cases h
  all_goals first | contradiction | skip
  rename_i e0; cases e0
  rename_i x q1 y q2 k p a0 a1 k2 p2 pos
  obtain ⟨h, h6⟩ := band2 h
  obtain ⟨h, h5⟩ := band2 h
  obtain ⟨h, h4⟩ := band2 h
  obtain ⟨h, h3⟩ := band2 h
  obtain ⟨h1, h2⟩ := band2 h
  obtain ⟨h2, h2'⟩ := band2 h2
  have hij := of_decide_eq_true h5
  have hA := pa_cons ((snd F e).e C.toCxt h2 h2') (pa_cons (pe_dict C.toCxt h3) pa_nil (star_dict h3 _ _)) (star_of h2' _ _)
  rw [Bool.or_eq_true] at h6
  rcases h6 with h6 | h6
  · obtain ⟨g1, g2⟩ := band2 h6
    refine PS.imp (ps_asg (pe_tup hA) (tg_sound C.toCxt g2) (noSole_ok C.toCxt h4) (noStores_ok C.toCxt g1) rfl) fun D σ H q => ?_
    unfold tAsg tTup
    refine parE_rd hij q fun vs H' hl kk => ?_
    have hl2 : vs.length = 2 := hl.symm
    exact ⟨show vs.length ≤ 2 ^ 24 by omega, fun t ht => ⟨t, vs, rfl, SqT.of upd_same, hl.symm, gNs_of hl (kk _ (Ext.new ht))⟩⟩
  · obtain ⟨h6, g3⟩ := band2 h6
    obtain ⟨g1, g2⟩ := band2 h6
    obtain ⟨n1, l1⟩ := lclOk_ok C.toCxt g1
    obtain ⟨n2, l2⟩ := lclOk_ok C.toCxt g2
    refine PS.imp (ps_par (C.calm h1) C.nd n1 n2 hij l1 l2 hA (stores_ok C.toCxt g3) (noSole_ok C.toCxt h4)) fun D σ H q => parE_rd hij q fun vs H' hl kk => ?_
    match vs, hl, kk with
    | [v, w], _, kk => exact ⟨v, w, rfl, kk _ (Ext.refl _)⟩
    | [], hl, _ => simp at hl
    | [_], hl, _ => simp at hl
    | _ :: _ :: _ :: _, hl, _ => simp at hl
theorem snds_dcopy {i j : Nat} : SndS F (.dcopy i j) := by
  intro Z c X E st C h
  unfold okSm at h
  split at h <;> try cases h
  all_goals first | contradiction | skip
  rename_i e1; cases e1
  obtain ⟨h, h4⟩ := band2 h
  obtain ⟨h, h3⟩ := band2 h
  obtain ⟨h1, h2⟩ := band2 h
  obtain ⟨l1, l2, l3⟩ := locOk_ok C.toCxt h1
  obtain ⟨rfl, gx, dx, nx⟩ := gname_ok C.toCxt h2
  refine PS.imp (ps_set C.nd l1 l2 (pe_callTy call_dictD gx (mg_free C.toCxt (x := "dict") (by decide)) rfl (pa_cons (snd_var C.toCxt h3) pa_nil rfl) nx dx rfl rfl) (noSwap_ok C.toCxt h4) l3) fun D σ H q => ?_
  obtain ⟨ρ, M, s, q⟩ := q
  simp only [exS] at q
  cases ej : ρ[j]? with
  | none => rw [ej] at q; exact q.elim
  | some sv =>
    rw [ej] at q
    cases sv with
    | od kvs =>
      obtain ⟨b, vs, q1, q2, q3, q4⟩ := s.fd j kvs ej
      refine ⟨.ref b, q1, b, vs, rfl, .inl q3, fun p hp => ?_⟩
      have ext : Ext Z.T H (upd H p (.dK vs)) := Ext.new hp
      have e2 : Ext Z.T (Hm H M) (Hm (upd H p (.dK vs)) (p :: M)) := by rw [hm_new hp]; exact Ext.refl _
      have s1 := s.freshD ext upd_same e2
      exact PF.go e2 q _ _ (p :: M) (s1.setd s.among (s.own.new hp) (List.mem_cons_self ..) upd_same (KVs.go e2 q4)) (Ext.refl _)
    | _ => exact q.elim
end
end OS

end

section
set_option Elab.async false
set_option linter.all false
set_option maxRecDepth 100000
set_option maxHeartbeats 1000000
namespace OS
open PySem PySem.Spec PyProof.Rows L2 O
section
variable {Z : Zx} {F : Fs} {X : Cx} {E : XK} {c : Ck}
/-! ### try -/
mutual
theorem Rep.toX {Z : Zx} {K : PySem.W.Frag} {H : Hp} {x : Option (Addr × Nat)} (hx : Z.xa = none) : ∀ {p : PV} {v : V}, Rep Z K H p v → Rep { Z with xa := x } K H p v
  | .non, _, h => h
  | .bl _, _, h => h
  | .int _, _, h => h
  | .str _, _, h => h
  | .tup ps, _, ⟨a, vs, h1, h2, h3⟩ => ⟨a, vs, h1, h2, RepL.toX hx h3⟩
  | .lst ps, _, ⟨a, vs, h1, h2, h3⟩ => ⟨a, vs, h1, h2, RepL.toX hx h3⟩
  | .fn _, _, h => h
  | .obj _, _, h => h
  | .exc _, _, ⟨a, h1, h2⟩ => by rw [hx] at h2; cases h2
  | .scr _, _, h => h
  | .clo _ _, _, ⟨f, vs, h1, h2, h3⟩ => ⟨f, vs, h1, h2, RepL.toX hx h3⟩
  | .lam _ _, _, h => h
theorem RepL.toX {Z : Zx} {K : PySem.W.Frag} {H : Hp} {x : Option (Addr × Nat)} (hx : Z.xa = none) : ∀ {ps : List PV} {vs : List V}, RepL Z K H ps vs → RepL { Z with xa := x } K H ps vs
  | [], _, h => h
  | _ :: _, _, ⟨v, r, h1, h2, h3⟩ => ⟨v, r, h1, Rep.toX hx h2, RepL.toX hx h3⟩
end
mutual
theorem Rep.unX {Z : Zx} {K : PySem.W.Frag} {H : Hp} {x : Option (Addr × Nat)} : ∀ {p : PV} {v : V}, p.clean = true → Rep { Z with xa := x } K H p v → Rep Z K H p v
  | .non, _, _, h => h
  | .bl _, _, _, h => h
  | .int _, _, _, h => h
  | .str _, _, _, h => h
  | .tup ps, _, hc, ⟨a, vs, h1, h2, h3⟩ => ⟨a, vs, h1, h2, RepL.unX hc h3⟩
  | .lst ps, _, hc, ⟨a, vs, h1, h2, h3⟩ => ⟨a, vs, h1, h2, RepL.unX hc h3⟩
  | .fn _, _, _, h => h
  | .obj _, _, _, h => h
  | .exc _, _, hc, _ => by cases hc
  | .scr _, _, _, h => h
  | .clo _ _, _, hc, _ => by cases hc
  | .lam _ _, _, hc, _ => by cases hc
theorem RepL.unX {Z : Zx} {K : PySem.W.Frag} {H : Hp} {x : Option (Addr × Nat)} : ∀ {ps : List PV} {vs : List V}, PV.cleanL ps = true → RepL { Z with xa := x } K H ps vs → RepL Z K H ps vs
  | [], _, _, h => h
  | _ :: _, _, hc, ⟨v, r, h1, h2, h3⟩ => ⟨v, r, h1, Rep.unX (band2 hc).1 h2, RepL.unX (band2 hc).2 h3⟩
end
/-- the exception alone in its slot -/
theorem exc_sr {Z : Zx} {K : PySem.W.Frag} {H : Hp} {σ : L2.St} {i k : Nat} {a : Addr} (hx : Z.xa = some (a, k)) (hi : i < σ.length) (tb : LamX.Tabs Z.T H) : SR Z K [] H (σ.set i (some (.ref a))) (List.replicate i .un ++ [.v (.exc k)]) := by
  have nh : ∀ (j : Nat) (s : SV), (List.replicate i SV.un ++ [.v (.exc k)])[j]? = some s → (j = i ∧ s = .v (.exc k)) ∨ s = .un := by
    intro j s e
    by_cases hj : j < i
    · rw [List.getElem?_append_left (by simpa using hj), List.getElem?_replicate, if_pos hj] at e
      cases e; exact .inr rfl
    · rw [List.getElem?_append_right (by simpa using hj), List.length_replicate] at e
      have : j - i = 0 := by
        have := (List.getElem?_eq_some_iff.mp e).1
        simp at this; omega
      rw [this] at e
      cases e
      exact .inl ⟨by omega, rfl⟩
  refine ⟨own_nil, ?_, fun j p e => ?_, fun j p e => ?_, fun j p e => ?_, fun j l b _ hj => ?_, tb⟩
  · simp; omega
  · rcases nh j _ e with ⟨rfl, h⟩ | h
    · cases h
      exact ⟨.ref a, set_here hi, a, rfl, hx⟩
    · cases h
  · rcases nh j _ e with ⟨rfl, h⟩ | h <;> cases h
  · rcases nh j _ e with ⟨rfl, h⟩ | h <;> cases h
  · exfalso
    rcases hj with ⟨xs, e⟩ | ⟨xs, e⟩ <;> rcases nh j _ e with ⟨rfl, h⟩ | h <;> cases h

/-- the callee runs; its exceptions are let through at these slots -/
theorem run_callA {k n : Nat} {x : Str} {w : Bool} {pins : List (Addr × Obj)} {σ : L2.St} {H : Hp} {s : Shared} {M : List Addr} {ps : List PV} {vs : List V} {us : List Value} {Q : VK}
    (C : CallOk Z F X k x n w) (hx : ∀ pins H s e s', Inv X pins σ H s → L2N.CX X.prog X.w X.stack H s E e s' → X.xe e s') (I : Inv X pins σ H s) (ow : Own H M) (tb : LamX.Tabs Z.T H) (r : Vals vs us) (hl : vs.length = n) (hr : RepL Z X.K (Hm H M) ps vs)
    (h : Pf Z X.K w (Hm H M) (fun v H' => (∀ a ∈ M, H' a = none) → Q v (Hback H M H')) E (F k ps)) :
    wpAny (model X.prog X.w) X.A (call (.ref (Z.fad k)) us) (EP X pins σ Q) X.xe s := by
  obtain ⟨f, fd, pn, lvl, G, hroom, hm, hk, hb, rfl, _⟩ := C
  have I' := inv_hide I ow
  have sp : spOf Z X.K n w (F k) vs (Hm H M) (fun v H' => (∀ a ∈ M, H' a = none) → Q v (Hback H M H')) E := ⟨hl, (tabs_Hm ow).mpr tb, ps, hr, h⟩
  have hl2 : us.length = pn.length := by rw [← r.length]; exact G.len _ _ _ _ sp
  have b := hb s us I.kIn (by rw [List.append_nil]; exact hl2)
  rw [List.append_nil] at b
  refine wpAny_call (codeAny_mono (G.run X.A X.stack s (Hm H M) ⟨us, []⟩ us vs _ E hroom I'.env0 b r sp) fun rr s' hq => ?_)
  cases rr with
  | error e => exact hx pins (Hm H M) s e s' I' hq
  | ok fl =>
    cases fl with
    | ret u =>
      obtain ⟨v, H2, I2, rv, H', rfl, nM, q⟩ := call_back I ow hq
      exact ⟨v, _, I2, rv, q nM⟩
    | next => exact False.elim hq
    | brk => exact False.elim hq
    | cont => exact False.elim hq
/-- f(x), an exception told with the slots -/
def tAt (Z : Zx) (F : Fs) (K : PySem.W.Frag) (n : Nat) (W : WX) (k a : Nat) : TE := fun σ H Q => ∃ ρ M, SR Z K M H σ ρ ∧ ∃ p, ρ[a]? = some (.v p) ∧ Pk Z K (fun cls d H => σ.length = n → W cls d σ H) M H Q (F k [p])
theorem pe_callAt {Y : Cx} {W : WX} (tk : L2N.Takes Y W) (CO : ∀ k ∈ c.calls, ∀ f, fnAt c.fns k = some f → CallOk Z F Y k (Str.ofString f.name) f.ar f.ow) (hsc : Y.env.scope = c.sc) (hN : Y.N = c.N) {k a : Nat} {f y : Str} {p1 p2 p3 : Pos} (hf : fnOk c k f 1 = true) (hy : slotOk c a y = true) (hpl : fnPl c k = true) :
    PE Y (.Call (.Name f p1) [.Name y p2] [] p3) (tAt Z F Y.K Y.N.length W k a) := by
  unfold fnOk at hf
  obtain ⟨hf, hp⟩ := band2 hf
  obtain ⟨hf, hg⟩ := band2 hf
  obtain ⟨hf, h1⟩ := band2 hf
  have hin := of_decide_eq_true hf
  unfold fnPl at hpl
  cases ef : fnAt c.fns k with
  | none => rw [ef] at h1; cases h1
  | some fi =>
    rw [ef] at h1 hpl
    obtain ⟨h2, h3⟩ := band2 h1
    cases of_decide_eq_true h2
    have har := of_decide_eq_true h3
    have how : fi.ow = false := bnot1 hpl
    have CO := CO k hin fi ef
    have gl : Gl Y (Str.ofString fi.name) := by
      unfold Gl Env.kindOf
      rw [hsc]
      exact of_decide_eq_true hg
    have hv : PE Y (.Name y p2) (tVar a) := by
      unfold slotOk at hy
      rw [Bool.and_eq_true, Bool.and_eq_true, decide_eq_true_eq] at hy
      obtain ⟨⟨y1, y2⟩, y3⟩ := hy
      refine pe_var (by rw [hN]; exact y1) ?_ (plainN_ok y3).1 (plainN_ok y3).2.1
      rw [hsc]
      exact vis_ok y2
    refine ⟨fun pins s σ H Q I q => ?_⟩
    obtain ⟨ρ, M, sr, pv, e1, q⟩ := q
    obtain ⟨v, s1, r1⟩ := sr.fv a pv e1
    obtain ⟨g, fd, pn, lvl, G, hroom, hm, hk, hb, hfad, hw⟩ := id CO
    refine wpAny_Call_Name_kw (ld_glob I gl hm ?_ (plainN_ok hp).1)
    refine PySem.W.callWith_K (h₀ := Y.base) I.ok.mod.kin hk (thn ((pa_cons hv pa_nil rfl).run p3 pins s σ H (fun vs H1 => vs = [v] ∧ H1 = H) I ⟨v, s1, rfl, rfl⟩) fun us s2 ⟨vs, H1, I1, r, ev, eH⟩ => ⟨I1.kIn, ?_⟩) rfl rfl
    subst ev eH
    rw [← hfad]
    rw [how] at CO
    exact run_callA CO (fun pins H s e s' I c => tk e s' (L2N.XE.of_call I (fun cls d H' h => h I.len) c)) I1 sr.own sr.tabs r har.symm (show RepL Z Y.K (Hm _ M) [pv] [v] from ⟨v, [], rfl, r1, rfl⟩) (pf_of (X := Y) sr.own q fun w => by cases w)
/-- slots in an except suite -/
theorem keep_sr {Z : Zx} {K : PySem.W.Frag} {M : List Addr} {H H' : Hp} {σ : L2.St} {ρ : O.St} {i k : Nat} {a : Addr} (s : SR Z K M H σ ρ) (hx : Z.xa = none) (e : Ext Z.T (Hm H M) H') (hi : i < σ.length) : SR { Z with xa := some (a, k) } K [] H' (σ.set i (some (.ref a))) (keepR ρ i k) := by
  have keep : ∀ (j : Nat) (sv : SV), (ρ.map keepS)[j]? = some sv → sv = .un ∨ ∃ p, sv = .v p ∧ ρ[j]? = some (.v p) := by
    intro j sv h
    rw [List.getElem?_map] at h
    cases q : ρ[j]? with
    | none => rw [q] at h; cases h
    | some t =>
      rw [q] at h
      cases h
      cases t with
      | v p =>
        show (if p.clean = true then SV.v p else .un) = .un ∨ _
        by_cases hp : p.clean = true
        · rw [if_pos hp]; exact .inr ⟨p, if_pos hp, rfl⟩
        · rw [if_neg hp]; exact .inl rfl
      | _ => exact .inl rfl
  unfold keepR
  refine ⟨own_nil, by simpa using s.len, fun j p h => ?_, fun j xs h => ?_, fun j xs h => ?_, fun j l b _ hj => ?_, e.tabs ((tabs_Hm s.own).mpr s.tabs)⟩
  · by_cases hj : j = i
    · subst hj
      cases (set_at h).1
      exact ⟨.ref a, set_here hi, a, rfl, rfl⟩
    · rw [set_other hj] at h
      rcases keep j _ h with z | ⟨q, z, h2⟩
      · cases z
      · cases z
        obtain ⟨v, v1, v2⟩ := s.fv j p h2
        refine ⟨v, by rw [set_other hj]; exact v1, ?_⟩
        rw [Hm.nil]
        exact Rep.toX hx (Rep.go e v2)
  · by_cases hj : j = i
    · subst hj; exact absurd (set_at h).1 (by intro z; cases z)
    · rw [set_other hj] at h
      rcases keep j _ h with z | ⟨q, z, _⟩ <;> cases z
  · by_cases hj : j = i
    · subst hj; exact absurd (set_at h).1 (by intro z; cases z)
    · rw [set_other hj] at h
      rcases keep j _ h with z | ⟨q, z, _⟩ <;> cases z
  · exfalso
    rcases hj with ⟨xs, h⟩ | ⟨xs, h⟩
    · by_cases hj : j = i
      · subst hj; exact absurd (set_at h).1 (by intro z; cases z)
      · rw [set_other hj] at h
        rcases keep j _ h with z | ⟨q, z, _⟩ <;> cases z
    · by_cases hj : j = i
      · subst hj; exact absurd (set_at h).1 (by intro z; cases z)
      · rw [set_other hj] at h
        rcases keep j _ h with z | ⟨q, z, _⟩ <;> cases z
theorem snds_tryC {ks : List Nat} {j : Nat} {p : PV} {k1 a1 k2 a2 i : Nat} {suite : List Sm} (hs : SndB F suite) : SndS F (.tryC ks j p k1 a1 k2 a2 i suite) := by
  intro Z c X E st C h
  unfold okSm at h
  split at h <;> try cases h
  all_goals first | contradiction | skip
  rename_i e1; cases e1
  rename_i x xp op q cj cp cmp f fp y yp p1 ep1 g gp z zp p2 ep2 ifp xc xcp n b₀ suite' pos' pos
  obtain ⟨h, h18⟩ := band2 h
  obtain ⟨h, h17⟩ := band2 h
  obtain ⟨h, h16⟩ := band2 h
  obtain ⟨h, h15⟩ := band2 h
  obtain ⟨h, h14⟩ := band2 h
  obtain ⟨h, h13⟩ := band2 h
  obtain ⟨h, h12⟩ := band2 h
  obtain ⟨h, h11⟩ := band2 h
  obtain ⟨h, h10⟩ := band2 h
  obtain ⟨h, h9⟩ := band2 h
  obtain ⟨h, h8⟩ := band2 h
  obtain ⟨h, h7⟩ := band2 h
  obtain ⟨h, h6⟩ := band2 h
  obtain ⟨h, h5⟩ := band2 h
  obtain ⟨h, h4⟩ := band2 h
  obtain ⟨h, h3⟩ := band2 h
  obtain ⟨h1, h2⟩ := band2 h
  cases of_decide_eq_true h4
  have how : c.ow = false := bnot1 h3
  have hxa := C.cxa h1
  obtain ⟨m1, m2⟩ := lclOk_ok C.toCxt h14
  unfold excOk at h13
  obtain ⟨h13, hp⟩ := band2 h13
  obtain ⟨h13, hg⟩ := band2 h13
  cases ex : excAt c.excs 0 with
  | none => rw [ex] at h13; cases h13
  | some yy =>
    rw [ex] at h13
    cases of_decide_eq_true h13
    obtain ⟨_, _, _, _, _, _, hm0, _, _, _⟩ := C.rz 0 yy ex
    have hnm : Names X (Str.ofString yy) (.ref (Z.cad 0)) := ⟨gl_of C.toCxt hg, (plainN_ok hp).1, .inl hm0⟩
    have hln : X.env.kindOf n = some .local := m2
    have hok : okE c (.cmp .eq (.var j) (.con p)) (.Compare (.Name x xp) [.Eq] [.Constant q cj cp] cmp) = true := by
      show (decide (CmpOp.Eq = astC .eq) && okE c (.var j) (.Name x xp) && okE c (.con p) (.Constant q cj cp) && !behindInMarks .Eq (.Constant q cj cp)) = true
      rw [Bool.and_eq_true, Bool.and_eq_true, Bool.and_eq_true]
      exact ⟨⟨⟨rfl, h5⟩, h6⟩, rfl⟩
    refine PS.imp (L2N.ps_try_as (i := i) (tb := fun W => tSeq (tIfS (tB Z X.K (fun cls d H => ∀ σ : L2.St, σ.length = X.N.length → W cls d σ H) (ev F (.cmp .eq (.var j) (.con p)))) (tSeq (tDrop (tAt Z F X.K X.N.length W k1 a1)) tNext) (tSeq (tDrop (tAt Z F X.K X.N.length W k2 a2)) tNext)) tNext)
      (ts := fun a cls d D σ H => ∃ k, k ∈ ks ∧ cls = .ref (Z.cad k) ∧ d = none ∧ tS { Z with xa := some (a, k) } X.K XF false (exB F suite) D σ H)
      C.stk C.frm C.nd m1 hln hnm C.tk (fun W pn xe tkW po => ?_) (fun a oe cls d pn hz hf => ?_)) fun D σ H q => ?_
    · have tk' : L2N.Takes (X.tr pn xe) (fun cls d _ H => ∀ σ : L2.St, σ.length = X.N.length → W cls d σ H) := fun u s' ⟨a, B, sI, pins, σ, H, cls, d, e, I, nb, up, sky, na, os, ag, w⟩ => tkW u s' ⟨a, B, sI, pins, σ, H, cls, d, e, I, nb, up, sky, na, os, ag, w σ I.len⟩
      have C' : Cs Z F (tryCk c) (X.tr pn xe) (fun cls d H => ∀ σ : L2.St, σ.length = X.N.length → W cls d σ H) :=
        { sc := C.sc, N := C.N, nd := C.nd, loc := C.loc, calm := C.calm, un := C.un, dep := C.dep, lam := C.lam, glob := C.glob, tabs := C.tabs, free := C.free, call := C.call, cxa := C.cxa
          isx := fun a k h => by rw [hxa] at h; cases h
          mkr := C.mkr, okl := C.okl, clo := C.clo
          hotx := .inl h1
          hotr := fun _ _ h => by cases h
          htr := fun _ _ h => by cases h
          pass := L2N.passes_call tk' fun _ _ _ _ h => h
          pown := po
          tk := tk'
          rz := C.rz, stk := C.stk, frm := C.frm, xf := C.xf }
      exact pss_cons (ps_if ((snd F _).t C'.toCxt rfl hok rfl) (pss_cons (ps_expr (pe_callAt (Y := X.tr pn xe) tkW C'.call C.sc C.N h7 h8 h17) (noSwap_ok C'.toCxt h11)) pss_nil) (pss_cons (ps_expr (pe_callAt (Y := X.tr pn xe) tkW C'.call C.sc C.N h9 h10 h18) (noSwap_ok C'.toCxt h12)) pss_nil)) pss_nil
    · refine ⟨fun pins s σ H D I q => ?_⟩
      obtain ⟨k, hk, rfl, rfl, q⟩ := q
      obtain ⟨xk, exk⟩ := Option.isSome_iff_exists.mp (List.all_eq_true.mp h15 k hk)
      obtain ⟨x1, x2, xv, x3⟩ := C.xf h2 k xk exk
      have C' : Cs { Z with xa := some (a, k) } F (suiteCk c) (X.suite a ((a, oe) :: pn)) XF :=
        { sc := C.sc, N := C.N, nd := C.nd, loc := C.loc, calm := fun h => by cases h
          un := C.un
          dep := C.dep
          lam := fun h => by cases h
          tabs := C.tabs
          glob := fun g hg => by
            obtain ⟨u, v, e1, e2, e3⟩ := C.glob g hg
            exact ⟨u, v, e1, e2, fun H => Rep.toX hxa (e3 H)⟩
          free := C.free, call := fun k hk => by cases hk
          cxa := fun h => by cases h
          mkr := fun h => by cases h
          okl := fun h => by cases h
          clo := fun h => by cases h
          hotx := .inr ⟨(a, oe), ⟨rfl, by obtain ⟨vs, e⟩ := hf; exact ⟨vs, e, hz.2.2 vs e⟩⟩, List.mem_cons_self ..⟩
          hotr := fun k' nm hh => C.htr k' nm hh a oe pn k xk hz hf exk
          htr := fun _ _ h => by cases h
          isx := fun a' k' h' => by
            cases h'
            exact ⟨call_isE x1 hz.zc hf, xv, fun j y hj => by
              obtain ⟨_, _, _, _, _, _, hmj, _, _, _⟩ := C.rz j y hj
              exact ⟨hmj, x3 j y hj⟩⟩
          pass := fun pins σ H s e s' I q => by
            obtain ⟨_, _, _, _, _, _, _, _, _, _, _, _, z⟩ := q
            exact z
          pown := PassesOwn.never
          tk := fun u s' ⟨_, _, _, _, _, _, _, _, _, _, _, _, _, _, _, _, w⟩ => w.elim
          rz := C.rz, stk := C.stk, frm := C.frm, xf := C.xf }
      exact (hs C' h16).run pins s σ H D I q
    · rw [how] at q
      obtain ⟨ρ, M, s, q⟩ := q
      simp only [exS] at q
      cases ej : ρ[j]? with
      | none => rw [ej] at q; exact q.elim
      | some sj =>
        cases e1 : ρ[a1]? with
        | none => rw [ej, e1] at q; cases sj <;> exact q.elim
        | some s1 =>
          cases e2 : ρ[a2]? with
          | none => rw [ej, e1, e2] at q; cases sj <;> cases s1 <;> exact q.elim
          | some s2 =>
            rw [ej, e1, e2] at q
            cases sj with
            | v vx =>
              cases s1 with
              | v y1 =>
                cases s2 with
                | v y2 =>
                  simp only at q
                  refine ⟨ρ, M, s, ?_⟩
                  have ee : ev F (.cmp .eq (.var j) (.con p)) ρ = cop .eq vx p := by simp only [ev, ej, R.bind_ok]
                  rw [ee]
                  cases hb : cop .eq vx p with
                  | bad => rw [hb] at q; exact q
                  | exc k => exact (cop_nox .eq vx p k hb).elim
                  | ok pb =>
                    rw [hb] at q
                    cases pb with
                    | bl b =>
                      simp only [R.fl_ok] at q
                      intro H1 g1
                      have fin : ∀ (kk : Nat) (y : PV) (aa : Nat), ρ[aa]? = some (.v y) → PF Z X.K E false M H D (match F kk [y] with
                          | .ok _ => .next ρ
                          | .exc k => if k ∈ ks then (match exB F suite (keepR ρ i k) with
                            | .ret q => if q.clean then .ret q else .bad
                            | _ => .bad) else .bad
                          | .bad => .bad) → tAt Z F X.K X.N.length (wAs X.K (.ref (Z.cad 0)) i (fun a cls d D σ H => ∃ k, k ∈ ks ∧ cls = .ref (Z.cad k) ∧ d = none ∧ tS { Z with xa := some (a, k) } X.K XF false (exB F suite) D σ H) (fun cls d _ H => E cls d H) D) kk aa σ H1 (fun _ H2 => D.nx σ H2) := by
                        intro kk y aa hy q
                        refine ⟨ρ, M, s.go g1, y, hy, ?_⟩
                        cases hF : F kk [y] with
                        | bad => rw [hF] at q; exact q
                        | ok pv =>
                          rw [hF] at q
                          intro v H2 g2 _
                          exact q σ H2 M ((s.go g1).go g2) ((g1.trans g2).Hm s.own)
                        | exc k =>
                          rw [hF] at q
                          simp only at q
                          by_cases hk : k ∈ ks
                          · rw [if_pos hk] at q
                            obtain ⟨xk, exk⟩ := Option.isSome_iff_exists.mp (List.all_eq_true.mp h15 k hk)
                            obtain ⟨x1, x2, xv, x3⟩ := C.xf h2 k xk exk
                            intro H' e' hlen
                            have e'' : Ext Z.T (Hm H M) H' := (g1.Hm s.own).trans e'
                            refine ⟨true, x2, fun _ a ha => ⟨k, hk, rfl, rfl, _, [], keep_sr s hxa e'' (by rw [hlen]; exact (List.getElem?_eq_some_iff.mp m1).1), ?_⟩, fun z => by cases z⟩
                            cases es : exB F suite (keepR ρ i k) with
                            | next r => rw [es] at q; exact q.elim
                            | brk r => rw [es] at q; exact q.elim
                            | bad => rw [es] at q; exact q.elim
                            | exc j => rw [es] at q; exact q.elim
                            | ret pq =>
                              rw [es] at q
                              simp only at q
                              by_cases hc : pq.clean = true
                              · rw [if_pos hc] at q
                                intro v H2 M2 o2 e2 w2
                                rw [Hm.nil] at e2
                                exact q v H2 M2 o2 (e''.trans e2) (Rep.unX hc w2)
                              · rw [if_neg hc] at q; exact q.elim
                          · rw [if_neg hk] at q; exact q.elim
                      cases b with
                      | true =>
                        rw [if_pos rfl]
                        exact fin k1 y1 a1 e1 q
                      | false =>
                        rw [if_neg Bool.false_ne_true]
                        exact fin k2 y2 a2 e2 q
                    | _ => exact q.elim
                | _ => exact q.elim
              | _ => exact q.elim
            | _ => exact q.elim
end
end OS

end

section
set_option Elab.async false
set_option linter.all false
set_option maxRecDepth 100000
set_option maxHeartbeats 1000000
namespace OS
open PySem PySem.Spec PyProof.Rows L2 O
section
variable {Z : Zx} {F : Fs} {X : Cx} {E : XK} {c : Ck}
/-- call(), a closure of a slot; an exception told with the slots -/
def tClo (Z : Zx) (F : Fs) (K : PySem.W.Frag) (n : Nat) (W : WX) (a : Nat) : TE := fun σ H Q => ∃ ρ M, SR Z K M H σ ρ ∧ ∃ k ps, ρ[a]? = some (.v (.clo k ps)) ∧ Pk Z K (fun cls d H => σ.length = n → W cls d σ H) M H Q (F k ps)
theorem pe_cloAt {Y : Cx} {W : WX} (tk : L2N.Takes Y W) (CRu : CloRule Z F Y) (hsc : Y.env.scope = c.sc) (hN : Y.N = c.N) {a : Nat} {f : Str} {p1 p3 : Pos} (hy : slotOk c a f = true) : PE Y (.Call (.Name f p1) [] [] p3) (tClo Z F Y.K Y.N.length W a) := by
  have hv : PE Y (.Name f p1) (tVar a) := nm_pe hsc hN hy
  refine ⟨fun pins s σ H Q I q => ?_⟩
  obtain ⟨ρ, M, sr, k, ps, e, q⟩ := q
  obtain ⟨v, s1, r1⟩ := sr.fv a _ e
  obtain ⟨g, vs, rfl, _⟩ := id r1
  refine wpAny_Call_Name_kw (thn (hv.run pins s σ H (fun v' H1 => v' = .ref g ∧ H1 = H) I ⟨.ref g, s1, rfl, rfl⟩) fun u s2 ⟨v', H1, I1, rv, q1⟩ => ?_)
  obtain ⟨ev', eH⟩ := q1
  subst ev'
  rw [eH] at I1
  obtain rfl : u = Value.ref g := rv
  obtain ⟨⟨_, _, _, _, _, _, _, _, fo⟩, w⟩ := run_cloA CRu (fun pins H s e s' I c => tk e s' (L2N.XE.of_call I (fun cls d H' h => h I.len) c)) I1 sr.own sr.tabs r1 q
  exact PySem.W.callWith_F0 ⟨_, _, _, _, fo⟩ w
theorem snds_tryX {ks : List Nat} {a₀ i : Nat} {suite : List Sm} (hs : SndB F suite) : SndS F (.tryX ks a₀ i suite) := by
  intro Z c X E st C h
  unfold okSm at h
  split at h <;> try cases h
  all_goals first | contradiction | skip
  rename_i e1; cases e1
  rename_i body' x xp n b₀ suite' pos' pos
  obtain ⟨h, h9⟩ := band2 h
  obtain ⟨h, h8⟩ := band2 h
  obtain ⟨h, h7⟩ := band2 h
  obtain ⟨h, h6⟩ := band2 h
  obtain ⟨h, h5⟩ := band2 h
  obtain ⟨h, h4⟩ := band2 h
  obtain ⟨h, h3⟩ := band2 h
  obtain ⟨h1, h2⟩ := band2 h
  have how : c.ow = false := bnot1 h3
  have hxa := C.cxa h1
  obtain ⟨m1, m2⟩ := lclOk_ok C.toCxt h6
  unfold callB at h8
  split at h8
  · rename_i f fp p1 ep
    obtain ⟨g1, g2⟩ := band2 h8
    unfold excOk at h5
    obtain ⟨h5, hp⟩ := band2 h5
    obtain ⟨h5, hg⟩ := band2 h5
    cases ex : excAt c.excs 0 with
    | none => rw [ex] at h5; cases h5
    | some yy =>
      rw [ex] at h5
      cases of_decide_eq_true h5
      obtain ⟨_, _, _, _, _, _, hm0, _, _, _⟩ := C.rz 0 yy ex
      have hnm : Names X (Str.ofString yy) (.ref (Z.cad 0)) := ⟨gl_of C.toCxt hg, (plainN_ok hp).1, .inl hm0⟩
      have hln : X.env.kindOf n = some .local := m2
      refine PS.imp (L2N.ps_try_as (i := i) (tb := fun W => tSeq (tDrop (tClo Z F X.K X.N.length W a₀)) tNext)
        (ts := fun a cls d D σ H => ∃ k, k ∈ ks ∧ cls = .ref (Z.cad k) ∧ d = none ∧ tS { Z with xa := some (a, k) } X.K XF false (exB F suite) D σ H)
        C.stk C.frm C.nd m1 hln hnm C.tk (fun W pn xe tkW po => ?_) (fun a oe cls d pn hz hf => ?_)) fun D σ H q => ?_
      · have tk' : L2N.Takes (X.tr pn xe) (fun cls d _ H => ∀ σ : L2.St, σ.length = X.N.length → W cls d σ H) := fun u s' ⟨a, B, sI, pins, σ, H, cls, d, e, I, nb, up, sky, na, os, ag, w⟩ => tkW u s' ⟨a, B, sI, pins, σ, H, cls, d, e, I, nb, up, sky, na, os, ag, w σ I.len⟩
        have C' : Cs Z F (tryCk c) (X.tr pn xe) (fun cls d H => ∀ σ : L2.St, σ.length = X.N.length → W cls d σ H) :=
          { sc := C.sc, N := C.N, nd := C.nd, loc := C.loc, calm := C.calm, un := C.un, dep := C.dep, lam := C.lam, glob := C.glob, tabs := C.tabs, free := C.free, call := C.call, cxa := C.cxa
            isx := fun a k h => by rw [hxa] at h; cases h
            mkr := C.mkr, okl := C.okl, clo := C.clo
            hotx := .inl h1
            hotr := fun _ _ h => by cases h
            htr := fun _ _ h => by cases h
            pass := L2N.passes_call tk' fun _ _ _ _ h => h
            pown := po
            tk := tk'
            rz := C.rz, stk := C.stk, frm := C.frm, xf := C.xf }
        exact pss_cons (ps_expr (pe_cloAt (Y := X.tr pn xe) (c := c) tkW (C.clo h4) C.sc C.N g1) (noSwap_ok C'.toCxt g2)) pss_nil
      · refine ⟨fun pins s σ H D I q => ?_⟩
        obtain ⟨k, hk, rfl, rfl, q⟩ := q
        obtain ⟨xk, exk⟩ := Option.isSome_iff_exists.mp (List.all_eq_true.mp h7 k hk)
        obtain ⟨x1, x2, xv, x3⟩ := C.xf h2 k xk exk
        have C' : Cs { Z with xa := some (a, k) } F (suiteCk c) (X.suite a ((a, oe) :: pn)) XF :=
          { sc := C.sc, N := C.N, nd := C.nd, loc := C.loc, calm := fun h => by cases h
            un := C.un
            dep := C.dep
            lam := fun h => by cases h
            tabs := C.tabs
            glob := fun g hg => by
              obtain ⟨u, v, e1, e2, e3⟩ := C.glob g hg
              exact ⟨u, v, e1, e2, fun H => Rep.toX hxa (e3 H)⟩
            free := C.free, call := fun k hk => by cases hk
            cxa := fun h => by cases h
            mkr := fun h => by cases h
            okl := fun h => by cases h
            clo := fun h => by cases h
            hotx := .inr ⟨(a, oe), ⟨rfl, by obtain ⟨vs, e⟩ := hf; exact ⟨vs, e, hz.2.2 vs e⟩⟩, List.mem_cons_self ..⟩
            hotr := fun k' nm hh => C.htr k' nm hh a oe pn k xk hz hf exk
            htr := fun _ _ h => by cases h
            isx := fun a' k' h' => by
              cases h'
              exact ⟨call_isE x1 hz.zc hf, xv, fun j y hj => by
                obtain ⟨_, _, _, _, _, _, hmj, _, _, _⟩ := C.rz j y hj
                exact ⟨hmj, x3 j y hj⟩⟩
            pass := fun pins σ H s e s' I q => by
              obtain ⟨_, _, _, _, _, _, _, _, _, _, _, _, z⟩ := q
              exact z
            pown := PassesOwn.never
            tk := fun u s' ⟨_, _, _, _, _, _, _, _, _, _, _, _, _, _, _, _, w⟩ => w.elim
            rz := C.rz, stk := C.stk, frm := C.frm, xf := C.xf }
        exact (hs C' h9).run pins s σ H D I q
      · rw [how] at q
        obtain ⟨ρ, M, s, q⟩ := q
        simp only [exS] at q
        cases e1 : ρ[a₀]? with
        | none => rw [e1] at q; exact q.elim
        | some s1 =>
          rw [e1] at q
          cases s1 with
          | v y1 =>
            cases y1 with
            | clo kk qs =>
              simp only at q
              refine ⟨ρ, M, s, kk, qs, e1, ?_⟩
              cases hF : F kk qs with
              | bad => rw [hF] at q; exact q
              | ok pv =>
                rw [hF] at q
                intro v H2 g2 _
                exact q σ H2 M (s.go g2) (g2.Hm s.own)
              | exc k =>
                rw [hF] at q
                simp only at q
                by_cases hk : k ∈ ks
                · rw [if_pos hk] at q
                  obtain ⟨xk, exk⟩ := Option.isSome_iff_exists.mp (List.all_eq_true.mp h7 k hk)
                  obtain ⟨x1, x2, xv, x3⟩ := C.xf h2 k xk exk
                  intro H' e' hlen
                  refine ⟨true, x2, fun _ a ha => ⟨k, hk, rfl, rfl, _, [], keep_sr s hxa e' (by rw [hlen]; exact (List.getElem?_eq_some_iff.mp m1).1), ?_⟩, fun z => by cases z⟩
                  cases es : exB F suite (keepR ρ i k) with
                  | next r => rw [es] at q; exact q.elim
                  | brk r => rw [es] at q; exact q.elim
                  | bad => rw [es] at q; exact q.elim
                  | exc j => rw [es] at q; exact q.elim
                  | ret pq =>
                    rw [es] at q
                    simp only at q
                    by_cases hc : pq.clean = true
                    · rw [if_pos hc] at q
                      intro v H2 M2 o2 e2 w2
                      rw [Hm.nil] at e2
                      exact q v H2 M2 o2 (e'.trans e2) (Rep.unX hc w2)
                    · rw [if_neg hc] at q; exact q.elim
                · rw [if_neg hk] at q; exact q.elim
            | _ => exact q.elim
          | _ => exact q.elim
  · cases h8
end
end OS

end

section
set_option Elab.async false
set_option linter.all false
set_option maxRecDepth 100000
set_option maxHeartbeats 1000000
/-! comprehensions with two fors -/
namespace OS
open PySem PySem.Spec PyProof.Rows L2 O
section
variable {Z : Zx} {F : Fs} {X : Cx} {E : XK} {c : Ck}
theorem Grow.len {K : PySem.W.Frag} {M : List Addr} {D : Addr} {H1 H : Hp} {i : Nat} {qs : List PV} (g : Grow Z K M D H1 i qs H) : Grow Z K M D H1 qs.length qs H := by
  obtain ⟨acc, h1, h2, h3⟩ := g.acc
  exact ⟨g.own, g.ext, g.low, acc, h1, h2, Nat.le_of_eq h2.length.symm⟩
theorem tLc2_of {elt : Ex} {i1 i2 : Nat} {e1 e2 : Ex} {σ : L2.St} {H : Hp} {Q : VK} (hne : i1 ≠ i2) (h : tN Z X.K E (m2 F elt i1 e1 i2 e2) σ H Q) :
    tLc2 (tIt Z X.K E (fun ρ => (evs F [e1] ρ).bind (walk .val))) (gT X.K (.one i1)) (tB Z X.K XF (evAnd F [])) (tIF Z X.K XF (fun ρ => (evs F [e2] ρ).bind (walk .val))) (gT X.K (.one i2)) (tB Z X.K XF (evAnd F [])) (tM Z X.K XF (ev F elt)) [i1, i2] [i2] σ H Q := by
  obtain ⟨ρ, M, s, h⟩ := h
  unfold m2 at h
  refine ⟨ρ, M, s, ?_⟩
  dsimp only
  cases ea : (evs F [e1] ρ).bind (walk .val) with
  | bad => rw [ea] at h; exact h
  | exc k => rw [ea] at h; exact h
  | ok xs =>
    rw [ea] at h
    simp only [R.bind_ok] at h
    intro J H1 x1 io D hD
    have own1 := s.own.go x1
    cases ec : c2L F elt i1 i2 e2 (ρ.set i2 .un) xs with
    | bad => rw [ec] at h; exact h.elim
    | exc k => rw [ec] at h; exact h.elim
    | ok ys =>
      rw [ec] at h
      simp only at h
      by_cases hlim : lim ys.length = true
      · rw [if_pos hlim] at h
        have hlen : ys.length ≤ 1000000 := of_decide_eq_true hlim
        refine ⟨fun i m Hc => m = xs.length - i ∧ i ≤ xs.length ∧ ∃ qs zs, ys = qs ++ zs ∧ c2L F elt i1 i2 e2 (ρ.set i2 .un) (xs.drop i) = .ok zs ∧ Grow Z X.K M D H1 qs.length qs Hc, ⟨xs.length, by simp, Nat.zero_le _, [], ys, rfl, by simpa using ec, Grow.start own1 hD⟩, ?_⟩
        rintro i m Hc ⟨rfl, hi, qs, zs, ey, ez, g⟩
        obtain ⟨j1, j2, j3⟩ := io Hc (D :: M) g.own g.ext g.low i
        by_cases hlt : i < xs.length
        · refine .inr ⟨j1 hlt, fun H' => ∃ qs zs, ys = qs ++ zs ∧ c2L F elt i1 i2 e2 (ρ.set i2 .un) (xs.drop (i + 1)) = .ok zs ∧ Grow Z X.K M D H1 qs.length qs H', fun H' hN => ⟨xs.length - (i + 1), by omega, rfl, hlt, hN⟩, fun x H' hy => ?_⟩
          rw [List.drop_eq_getElem_cons hlt] at ez
          obtain ⟨x2, hx⟩ := j3 xs[i] x H' (List.getElem?_eq_getElem hlt) hy
          have g2 := g.go x2
          have sr : SR Z X.K (D :: M) H' σ ρ := (s.go x1).more g2.own (fun a ha => ⟨List.mem_cons_of_mem _ ha, by
            rcases own1 a ha with ⟨l, z⟩ | ⟨l, z⟩
            · rw [z]; exact g2.ext.keep _ _ z noTbl.lst
            · rw [z]; exact g2.ext.keep _ _ z noTbl.dK⟩) g2.low
          unfold c2L at ez
          have bt : bindT (.one i1) xs[i] (wipeO ρ [i1, i2]) = .ok ((ρ.set i2 .un).set i1 (.v xs[i])) := by
            show R.ok (((ρ.set i2 .un).set i1 .un).set i1 (.v xs[i])) = _
            rw [List.set_set]
          refine gT_of (sr.wipe [i1, i2]) bt hx fun σ2 sr2 hl2 ho2 => ⟨?_, _, D :: M, sr2, ?_⟩
          · refine wipe_eq (by rw [hl2, L2.wipe_length]) fun j hj => ?_
            have hj1 : j ∉ tgSlots (.one i1) := fun z => hj (by rw [List.mem_singleton.mp z]; simp)
            rw [ho2 j hj1, wipe_other σ hj]
          · simp only [evAnd]
            intro H3 x3
            rw [if_pos trivial]
            refine ⟨_, D :: M, sr2.go x3, ?_⟩
            cases eb : (evs F [e2] ((ρ.set i2 .un).set i1 (.v xs[i]))).bind (walk .val) with
            | bad => rw [eb] at ez; cases ez
            | exc k => rw [eb] at ez; cases ez
            | ok us =>
              rw [eb] at ez
              simp only at ez
              cases ei : c2I F elt i2 ((ρ.set i2 .un).set i1 (.v xs[i])) us with
              | bad => rw [ei] at ez; cases ez
              | exc k => rw [ei] at ez; cases ez
              | ok vs =>
                rw [ei] at ez
                simp only at ez
                cases er : c2L F elt i1 i2 e2 (ρ.set i2 .un) (xs.drop (i + 1)) with
                | bad => rw [er] at ez; cases ez
                | exc k => rw [er] at ez; cases ez
                | ok ws =>
                  rw [er] at ez
                  cases ez
                  dsimp only
                  rw [eb]
                  intro J1 H4 x4 io1
                  have g4 := (g2.go x3).go x4
                  have sr4 := (sr2.go x3).go x4
                  have am2 : Among σ2 ((ρ.set i2 .un).set i1 (.v xs[i])) M := fun q a hh e => by
                    have q1 : q ≠ i1 := fun z => by
                      subst z
                      rcases hh with ⟨_, z⟩ | ⟨_, z⟩ <;> exact absurd (set_at z).1 (by intro z; cases z)
                    have h2 := held_other q1 hh
                    have q2 : q ≠ i2 := fun z => by
                      subst z
                      rcases h2 with ⟨_, z⟩ | ⟨_, z⟩ <;> exact absurd (set_at z).1 (by intro z; cases z)
                    have h3 := held_other q2 h2
                    have e2 : σ2[q]? = σ[q]? := by rw [ho2 q (fun z => q1 (List.mem_singleton.mp z)), wipe_other σ (by simp [q1, q2])]
                    rw [e2] at e
                    exact s.among q a h3 e
                  refine ⟨fun j k Hd => k = us.length - j ∧ j ≤ us.length ∧ Ext Z.T (Hm H4 (D :: M)) (Hm Hd (D :: M)) ∧ ∃ qs vs, ys = qs ++ (vs ++ ws) ∧ c2I F elt i2 ((ρ.set i2 .un).set i1 (.v xs[i])) (us.drop j) = .ok vs ∧ Grow Z X.K M D H1 qs.length qs Hd, ⟨us.length, by simp, Nat.zero_le _, Ext.refl _, qs, vs, ey, by simpa using ei, g4⟩, ?_⟩
                  rintro j k Hd ⟨rfl, hj, xd, qs', vs', ey', ev', g'⟩
                  obtain ⟨l1, l2, l3⟩ := io1 Hd (D :: M) g'.own (xd.trans (Ext.unHm g'.own)) xd j
                  by_cases hlt' : j < us.length
                  · refine .inr ⟨l1 hlt', fun H' => Ext Z.T (Hm H4 (D :: M)) (Hm H' (D :: M)) ∧ ∃ qs vs, ys = qs ++ (vs ++ ws) ∧ c2I F elt i2 ((ρ.set i2 .un).set i1 (.v xs[i])) (us.drop (j + 1)) = .ok vs ∧ Grow Z X.K M D H1 qs.length qs H', fun H' hN => ⟨us.length - (j + 1), by omega, rfl, hlt', hN⟩, fun y H5 hy5 => ?_⟩
                    obtain ⟨x5, hy⟩ := l3 us[j] y H5 (List.getElem?_eq_getElem hlt') hy5
                    have g5 := g'.go x5
                    have xd5 := xd.trans (x5.Hm g'.own)
                    have sr5 : SR Z X.K (D :: M) H5 σ2 ((ρ.set i2 .un).set i1 (.v xs[i])) := by
                      refine ⟨g5.own, sr4.len, fun q p e => ?_, fun q p e => ?_, fun q p e => ?_, sr4.apart, (tabs_Hm g5.own).mp (xd5.tabs ((tabs_Hm sr4.own).mpr sr4.tabs))⟩
                      · obtain ⟨v, v1, v2⟩ := sr4.fv q p e
                        exact ⟨v, v1, Rep.go xd5 v2⟩
                      · obtain ⟨a, vv, v1, v2, v3, v4⟩ := sr4.fo q p e
                        have aM := am2 q a (.inl ⟨p, e⟩) v1
                        refine ⟨a, vv, v1, v2, ?_, RepL.go xd5 v4⟩
                        rcases own1 a aM with ⟨l, z⟩ | ⟨l, z⟩
                        · have := g4.ext.keep _ _ z noTbl.lst
                          rw [v3] at this
                          cases this
                          exact g5.ext.keep _ _ z noTbl.lst
                        · have := g4.ext.keep _ _ z noTbl.dK
                          rw [v3] at this
                          cases this
                      · obtain ⟨a, vv, v1, v2, v3, v4⟩ := sr4.fd q p e
                        have aM := am2 q a (.inr ⟨p, e⟩) v1
                        refine ⟨a, vv, v1, v2, ?_, KVs.go xd5 v4⟩
                        rcases own1 a aM with ⟨l, z⟩ | ⟨l, z⟩
                        · have := g4.ext.keep _ _ z noTbl.lst
                          rw [v3] at this
                          cases this
                        · have := g4.ext.keep _ _ z noTbl.dK
                          rw [v3] at this
                          cases this
                          exact g5.ext.keep _ _ z noTbl.dK
                    have bt2 : bindT (.one i2) us[j] (wipeO ((ρ.set i2 .un).set i1 (.v xs[i])) [i2]) = .ok (((ρ.set i2 .un).set i1 (.v xs[i])).set i2 (.v us[j])) := by
                      show R.ok ((((ρ.set i2 .un).set i1 (.v xs[i])).set i2 .un).set i2 (.v us[j])) = _
                      rw [List.set_set]
                    refine gT_of (sr5.wipe [i2]) bt2 hy fun σ3 sr3 hl3 ho3 => ⟨?_, _, D :: M, sr3, ?_⟩
                    · refine wipe_eq (by rw [hl3, L2.wipe_length]) fun q hq => ?_
                      rw [ho3 q hq, wipe_other σ2 hq]
                    · simp only [evAnd]
                      intro H6 x6
                      rw [if_pos trivial]
                      refine ⟨_, D :: M, sr3.go x6, ?_⟩
                      rw [List.drop_eq_getElem_cons hlt'] at ev'
                      unfold c2I at ev'
                      unfold compL at ev'
                      cases ee : ev F elt (((ρ.set i2 .un).set i1 (.v xs[i])).set i2 (.v us[j])) with
                      | bad => rw [ee] at ev'; cases ev'
                      | exc k => rw [ee] at ev'; cases ev'
                      | ok z =>
                        rw [ee] at ev'
                        simp only [R.bind_ok] at ev'
                        intro v H7 x7 hv
                        obtain ⟨acc, a1, a2, a3⟩ := Grow.add hD ((g5.go x6).go x7) hv
                        have ev' : (c2I F elt i2 ((ρ.set i2 .un).set i1 (.v xs[i])) (us.drop (j + 1))).bind (fun ys => .ok (z :: ys)) = .ok vs' := ev'
                        cases ew : c2I F elt i2 ((ρ.set i2 .un).set i1 (.v xs[i])) (us.drop (j + 1)) with
                        | bad => rw [ew] at ev'; cases ev'
                        | exc k => rw [ew] at ev'; cases ev'
                        | ok ts =>
                          rw [ew] at ev'
                          cases ev'
                          have hql : qs'.length ≤ ys.length := by rw [ey', List.length_append]; omega
                          refine ⟨acc, a1, show acc.length < 2 ^ 24 by omega, ?_, qs' ++ [z], ts, by rw [ey', List.append_assoc]; rfl, rfl, by rw [List.length_append]; exact a3⟩
                          rw [hm_upd (List.mem_cons_self ..)]
                          exact (xd5.trans (x6.Hm g5.own)).trans (x7.Hm (g5.go x6).own)
                  · have e : j = us.length := by omega
                    subst e
                    rw [List.drop_length] at ev'
                    cases ev'
                    exact .inl ⟨l2 rfl, qs', ws, by simpa using ey', rfl, g'⟩
        · have e : i = xs.length := by omega
          subst e
          rw [List.drop_length] at ez
          cases ez
          rw [List.append_nil] at ey
          subst ey
          obtain ⟨acc, a1, a2, a3⟩ := g.acc
          exact .inl ⟨j2 rfl, h D acc Hc (own1.new hD) (x1.trans g.ext) a1 ((x1.Hm s.own).trans g.low) a2⟩
      · rw [if_neg hlim] at h; exact h.elim
theorem fold_of {c : Ck} {ik : IK} {tg iter : Expr} {as : List Expr} (ia : iterArgs c ik tg iter = some as) : ∀ env x, foldedSetIterable iter env x = pure x := fun env x => by
  unfold iterArgs at ia
  split at ia
  · split at ia
    · cases ia
    · rename_i hns
      cases iter <;> first | rfl | (exact (hns _ _ _ rfl).elim)
  all_goals first | rfl | cases ia
theorem one_slot {c : Ck} {scope : Scope} {i : Nat} {e : Expr} (h : tgOk (blkCk c scope) (.one i) e = true) : ∃ x, c.N[i]? = some x := by
  unfold tgOk at h
  split at h
  · rename_i i' x p he
    cases he
    obtain ⟨h1, _⟩ := band2 h
    exact ⟨x, of_decide_eq_true h1⟩
  · rename_i he; cases he
  · cases h
theorem snds_asgC {i i1 i2 : Nat} {elt e1 e2 : Ex} : SndS F (.asgC i elt i1 e1 i2 e2) := by
  intro Z c X E st C h
  unfold okSm at h
  split at h <;> try cases h
  all_goals first | contradiction | skip
  rename_i e0; cases e0
  rename_i x p elt' tg' it1 tg2' it2 scope cp pos
  obtain ⟨h, h10⟩ := band2 h
  obtain ⟨h, h9⟩ := band2 h
  obtain ⟨h, h8⟩ := band2 h
  obtain ⟨h, h7⟩ := band2 h
  obtain ⟨h, h6⟩ := band2 h
  obtain ⟨h, h5⟩ := band2 h
  obtain ⟨h, h4⟩ := band2 h
  obtain ⟨h, h3⟩ := band2 h
  obtain ⟨h1, h2⟩ := band2 h
  have hc := C.calm h1
  have hne := of_decide_eq_true h10
  obtain ⟨n1, l1⟩ := lclOk_ok C.toCxt h2
  cases ia : iterArgs c .val tg' it1 with
  | none => rw [ia] at h4; cases h4
  | some as =>
    rw [ia] at h4
    have h4 : okL true c [e1] as = true := h4
    cases ib : iterArgs (blkCk c scope) .val tg2' it2 with
    | none => rw [ib] at h7; cases h7
    | some bs =>
      rw [ib] at h7
      have h7 : okL false (blkCk c scope) [e2] bs = true := h7
      obtain ⟨y1, ny1⟩ := one_slot h5
      obtain ⟨y2, ny2⟩ := one_slot h6
      have sl : (ownOf c [i1, i2]).map (·.2) = [i1, i2] := by simp [ownOf, ny1, ny2]
      have k1 : ∀ (s : Shared) (H : Hp) (D : Addr) (cl : List (Str × Addr)) (fp : List Addr), PG (X.blk s H scope (compEnvC scope cl D X.env) fp) tg' (gT X.K (.one i1)) := fun s H D cl fp => tg_sound (blk_cxt C.toCxt h1 scope s H D cl fp) h5
      have k2 : ∀ (s : Shared) (H : Hp) (D : Addr) (cl : List (Str × Addr)) (fp : List Addr), PG (X.blk s H scope (compEnvC scope cl D X.env) fp) tg2' (gT X.K (.one i2)) := fun s H D cl fp => tg_sound (blk_cxt C.toCxt h1 scope s H D cl fp) h6
      have k3 : ∀ (s : Shared) (H : Hp) (D : Addr) (cl : List (Str × Addr)) (fp : List Addr), PTs (X.blk s H scope (compEnvC scope cl D X.env) fp) [] (tB Z X.K XF (evAnd F [])) := fun s H D cl fp => pts_sound (blk_cxt C.toCxt h1 scope s H D cl fp) (ifs := []) (es := []) rfl rfl (by simp) (fun x hx => by cases hx)
      have k4 : ∀ (s : Shared) (H : Hp) (D : Addr) (cl : List (Str × Addr)) (fp : List Addr), PI (X.blk s H scope (compEnvC scope cl D X.env) fp) tg2' it2 (tIF Z X.K XF (fun ρ => (evs F [e2] ρ).bind (walk .val))) := fun s H D cl fp => sound_F (blk_cxt C.toCxt h1 scope s H D cl fp) ib h7
      have k5 : ∀ (s : Shared) (H : Hp) (D : Addr) (cl : List (Str × Addr)) (fp : List Addr), PE (X.blk s H scope (compEnvC scope cl D X.env) fp) elt' (tM Z X.K XF (ev F elt)) := fun s H D cl fp => (snd F elt).e (blk_cxt C.toCxt h1 scope s H D cl fp) (band2 h9).1 (band2 h9).2
      have k0 : PI X tg' it1 (tIt Z X.K E (fun ρ => (evs F [e1] ρ).bind (walk .val))) := sound_I C.toCxt hc ia h4 fun ir hm e ho => (snd F ir).o C.toCxt ho
      refine PS.imp (ps_setLc2 (vs1 := [i2]) (own := ownOf c [i1, i2]) hc C.nd n1 l1 (yesSwap_ok C.toCxt h3) k0 (blkOk_by (by rw [C.N, C.sc]; exact h8)) (by rw [sl]; simp) k1 k3 k4 k2 k3 k5 (fun x => fold_of ia _ x) (fold_of ib)) fun D σ H q => ?_
      show tLc2 _ _ _ _ _ _ _ _ _ σ H _
      rw [sl]
      refine tLc2_of hne (tM_tN (fun ρ p hp => ?_) (fl_tM (w := c.ow) (D := D) (f := fun r p => .next (r.set i (.v p))) ?_ fun ρ M p v H' s _ e1 hv pf => pf _ H' M ((s.go e1).setv hv) (Ext.refl _)))
      · unfold m2 at hp
        cases e : (evs F [e1] ρ).bind (walk .val) with
        | ok xs =>
          rw [e] at hp
          simp only [R.bind_ok] at hp
          split at hp
          · split at hp
            · cases hp; exact ⟨_, rfl⟩
            · cases hp
          · cases hp
        | exc k => rw [e] at hp; cases hp
        | bad => rw [e] at hp; cases hp
      · obtain ⟨ρ, M, s, q⟩ := q
        simp only [exS] at q
        exact ⟨ρ, M, s, q⟩
end
end OS

end

section
set_option Elab.async false
set_option linter.all false
set_option maxRecDepth 100000
set_option maxHeartbeats 1000000
namespace OS
open PySem PySem.Spec PyProof.Rows L2 O
section
variable {Z : Zx} {F : Fs} {X : Cx} {E : XK} {c : Ck}
/-- the first item, ours from then on; then the rest -/
theorem retO_rd {e : Ex} {es : List Ex} {D : Ends} {ρ : O.St} {M M1 : List Addr} {σ : L2.St} {H H1 : Hp} {a : Addr} {xs : List PV} {ys : List V} (s : SR Z X.K M H σ ρ) (q : PF Z X.K E true M H D ((evs F es ρ).fl fun ps => .ret (.tup (.lst xs :: ps))))
    (s1 : SR Z X.K M1 H1 σ ρ) (ex : Ext Z.T (Hm H M) (Hm H1 M1)) (hm : a ∈ M1) (ha : H1 a = some (.lst ys)) (hr : RepL Z X.K (Hm H1 M1) xs ys) (hn : ∀ ps, evs F es ρ = .ok ps → ps.length ≤ 1000) :
    tL Z X.K E (evs F es) σ H1 fun vs H2 => (V.ref a :: vs).length ≤ sizeLine ∧ ∀ p, H2 p = none → D.rt (.ref p) (upd H2 p (.tup (.ref a :: vs))) := by
  refine ⟨ρ, M1, s1, ?_⟩
  cases ee : evs F es ρ with
  | bad => rw [ee] at q; exact q
  | exc k => rw [ee] at q; exact fun H2 e2 => q H2 (ex.trans e2)
  | ok ps =>
    rw [ee] at q
    simp only [R.fl_ok] at q
    intro vs H2 e2 w2
    have hl := w2.length
    have := hn ps ee
    refine ⟨show (V.ref a :: vs).length ≤ 2 ^ 24 by rw [List.length_cons]; omega, fun p hp => ?_⟩
    have o2 := s1.own.go e2
    have e3 : Ext Z.T H2 (upd H2 p (.tup (.ref a :: vs))) := Ext.new hp
    have e23 := e2.trans e3
    refine q.2 p a ys vs _ M1 xs ps rfl (o2.go e3) hm (e23.keep _ _ ha noTbl.lst) (ex.trans (e23.Hm s1.own)) (SqT.of upd_same) (RepL.go (e23.Hm s1.own) hr) (RepL.go (e3.Hm o2) w2)
theorem inv_bor {i : Nat} {a : Expr} (h3 : okE c (.bor i) a = true) : ∃ x px, a = .Name x px ∧ slotOk c i x = true := by
  unfold okE at h3
  split at h3 <;> try cases h3
  all_goals first | contradiction | skip
  rename_i e1; cases e1
  exact ⟨_, _, rfl, h3⟩
theorem inv_add {x y : Ex} {a : Expr} (h3 : okE c (.bin .add x y) a = true) : ∃ l r pp, a = .BinOp l .Add r pp ∧ okE c x l = true ∧ okE c y r = true := by
  unfold okE at h3
  split at h3 <;> try cases h3
  all_goals first | contradiction | skip
  rename_i e1; cases e1
  obtain ⟨g1, g2⟩ := band2 h3
  obtain ⟨g0, g3⟩ := band2 g1
  cases of_decide_eq_true g0
  exact ⟨_, _, _, rfl, g3, g2⟩
theorem snds_asg {i : Nat} {own : Bool} {e : Ex} : SndS F (.asg i own e) := by
  intro Z c X E st C h
  unfold okSm at h
  split at h <;> try cases h
  all_goals first | contradiction | skip
  rename_i e1; cases e1
  obtain ⟨h, h4⟩ := band2 h
  obtain ⟨h, h3⟩ := band2 h
  obtain ⟨h1, h2⟩ := band2 h
  obtain ⟨l1, l2, l3⟩ := locOk_ok C.toCxt h1
  rw [Bool.or_eq_true] at h4
  rcases h4 with h4 | h4
  · by_cases hE : ownE own e = true
    · have he := own_pe C.toCxt hE h3
      exact PS.imp (ps_set C.nd l1 l2 he (noSwap_ok C.toCxt h4) l3) fun D σ H q => asg_rd q
    · unfold ownA at h2
      unfold ownE at hE
      cases own with
      | false => exact absurd h2 hE
      | true =>
        rw [if_pos rfl] at h2
        have hE : ¬ isNew e = true := hE
        rw [Bool.or_eq_true] at h2
        have h2 := h2.resolve_left hE
        cases e with
        | bin o x y =>
          cases o with
          | add =>
            obtain ⟨l, r, pp, rfl, g1, g2⟩ := inv_add h3
            refine PS.imp (ps_set C.nd l1 l2 (bin_tN ((snd F x).o C.toCxt g1) ((snd F y).o C.toCxt g2)) (noSwap_ok C.toCxt h4) l3) fun D σ H q => ?_
            obtain ⟨ρ, M, s, q⟩ := q
            simp only [exS] at q
            refine ⟨ρ, M, s, ?_⟩
            cases ee : ev F (.bin .add x y) ρ with
            | bad => rw [ee] at q; exact q
            | exc j => rw [ee] at q; exact q
            | ok p =>
              rw [ee] at q
              simp only [R.fl_ok] at q
              cases p with
              | lst xs =>
                intro b vs H' nb e1 hb e2 hr
                exact PF.go e2 q _ H' (b :: M) ((s.fresh e1 hb e2).seto s.among nb (List.mem_cons_self ..) hb hr) (Ext.refl _)
              | _ => exact q.elim
          | _ => cases h2
        | _ => cases h2
  · obtain ⟨h4, h7⟩ := band2 h4
    obtain ⟨h5, h6⟩ := band2 h4
    obtain ⟨m1, m2⟩ := lclOk_ok C.toCxt h5
    cases e with
    | comp elt tg ik ies ifs =>
      obtain ⟨elt', tg', iter, ifs', scope, pos, rfl, k⟩ := comp_inv (snd F elt) (fun x _ => snd F x) (fun x _ => snd F x) C.toCxt h3
      refine PS.imp (ps_setLc k.cm C.nd m1 m2 (yesSwap_ok C.toCxt h6) k.hi k.ok k.hg k.ht k.he k.hs) fun D σ H q => ?_
      have q := asg_rd q
      show tLc _ _ _ _ _ σ H _
      rw [k.sl]
      refine tLc_of ?_
      cases own with
      | true => exact q
      | false => exact tM_tN (fun ρ p hp => by
          rw [ev_comp] at hp
          cases e : (evs F ies ρ).bind (walk ik) with
          | ok xs =>
            rw [e] at hp
            simp only [R.bind_ok] at hp
            cases e2 : compL (turnC F elt tg ifs ρ) xs with
            | ok ys => rw [e2] at hp; cases hp; exact ⟨_, rfl⟩
            | exc k => rw [e2] at hp; cases hp
            | bad => rw [e2] at hp; cases hp
          | exc k => rw [e] at hp; cases hp
          | bad => rw [e] at hp; cases hp) q
    | _ => cases h7
/-! ### try -/
theorem snds_try {ks : List Nat} {body : List Sm} {i : Nat} {suite : List Sm} (hb : SndB F body) (hs : SndB F suite) : SndS F (.tryE ks body i suite) := by
  intro Z c X E st C h
  unfold okSm at h
  split at h <;> try cases h
  all_goals first | contradiction | skip
  rename_i e1; cases e1
  rename_i body' x np n b₀ suite' pos' pos
  obtain ⟨h, h8⟩ := band2 h
  obtain ⟨h, h7⟩ := band2 h
  obtain ⟨h, h6⟩ := band2 h
  obtain ⟨h, h5⟩ := band2 h
  obtain ⟨h, h4⟩ := band2 h
  obtain ⟨h, h3⟩ := band2 h
  obtain ⟨h1, h2⟩ := band2 h
  have how : c.ow = false := bnot1 h3
  have hxa := C.cxa h1
  obtain ⟨m1, m2⟩ := lclOk_ok C.toCxt h5
  unfold excOk at h4
  obtain ⟨h4, hp⟩ := band2 h4
  obtain ⟨h4, hg⟩ := band2 h4
  cases ex : excAt c.excs 0 with
  | none => rw [ex] at h4; cases h4
  | some yy =>
    rw [ex] at h4
    cases of_decide_eq_true h4
    obtain ⟨_, _, _, _, _, _, hm0, _, _, _⟩ := C.rz 0 yy ex
    have hnm : Names X (Str.ofString yy) (.ref (Z.cad 0)) := ⟨gl_of C.toCxt hg, (plainN_ok hp).1, .inl hm0⟩
    have hln : X.env.kindOf n = some .local := m2
    refine PS.imp (L2N.ps_try_as (i := i) (tb := fun W => tS Z X.K (fun cls d H => ∀ σ : L2.St, σ.length = X.N.length → W cls d σ H) false (exB F body))
      (ts := fun a cls d D σ H => ∃ k, k ∈ ks ∧ cls = .ref (Z.cad k) ∧ d = none ∧ tS { Z with xa := some (a, k) } X.K XF false (exB F suite) D σ H)
      C.stk C.frm C.nd m1 hln hnm C.tk (fun W pn xe tkW po => ?_) (fun a oe cls d pn hz hf => ?_)) fun D σ H q => ?_
    · have tk' : L2N.Takes (X.tr pn xe) (fun cls d _ H => ∀ σ : L2.St, σ.length = X.N.length → W cls d σ H) := fun u s' ⟨a, B, sI, pins, σ, H, cls, d, e, I, nb, up, sky, na, os, ag, w⟩ => tkW u s' ⟨a, B, sI, pins, σ, H, cls, d, e, I, nb, up, sky, na, os, ag, w σ I.len⟩
      have C' : Cs Z F (tryCk c) (X.tr pn xe) (fun cls d H => ∀ σ : L2.St, σ.length = X.N.length → W cls d σ H) :=
        { sc := C.sc, N := C.N, nd := C.nd, loc := C.loc, calm := C.calm, un := C.un, dep := C.dep, lam := C.lam, glob := C.glob, tabs := C.tabs, free := C.free, call := C.call, cxa := C.cxa
          isx := fun a k h => by rw [hxa] at h; cases h
          mkr := C.mkr, okl := C.okl, clo := C.clo
          hotx := .inl h1
          hotr := fun _ _ h => by cases h
          htr := fun _ _ h => by cases h
          pass := L2N.passes_call tk' fun _ _ _ _ h => h
          pown := po
          tk := tk'
          rz := C.rz, stk := C.stk, frm := C.frm, xf := C.xf }
      have := hb C' h7
      rw [show (tryCk c).ow = c.ow from rfl, how] at this
      exact this
    · refine ⟨fun pins s σ H D I q => ?_⟩
      obtain ⟨k, hk, rfl, rfl, q⟩ := q
      obtain ⟨xk, exk⟩ := Option.isSome_iff_exists.mp (List.all_eq_true.mp h6 k hk)
      obtain ⟨x1, x2, xv, x3⟩ := C.xf h2 k xk exk
      have C' : Cs { Z with xa := some (a, k) } F (suiteCk c) (X.suite a ((a, oe) :: pn)) XF :=
        { sc := C.sc, N := C.N, nd := C.nd, loc := C.loc, calm := fun h => by cases h
          un := C.un
          dep := C.dep
          lam := fun h => by cases h
          tabs := C.tabs
          glob := fun g hg => by
            obtain ⟨u, v, e1, e2, e3⟩ := C.glob g hg
            exact ⟨u, v, e1, e2, fun H => Rep.toX hxa (e3 H)⟩
          free := C.free, call := fun k hk => by cases hk
          cxa := fun h => by cases h
          mkr := fun h => by cases h
          okl := fun h => by cases h
          clo := fun h => by cases h
          hotx := .inr ⟨(a, oe), ⟨rfl, by obtain ⟨vs, e⟩ := hf; exact ⟨vs, e, hz.2.2 vs e⟩⟩, List.mem_cons_self ..⟩
          hotr := fun k' nm hh => C.htr k' nm hh a oe pn k xk hz hf exk
          htr := fun _ _ h => by cases h
          isx := fun a' k' h' => by
            cases h'
            exact ⟨call_isE x1 hz.zc hf, xv, fun j y hj => by
              obtain ⟨_, _, _, _, _, _, hmj, _, _, _⟩ := C.rz j y hj
              exact ⟨hmj, x3 j y hj⟩⟩
          pass := fun pins σ H s e s' I q => by
            obtain ⟨_, _, _, _, _, _, _, _, _, _, _, _, z⟩ := q
            exact z
          pown := PassesOwn.never
          tk := fun u s' ⟨_, _, _, _, _, _, _, _, _, _, _, _, _, _, _, _, w⟩ => w.elim
          rz := C.rz, stk := C.stk, frm := C.frm, xf := C.xf }
      exact (hs C' h8).run pins s σ H D I q
    · rw [how] at q
      obtain ⟨ρ, M, s, q⟩ := q
      refine ⟨ρ, M, s, ?_⟩
      simp only [exS] at q
      cases eb : exB F body ρ with
      | next r => rw [eb] at q; exact q
      | brk r => rw [eb] at q; exact q
      | ret p => rw [eb] at q; exact q
      | bad => rw [eb] at q; exact q
      | exc k =>
        rw [eb] at q
        simp only at q
        by_cases hk : k ∈ ks
        · rw [if_pos hk] at q
          obtain ⟨xk, exk⟩ := Option.isSome_iff_exists.mp (List.all_eq_true.mp h6 k hk)
          obtain ⟨x1, x2, xv, x3⟩ := C.xf h2 k xk exk
          intro H' e' σ1 hl
          refine ⟨true, x2, fun _ a ha => ⟨k, hk, rfl, rfl, _, [], exc_sr rfl (by rw [hl]; exact (List.getElem?_eq_some_iff.mp m1).1) (e'.tabs ((tabs_Hm s.own).mpr s.tabs)), ?_⟩, fun z => by cases z⟩
          cases es : exB F suite (List.replicate i .un ++ [.v (.exc k)]) with
          | next r => rw [es] at q; exact q.elim
          | brk r => rw [es] at q; exact q.elim
          | bad => rw [es] at q; exact q.elim
          | exc j => rw [es] at q; exact q.elim
          | ret p =>
            rw [es] at q
            simp only at q
            by_cases hc : p.clean = true
            · rw [if_pos hc] at q
              intro v H2 M2 o2 e2 w2
              rw [Hm.nil] at e2
              exact q v H2 M2 o2 (e'.trans e2) (Rep.unX hc w2)
            · rw [if_neg hc] at q; exact q.elim
        · rw [if_neg hk] at q; exact q.elim
theorem snds_retO {e : Ex} {es : List Ex} : SndS F (.retO e es) := by
  intro Z c X E st C h
  unfold okSm at h
  split at h <;> try cases h
  all_goals first | contradiction | skip
  rename_i e1; cases e1
  rename_i a as k p pos
  obtain ⟨h, h5⟩ := band2 h
  obtain ⟨h, h4⟩ := band2 h
  obtain ⟨h, h3⟩ := band2 h
  obtain ⟨h1, h2⟩ := band2 h
  clear h
  rw [h1]
  have hA := args_sound C.toCxt h4 fun ir hm e hf ho => (snd F ir).e C.toCxt hf ho
  have hn : ∀ ρ ps, evs F es ρ = .ok ps → ps.length ≤ 1000 := fun ρ ps hp => by rw [evs_len hp]; exact of_decide_eq_true h5
  have rd : ∀ {D : Ends} {σ : L2.St} {H : Hp}, tS Z X.K E true (exS F (.retO e es)) D σ H → ∃ ρ M, SR Z X.K M H σ ρ ∧ PF Z X.K E true M H D ((own0 F e ρ).fl fun xs => (evs F es ρ).fl fun ps => .ret (.tup (.lst xs :: ps))) := fun {D σ H} ⟨ρ, M, s, q⟩ => ⟨ρ, M, s, by simp only [exS] at q; exact q⟩
  clear h4 h5
  have new : isNew e = true → PS X (.Return (some (.Tuple (a :: as) k p)) pos) (tS Z X.K E true (exS F (.retO e es))) := fun hnew => by
    refine PS.imp (ps_ret (pe_tup (pa_cons ((snd F e).n C.toCxt hnew h3) hA (star_of h3 _ _)))) fun D σ H q => ?_
    obtain ⟨ρ, M, s, q⟩ := rd q
    refine ⟨ρ, M, s, ?_⟩
    have eo : own0 F e ρ = (ev F e ρ).bind fun p => match p with | .lst xs => .ok xs | _ => .bad := by
      cases e <;> first | rfl | cases hnew
    rw [eo] at q
    cases ee : ev F e ρ with
    | bad => rw [ee] at q; exact q
    | exc j => rw [ee] at q; exact q
    | ok p =>
      rw [ee] at q
      obtain ⟨xs, rfl⟩ := new_lst hnew ee
      simp only [R.bind_ok, R.fl_ok] at q
      intro b vs H' nb e1 hb e2 hr
      exact retO_rd (e := e) s q (s.fresh e1 hb e2) e2 (List.mem_cons_self ..) hb hr (hn ρ)
  cases e with
  | bor i =>
    obtain ⟨x, px, rfl, hsl⟩ := inv_bor h3
    refine PS.imp (ps_ret (pe_tup (pa_cons (snd_var C.toCxt hsl) hA rfl))) fun D σ H q => ?_
    obtain ⟨ρ, M, s, q⟩ := rd q
    simp only [own0] at q
    cases ei : ρ[i]? with
    | none => rw [ei] at q; exact q.elim
    | some sv =>
      rw [ei] at q
      cases sv with
      | ow xs =>
        simp only [R.fl_ok] at q
        obtain ⟨b, vs, q1, q2, q3, q4⟩ := s.fo i xs ei
        exact ⟨.ref b, q1, retO_rd (e := .bor i) s q s (Ext.refl _) q2 q3 q4 (hn ρ)⟩
      | _ => exact q.elim
  | bin o x y =>
    cases o with
    | add =>
      obtain ⟨l, r, pp, rfl, g1, g2⟩ := inv_add h3
      refine PS.imp (ps_ret (pe_tup (pa_cons (bin_tN ((snd F x).o C.toCxt g1) ((snd F y).o C.toCxt g2)) hA rfl))) fun D σ H q => ?_
      obtain ⟨ρ, M, s, q⟩ := rd q
      refine ⟨ρ, M, s, ?_⟩
      simp only [own0] at q
      cases ee : ev F (.bin .add x y) ρ with
      | bad => rw [ee] at q; exact q
      | exc j => rw [ee] at q; exact q
      | ok p =>
        rw [ee] at q
        simp only [R.bind_ok] at q
        cases p with
        | lst xs =>
          simp only [R.fl_ok] at q
          intro b vs H' nb e1 hb e2 hr
          exact retO_rd (e := .bin .add x y) s q (s.fresh e1 hb e2) e2 (List.mem_cons_self ..) hb hr (hn ρ)
        | _ => exact q.elim
    | _ => cases h2
  | lst es => exact new h2
  | comp _ _ _ _ _ => exact new h2
  | _ => cases h2
/-! ### blocks -/
theorem sndb_nil : SndB F [] := by
  intro Z c X E sts C h
  cases sts with
  | nil =>
    refine PSs.imp pss_nil fun D σ H q => ?_
    obtain ⟨ρ, M, s, q⟩ := q
    simp only [exB] at q
    exact q σ H M s (Ext.refl _)
  | cons => unfold okB at h; cases h
theorem okB_cons {s : Sm} {ss : List Sm} {sts : List Stmt} (hs : ∀ i, s ≠ .frz i) (h : okB c (s :: ss) sts = true) : ∃ st r, sts = st :: r ∧ okSm c s st = true ∧ okB c ss r = true := by
  unfold okB at h
  cases s with
  | frz i => exact absurd rfl (hs i)
  | _ =>
    cases sts with
    | nil => cases h
    | cons st r => exact ⟨st, r, rfl, (band2 h).1, (band2 h).2⟩
theorem sndb_cons {s : Sm} {ss : List Sm} (hs : ∀ i, s ≠ .frz i) (h1 : SndS F s) (h2 : SndB F ss) : SndB F (s :: ss) := by
  intro Z c X E sts C h
  obtain ⟨st, r, rfl, g1, g2⟩ := okB_cons hs h
  refine PSs.imp (pss_cons (h1 C g1) (h2 C g2)) fun D σ H q => seq_tS ?_
  obtain ⟨ρ, M, s', q⟩ := q
  rw [exB] at q
  exact ⟨ρ, M, s', q⟩
theorem sndb_frz {i : Nat} {ss : List Sm} (h2 : SndB F ss) : SndB F (.frz i :: ss) := by
  intro Z c X E sts C h
  have h : okB c ss sts = true := by
    unfold okB at h
    cases sts <;> exact h
  refine PSs.imp (h2 C h) fun D σ H q => ?_
  obtain ⟨ρ, M, s, q⟩ := q
  simp only [exB, exS] at q
  cases ei : ρ[i]? with
  | none => rw [ei] at q; exact ⟨ρ, M, s, q⟩
  | some sv =>
    rw [ei] at q
    cases sv with
    | ow xs =>
      obtain ⟨M', s', e'⟩ := s.freeze ei
      exact ⟨_, M', s', PF.go e' q⟩
    | _ => exact ⟨ρ, M, s, q⟩
theorem no_snds {s : Sm} (h : ∀ c st, okSm c s st = false) : SndS F s := by
  intro Z c X E st C k
  rw [h c st] at k
  cases k
theorem sndS_all (F : Fs) : ∀ n : Nat, (∀ s : Sm, sizeOf s ≤ n → SndS F s) ∧ ∀ ss : List Sm, sizeOf ss ≤ n → SndB F ss := by
  intro n
  induction n with
  | zero => exact ⟨fun s h => by cases s <;> simp at h, fun ss h => by cases ss <;> simp at h⟩
  | succ n ih =>
    obtain ⟨ih1, ih2⟩ := ih
    have one : ∀ s : Sm, sizeOf s ≤ n + 1 → SndS F s := fun s h => by
      cases s with
      | asg i own e => exact snds_asg
      | asgs ts e => exact snds_asgs
      | par ts es => exact snds_par
      | app i e => exact snds_app
      | ext i e => exact snds_ext
      | setL i k e => exact snds_setL
      | dnew i eo => exact snds_dnew
      | tryC ks j p k1 a1 k2 a2 i suite => simp at h; exact snds_tryC (ih2 suite (by omega))
      | setD i k e => exact snds_setD
      | parD i eo ts es => exact snds_parD
      | dnew2 i j e1 e2 => exact snds_dnew2
      | asgC i elt i1 e1 i2 e2 => exact snds_asgC
      | exp e => exact snds_exp
      | ret e => exact snds_ret
      | retO e es => exact snds_retO
      | ife t a b => simp at h; exact snds_ife (ih2 a (by omega)) (ih2 b (by omega))
      | for_ tg ik ies body => simp at h; exact snds_for (ih2 body (by omega))
      | whl t body => simp at h; exact snds_whl (ih2 body (by omega))
      | brk => exact snds_brk
      | rai k => exact snds_rai
      | doc => exact snds_doc
      | tryE ks body i suite => simp at h; exact snds_try (ih2 body (by omega)) (ih2 suite (by omega))
      | dcopy i j => exact snds_dcopy
      | parE i e j d => exact snds_parE
      | frz i => exact no_snds fun c st => by unfold okSm; rfl
      | tryX ks a i suite => simp at h; exact snds_tryX (ih2 suite (by omega))
      | retL i => exact no_snds fun c st => by unfold okSm; rfl
    refine ⟨one, fun ss h => ?_⟩
    cases ss with
    | nil => exact sndb_nil
    | cons s ss =>
      simp at h
      have h2 : SndB F ss := ih2 ss (by
        have : 0 < sizeOf s := by cases s <;> simp <;> omega
        omega)
      have key : (∃ i, s = .frz i) ∨ ∀ i, s ≠ .frz i := by cases s <;> simp
      rcases key with ⟨i, rfl⟩ | key
      · exact @sndb_frz F i ss @h2
      · have h1 : SndS F s := @one s (by omega)
        exact @sndb_cons F s ss key @h1 @h2
theorem sndB (F : Fs) (ss : List Sm) : SndB F ss := (sndS_all F (sizeOf ss)).2 ss (Nat.le_refl _)
end
end OS

end

section
set_option Elab.async false
set_option linter.all false
set_option maxRecDepth 100000
set_option maxHeartbeats 1000000
namespace OS
open PySem PySem.Spec PyProof.Rows L2 O
def defAt (ds : List DefI) (k : Nat) : Option DefI := ds.find? fun d => decide (d.num = k)
def lamAt (ls : List LamI) (k : Nat) : Option LamI := ls.find? fun d => decide (d.num = k)
/-- what the defs compute, so many calls deep -/
def tab (ds : List DefI) (ls : List LamI) : Nat → Fs
  | 0, _, _ => .bad
  | n + 1, k, ps => match defAt ds k with
    | some d => if d.ow then runW (tab ds ls n) d.N.length d.body ps else if d.mkr then runM (tab ds ls n) d.N.length d.body ps else run (tab ds ls n) d.N.length d.body ps
    | none => (match lamAt ls k with
      | some l => run (tab ds ls n) l.N.length [.ret l.e] ps
      | none => .bad)
theorem tab_at {ds : List DefI} {ls : List LamI} {n k : Nat} {d : DefI} (h : defAt ds k = some d) : tab ds ls (n + 1) k = fun ps => if d.ow then runW (tab ds ls n) d.N.length d.body ps else if d.mkr then runM (tab ds ls n) d.N.length d.body ps else run (tab ds ls n) d.N.length d.body ps := by
  funext ps
  rw [tab, h]
theorem tab_lam {ds : List DefI} {ls : List LamI} {n k : Nat} {l : LamI} (h : defAt ds k = none) (hl : lamAt ls k = some l) : tab ds ls (n + 1) k = fun ps => run (tab ds ls n) l.N.length [.ret l.e] ps := by
  funext ps
  rw [tab, h, hl]
def fnsOf (ds : List DefI) : List FnI := ds.map fun d => ⟨d.num, d.name, d.ar, d.ow⟩
def callsOf (ds : List DefI) : List Nat := ds.filterMap fun d => if d.hot then none else some d.num
def hotOf (ds : List DefI) : Option (Nat × String) := (ds.find? (·.hot)).map fun d => (d.num, d.name)
/-- a lambda's names: taken ones and globals -/
def lamSc (scope : Scope) : Bool := decide (scope.kind = .function) && !scope.isCoroutine && !scope.isGenerator && scope.names.all fun y => !decide (y.2 = .local) && !decide (y.2 = .cell)
def ckLam (W : Lw) (ds : List DefI) (scope : Scope) (N : List Str) : Ck := { sc := scope, N := N, loc := fun _ => false, calm := true, calls := callsOf ds, fns := fnsOf ds, globs := W.globs, tabs := W.tabs, excs := W.excs }
/-- a lambda's text is as it says -/
def oklOf (W : Lw) (ds : List DefI) (ls : List LamI) (k : Nat) (params : Arguments) (scope : Scope) (body : Expr) : Bool := (defAt ds k).isNone && (match lamAt ls k with
  | some l => noPar params && lamSc scope && decide l.N.Nodup && fz l.e && okE (ckLam W ds scope l.N) l.e body
  | none => false)
def lNOf (ls : List LamI) (k : Nat) : List Str := match lamAt ls k with | some l => l.N | none => []
def ckOf (W : Lw) (ds : List DefI) (ls : List LamI) (d : DefI) : Ck := { sc := defScope d.top, N := d.N, loc := fun _ => true, calm := true, calls := callsOf ds, fns := fnsOf ds, globs := W.globs, tabs := W.tabs, excs := W.excs, ow := d.ow, tr := W.tr, lam := decide (d.name ∈ W.lams), mkr := d.mkr, okl := oklOf W ds ls, lN := lNOf ls, clo := true, ht := hotOf ds }
def scopeB (d : DefI) : Bool := (match (defScope d.top).kind with | .function => true | _ => false) && !(defScope d.top).isCoroutine && !(defScope d.top).isGenerator && decide d.N.Nodup && decide (d.ar ≤ d.N.length) &&
  ((d.N.take d.ar).all fun x => (match (defScope d.top).names.lookup x with | some .local => true | some .cell => true | _ => false)) && ((defScope d.top).names.all fun y => (match y.2 with | .free => false | _ => true))
/-- .. ended by: return x, a list with lambdas of this frame -/
def okR (c : Ck) : List Sm → List Stmt → Bool
  | [.retL i], [.Return (some (.Name x _)) _] => slotOk c i x
  | s :: ss, st :: sts => okSm c s st && okR c ss sts
  | _, _ => false
/-- one def is as it says -/
def defB (W : Lw) (ds : List DefI) (ls : List LamI) (d : DefI) : Bool := scopeB d && !(d.ow && d.mkr) && (if d.rl then d.mkr && okR (ckOf W ds ls d) d.body (defBody d.top) else okB (ckOf W ds ls d) d.body (defBody d.top))
theorem scope_ok {d : DefI} (h : scopeB d = true) : FnScope d.N (d.N.take d.ar) (defScope d.top) ∧ (d.N.take d.ar).length = d.ar := by
  unfold scopeB at h
  obtain ⟨h, h7⟩ := band2 h
  obtain ⟨h, h6⟩ := band2 h
  obtain ⟨h, h5⟩ := band2 h
  obtain ⟨h, h4⟩ := band2 h
  obtain ⟨h, h3⟩ := band2 h
  obtain ⟨h1, h2⟩ := band2 h
  have hl : (d.N.take d.ar).length = d.ar := by
    rw [List.length_take]
    exact Nat.min_eq_left (of_decide_eq_true h5)
  refine ⟨⟨?_, bnot1 h2, bnot1 h3, of_decide_eq_true h4, by rw [hl], fun x hx => ?_, fun y hy z => ?_⟩, hl⟩
  · split at h1
    · assumption
    · cases h1
  · have := List.all_eq_true.mp h6 x hx
    split at this
    · exact .inl (by assumption)
    · exact .inr (by assumption)
    · cases this
  · have := List.all_eq_true.mp h7 y hy
    rw [z] at this
    cases this
/-- what holds of the module -/
structure Md (W : Lw) (Z : Zx) (K : PySem.W.Frag) (mg : Str → Option Value) (w : World) : Prop where
  tabs : ∀ t ∈ W.tabs, ∃ d es n, mg (Str.ofString t.1) = some (.ref d) ∧ KDict K w d es n ∧ ∀ q ∈ t.2, okS q.2 ∧ ∃ u, PySem.W.nsIn K d (cps q.1) = some (some u) ∧ RelV (.str (cps q.2)) u
  glob : ∀ g ∈ W.globs, ∃ u v, mg (Str.ofString g.1) = some u ∧ RelV v u ∧ g.2.nol = true ∧ ∀ H, Rep Z K H g.2 v
  free : ∀ x : String, x ∈ ["len", "all", "any", "tuple", "list", "sorted", "sum", "min", "max", "int", "isinstance", "str", "bool", "range", "zip", "enumerate", "set", "dict", "ValueError"] → mg (Str.ofString x) = none
  exc : ∀ k x, excAt W.excs k = some x → PySem.W.excIn K (Z.cad k) He.veBase "ValueError.__new__" = true ∧ PySem.W.keepIn K (.ref (Z.cad k)) = true ∧ PySem.W.subIn K (.ref (Z.cad k)) (.type "BaseException") = some true ∧ PySem.W.typeIn K (.ref (Z.cad k)) = some (.type "type") ∧ mg (Str.ofString x) = some (.ref (Z.cad k))
  xa : Z.xa = none
  xf : W.tr = true → ∀ k x, excAt W.excs k = some x → ExcC K (Z.cad k) ∧ PySem.W.exmOne K (.ref (Z.cad k)) (.ref (Z.cad 0)) = some true ∧ PySem.W.kitOne K (.ref (Z.cad k)) (.type "ValueError") = some true ∧ ∀ j y, excAt W.excs j = some y → PySem.W.kitOne K (.ref (Z.cad k)) (.ref (Z.cad j)) = some (subX k j)
/-- a def stands in the module -/
def DefAt (Z : Zx) (K : PySem.W.Frag) (mg : Str → Option Value) (d : DefI) : Prop :=
  ∃ fd, FunD K (Str.ofString d.name) (Str.ofString d.name) (defArgs d.top) (defBody d.top) (defScope d.top) [] [] (Z.fad d.num) fd ∧ Binds K fd (d.N.take d.ar) [] ∧ mg (Str.ofString d.name) = some (.ref (Z.fad d.num))
def DefsAt (Z : Zx) (K : PySem.W.Frag) (mg : Str → Option Value) (ds : List DefI) : Prop := ∀ d ∈ ds, DefAt Z K mg d
section
variable {P : Program} {w : World} {K : PySem.W.Frag} {mg : Str → Option Value} {base : Heap} {Z : Zx} {W : Lw}
theorem start_sr {N : List Str} {ps : List PV} {vs : List V} {H : Hp} (h : RepL Z K H ps vs) (hl : vs.length ≤ N.length) (tb : LamX.Tabs Z.T H) : SR Z K [] H (L2.start N vs) (O.start N.length ps) := by
  have hlen := h.length
  have nh : ∀ (i : Nat) (s : SV), (O.start N.length ps)[i]? = some s → (∃ p, ps[i]? = some p ∧ s = .v p) ∨ s = .un := by
    intro i s e
    unfold O.start at e
    by_cases hi : i < ps.length
    · rw [List.getElem?_append_left (by simpa using hi), List.getElem?_map] at e
      cases q : ps[i]? with
      | none => rw [q] at e; cases e
      | some p => rw [q] at e; cases e; exact .inl ⟨p, rfl, rfl⟩
    · rw [List.getElem?_append_right (by simpa using hi), List.getElem?_replicate] at e
      split at e
      · cases e; exact .inr rfl
      · cases e
  refine ⟨own_nil, ?_, fun i p e => ?_, fun i p e => ?_, fun i p e => ?_, fun i j a _ hi => ?_, tb⟩
  · unfold O.start L2.start
    simp only [List.length_append, List.length_map, List.length_replicate]
    omega
  · rcases nh i _ e with ⟨q, h1, h2⟩ | h2
    · cases h2
      obtain ⟨v, g1, g2⟩ := h.get h1
      have hi : i < vs.length := (List.getElem?_eq_some_iff.mp g1).1
      refine ⟨v, ?_, by rw [Hm.nil]; exact g2⟩
      unfold L2.start
      rw [List.getElem?_append_left (by simpa using hi), List.getElem?_map, g1]
      rfl
    · cases h2
  · rcases nh i _ e with ⟨q, h1, h2⟩ | h2 <;> cases h2
  · rcases nh i _ e with ⟨q, h1, h2⟩ | h2 <;> cases h2
  · exfalso
    rcases hi with ⟨xs, e⟩ | ⟨xs, e⟩ <;> rcases nh i _ e with ⟨q, h1, h2⟩ | h2 <;> cases h2
theorem ext_in {T : List (Addr × Str)} {H : Hp} {M : List Addr} {a : Addr} {ys : List V} (o : Own H M) (ha : a ∈ M) (h : H a = some (.lst ys)) : Ext T (Hm H M) (Hm H [a]) :=
  have o1 : Own H [a] := own_cons own_nil h
  ⟨fun b u e _ => by obtain ⟨e1, e2⟩ := Hm.in e; exact Hm.of e1 fun m => e2 (by rw [List.mem_singleton.mp m]; exact ha), fun t => (tabs_Hm o1).mpr ((tabs_Hm o).mp t)⟩
/-- a body that is checked, from the promise -/
theorem body_pf {N : List Str} {ow : Bool} {F : Fs} {body : List Sm} {ps : List PV} {vs : List V} {H : Hp} {Q : VK} {E : XK} (h : RepL Z K H ps vs) (hl : vs.length ≤ N.length) (tb : LamX.Tabs Z.T H)
    (hp : Pf Z K ow H Q E (if ow then runW F N.length body ps else run F N.length body ps)) : tS Z K E ow (exB F body) { nx := fun _ H' => Q .non H', rt := Q } (L2.start N vs) H := by
  refine ⟨_, [], start_sr h hl tb, ?_⟩
  cases ow with
  | false =>
    rw [if_neg Bool.false_ne_true] at hp
    unfold O.run at hp
    cases e : exB F body (O.start N.length ps) with
    | next r =>
      rw [e] at hp
      intro σ' H' M' s' e'
      rw [Hm.nil] at e'
      exact hp _ H' (e'.trans (Ext.unHm s'.own)) rfl
    | brk r => rw [e] at hp; exact hp.elim
    | ret p =>
      rw [e] at hp
      intro v H' M' o' e' hr
      rw [Hm.nil] at e'
      exact hp v H' (e'.trans (Ext.unHm o')) (Rep.up o' hr)
    | exc k =>
      rw [e] at hp
      intro H' e'
      rw [Hm.nil] at e'
      exact hp H' e'
    | bad => rw [e] at hp; exact hp.elim
  | true =>
    rw [if_pos rfl] at hp
    unfold runW at hp
    cases e : exB F body (O.start N.length ps) with
    | next r => rw [e] at hp; exact hp.elim
    | brk r => rw [e] at hp; exact hp.elim
    | bad => rw [e] at hp; exact hp.elim
    | exc k =>
      rw [e] at hp
      intro H' e'
      rw [Hm.nil] at e'
      exact hp H' e'
    | ret p =>
      rw [e] at hp
      split at hp
      · rename_i xs qs ep
        cases ep
        refine ⟨⟨xs, qs, rfl⟩, fun t a ys us H' M' xs' qs' e1 o' ha h1 e2 st r1 r2 => ?_⟩
        cases e1
        have ei : Ext Z.T (Hm H' M') (Hm H' [a]) := ext_in o' ha h1
        rw [Hm.nil] at e2
        exact hp.2 t a ys us H' _ _ rfl h1 (e2.trans ei) st (RepL.go ei r1) (RepL.go ei r2)
      · rename_i ep; cases ep
      · exact hp.elim
/-- the tables of the defs that make lambdas -/
def LmOk (W : Lw) (Z : Zx) (K : PySem.W.Frag) (mg : Str → Option Value) (base : Heap) (ds : List DefI) : Prop :=
  ∀ d ∈ ds, d.name ∈ W.lams → ∀ (oc : Value) (od : Option Addr) (fd : FuncData) (osl : Array (Option Value)) (c : Addr), K.lookup (Z.fad d.num) = some ⟨oc, od, .func fd, osl⟩ → fd.code = .ref c → ∃ P, LamX.TabB base mg c P ∧ (P, lq d.name) ∈ Z.T ∧ ∀ p ∈ Z.T, p.1 = P → p.2 = lq d.name
end
end OS

end

section
set_option Elab.async false
set_option linter.all false
set_option maxRecDepth 100000
set_option maxHeartbeats 1000000
/-! a def called with the exception in hand, within an except suite -/
namespace OS
open PySem PySem.Spec PyProof.Rows L2 O
/-- isinstance(e, c), e an exception that is pinned -/
theorem call_isP {X : Cx} {a D : Addr} {oe : Obj} (C : ExcC X.K D) (hz : Zc (.ref D) none oe) (hf : ∃ vs, oe.data = .fields vs) (hp : (a, oe) ∈ X.pn) : CallR X (.builtin "isinstance") (rIsE X.K D a) := by
  intro pins s σ H xs us Q I r h
  obtain ⟨c, cv, b, rfl, hcv, e, q⟩ := h
  cases r with
  | cons rx rr =>
    cases rr with
    | cons rt rr =>
      cases rr
      cases rx
      have ec := hcv _ rt
      subst ec
      obtain ⟨hget, _⟩ := I.pin (a, oe) (List.mem_append.mpr (.inl hp))
      obtain ⟨vs, hv⟩ := hf
      have J : PySem.W.InstAt s.heap a oe D none := by
        obtain ⟨oc, od, oda, osl⟩ := oe
        obtain ⟨h1, h2⟩ := hz
        dsimp only at h1 h2 hv
        subst h1 h2 hv
        exact ⟨hget, rfl, rfl, trivial⟩
      exact PySem.W.kia_one (PySem.W.handS_kitx_exc C.hg C.hk C.hs C.hd C.ha C.hn C.ht C.hm) I.kIn J e (fun z => nomatch z) fun tk => ⟨.bl b, H, I.kept (t' := tk) fun _ _ z => z, rfl, q⟩
/-- a def's checker there -/
def ckHot (W : Lw) (d : DefI) : Ck := { sc := defScope d.top, N := d.N, loc := fun _ => true, calm := false, calls := [], fns := [], globs := W.globs, tabs := W.tabs, excs := W.excs, tr := W.tr }
def hotB (W : Lw) (d : DefI) : Bool := scopeB d && decide (d.ar = 1) && okB (ckHot W d) d.body (defBody d.top)
section
variable {P : Program} {w : World} {K : PySem.W.Frag} {mg : Str → Option Value} {base : Heap} {Z : Zx} {W : Lw}
theorem hot_run (M : Md W Z K mg w) (htr : W.tr = true) {d : DefI} {fd : FuncData} (FD : FunD K (Str.ofString d.name) (Str.ofString d.name) (defArgs d.top) (defBody d.top) (defScope d.top) [] [] (Z.fad d.num) fd) (hb : hotB W d = true)
    {A : Around} {outer : List Env} {s : Shared} {H : Hp} {args : Args} {Q : VK} {E : XK} {a : Addr} {oe : Obj} {k : Nat} {x : String} {F : Fs} {p0 : PV}
    (hr : L2H.RoomH 1 A) (hh : A.handled = some (.ref a)) (e0 : Env0 P w K mg base A outer s H) (hpin : L2H.PinOk outer H s (a, oe)) (hz : L2N.Zn (.ref (Z.cad k)) none oe) (hf : ∃ vs, oe.data = .fields vs) (hx : excAt W.excs k = some x)
    (hbd : BindsTo s fd args ((d.N.take d.ar).zip [.ref a])) (tb : LamX.Tabs Z.T H) (hrun : O.run F d.N.length d.body [.exc k] = .ok p0) (hq : ∀ v H', Ext Z.T H H' → Rep { Z with xa := some (a, k) } K H' p0 v → Q v H') :
    codeAny (model P w) A (.call (.ref (Z.fad d.num)) args) (CR (L2N.CX P w) outer P w H s Q E) s := by
  obtain ⟨h1, h3⟩ := band2 hb
  obtain ⟨h1, h2⟩ := band2 h1
  have har := of_decide_eq_true h2
  obtain ⟨S, hl⟩ := scope_ok h1
  obtain ⟨oc, od, dV, kV, doc, pm, an, cdv, ct, osl, rfl, lk, hcd, _, _⟩ := FD.ex
  have KX : K.In s.heap := e0.mod.kin.keeps fun b o e => (e0.bs b o e).1
  have lim : s.heap.NoLimit := e0.mod.nolimit.keeps fun b o e => (e0.bs b o e).1
  have hkind : ∀ y ∈ (d.N.take d.ar).zip [Value.ref a], (defScope d.top).names.lookup y.1 = some .local ∨ ((defScope d.top).names.lookup y.1 = some .cell ∧ ((cellsFrom (s.heap.objs.size + 1) (defScope d.top).names []).lookup y.1).isSome = true) := fun ⟨n, v⟩ hy => by
    rcases S.par n (List.of_mem_zip hy).1 with q | q
    · exact .inl q
    · exact .inr ⟨q, PySem.W.cellsFrom_some _ _ _ (.inl q)⟩
  refine codeAny_call_function hr.depth (KX _ _ lk) rfl S.co S.gen rfl (PySem.W.codeRec_of KX hcd) (hbd _ _ _ _ ?_)
  refine wpAny_newFunctionEnv_cells S.kind hkind fun env he s1 xx => ?_
  subst he
  refine ⟨lim.keeps xx.toInCall.keep, codeAny_func ?_⟩
  have hr' := L2H.RoomH.deeper (k := 0) hr (envOfC (Str.ofString d.name) (defScope d.top) s.heap.objs.size (Z.fad d.num) cdv)
  have I : Inv (L2H.cxH (L2N.CX P w) P w K mg base d.N (Str.ofString d.name) (defScope d.top) (Z.fad d.num) cdv A outer s H E (a, oe)) [] (L2.start d.N [.ref a]) H s1 := L2H.inv_startH S hpin e0 (by rw [hl, har]; rfl) (.cons rfl .nil) xx
  have tk : L2N.Takes (L2H.cxH (L2N.CX P w) P w K mg base d.N (Str.ofString d.name) (defScope d.top) (Z.fad d.num) cdv A outer s H E (a, oe)) (fun cls d _ H => XF cls d H) := fun u s' ⟨_, _, _, _, _, _, _, _, _, _, _, _, _, _, _, _, w⟩ => w.elim
  have C : Cs { Z with xa := some (a, k) } F (ckHot W d) (L2H.cxH (L2N.CX P w) P w K mg base d.N (Str.ofString d.name) (defScope d.top) (Z.fad d.num) cdv A outer s H E (a, oe)) XF :=
    { sc := rfl
      N := rfl
      nd := S.nd
      loc := fun _ _ => rfl
      calm := fun h => by cases h
      un := by
        have := hr'.un
        show (A.deeper (envOfC (Str.ofString d.name) (defScope d.top) s.heap.objs.size (Z.fad d.num) cdv)).units + 100 < cLine
        omega
      dep := hr'.depth
      lam := fun h => by cases h
      glob := fun g hg => by
        obtain ⟨u, v, e1, e2, _, e3⟩ := M.glob g hg
        exact ⟨u, v, e1, e2, fun H => Rep.toX M.xa (e3 H)⟩
      tabs := M.tabs
      free := M.free
      call := fun k hk => by cases hk
      pass := fun pins σ H s e s' I q => by
        obtain ⟨_, _, _, _, _, _, _, _, _, _, _, _, z⟩ := q
        exact z.elim
      pown := passes_of rfl
      tk := tk
      rz := fun k x hx => by
        obtain ⟨e1, e2, e3, e4, e5⟩ := M.exc k x hx
        exact ⟨_, _, _, _, PySem.F.excBase_ValueError, e1, e5, e2, e3, e4⟩
      cxa := fun h => by cases h
      mkr := fun h => by cases h
      okl := fun h => by cases h
      clo := fun h => by cases h
      hotx := .inr ⟨(a, oe), ⟨hh, by obtain ⟨vs, e⟩ := hf; exact ⟨vs, e, hz.2.2 vs e⟩⟩, List.mem_singleton.mpr rfl⟩
      hotr := fun _ _ h => by cases h
      htr := fun _ _ h => by cases h
      isx := fun a' k' h' => by
        cases h'
        obtain ⟨x1, x2, xv, x3⟩ := M.xf htr k x hx
        exact ⟨call_isP x1 hz.zc hf (List.mem_singleton.mpr rfl), xv, fun j y hj => by
          obtain ⟨_, _, _, _, e5⟩ := M.exc j y hj
          exact ⟨e5, x3 j y hj⟩⟩
      stk := rfl
      frm := rfl
      xf := M.xf }
  have ht := sndB F d.body C h3
  have hbody : tS { Z with xa := some (a, k) } K XF false (exB F d.body) { nx := fun _ H' => Q .non H', rt := Q } (L2.start d.N [.ref a]) H :=
    body_pf (Z := { Z with xa := some (a, k) }) (N := d.N) (ow := false) (ps := [.exc k]) ⟨_, _, rfl, ⟨a, rfl, rfl⟩, rfl⟩ (by
      have := congrArg List.length S.pre
      rw [List.length_take, hl, har] at this
      simp; omega) tb (by
      rw [if_neg Bool.false_ne_true, hrun]
      exact hq)
  refine wpAny_mono (ht.run [] s1 (L2.start d.N [.ref a]) H _ I hbody) (fun fl s' hs => ?_) fun e s' hs => hs
  have fin : ∀ {σ' : L2.St} {H' : Hp} {v : V} {u : Value}, Inv (L2H.cxH (L2N.CX P w) P w K mg base d.N (Str.ofString d.name) (defScope d.top) (Z.fad d.num) cdv A outer s H E (a, oe)) [] σ' H' s' → RelV v u → Q v H' → CE outer P w H s Q u s' :=
    fun {σ' H' v u} J rv q => ⟨v, H', J.os, J.bare, J.base, J.hok, rv, q⟩
  cases fl with
  | ret u =>
    obtain ⟨v, σ', H', J, rv, q⟩ := hs
    exact fin J rv q
  | next =>
    obtain ⟨σ', H', J, q⟩ := hs
    exact fin (v := V.non) (u := Value.none) J rfl q
  | brk =>
    obtain ⟨_, _, _, q⟩ := hs
    exact False.elim q
  | cont =>
    obtain ⟨_, _, _, q⟩ := hs
    exact False.elim q
/-- _law_class(error), within the suite -/
theorem pe_class (M : Md W Z K mg w) (htr : W.tr = true) {d : DefI} {fd : FuncData} (FD : FunD K (Str.ofString d.name) (Str.ofString d.name) (defArgs d.top) (defBody d.top) (defScope d.top) [] [] (Z.fad d.num) fd) (BD : Binds K fd (d.N.take d.ar) []) (hmg : mg (Str.ofString d.name) = some (.ref (Z.fad d.num))) (hb : hotB W d = true)
    {X : Cx} {a : Addr} {oe : Obj} {pn : List (Addr × Obj)} {k : Nat} {x : String} {F : Fs} {s0 : List Nat} {i : Nat} {n : Str} {p6 p7 p8 : Pos} (hP : X.prog = P) (hw : X.w = w) (hK : X.K = K) (hm : X.mg = mg) (hr : L2H.RoomH 1 X.A) (hg : Gl X (Str.ofString d.name)) (hdb : (Str.ofString d.name == ("__debug__" : Str)) = false)
    (hz : L2N.Zn (.ref (Z.cad k)) none oe) (hf : ∃ vs, oe.data = .fields vs) (hx : excAt W.excs k = some x) (hN : X.N[i]? = some n) (hv : Vis X.env.scope n) (hn1 : (n == ("__debug__" : Str)) = false) (hn2 : (n == ("__classdict__" : Str)) = false) (hrun : O.run F d.N.length d.body [.exc k] = .ok (.str s0)) :
    PE (X.suite a ((a, oe) :: pn)) (.Call (.Name (Str.ofString d.name) p6) [.Name n p7] [] p8) (fun σ H Q => σ[i]? = some (some (.ref a)) ∧ LamX.Tabs Z.T H ∧ ∀ H', Ext Z.T H H' → okS s0 → Q (.str (cps s0)) H') := by
  subst hP hw hK hm
  refine ⟨fun pins s σ H Q I h => ?_⟩
  obtain ⟨h1, h2, h3⟩ := h
  have ha : PA (X.suite a ((a, oe) :: pn)) [.Name n p7] (tCons (tVar i) tNil) := pa_cons (pe_var (X := X.suite a ((a, oe) :: pn)) hN hv hn1 hn2) pa_nil rfl
  refine wpAny_Call_Name_kw (ld_glob I hg hmg ?_ hdb)
  refine PySem.W.callWith_K (h₀ := (X.suite a ((a, oe) :: pn)).base) I.ok.mod.kin FD.kp (thn (ha.run p8 pins s σ H (fun vs H1 => vs = [.ref a] ∧ H1 = H) I ⟨.ref a, h1, rfl, rfl⟩) fun us s1 ⟨vs, H1, I1, r, q⟩ => ⟨I1.kIn, ?_⟩) rfl rfl
  obtain ⟨rfl, rfl⟩ := q
  obtain ⟨u, eu, ru⟩ := vals1 r
  subst eu
  cases ru
  have P1 := I1.pin (a, oe) (List.mem_append_left _ (List.mem_cons_self ..))
  have hpin : L2H.PinOk X.stack H1 s1 (a, oe) := ⟨P1.1, P1.2.1, fun hm => (List.mem_cons.mp (I1.stkSub a hm)).elim P1.2.2.1 P1.2.2.2.1, P1.2.2.2.2⟩
  obtain ⟨hs1, hs2⟩ := band2 hb
  obtain ⟨hs1, hs3⟩ := band2 hs1
  obtain ⟨S, hl⟩ := scope_ok hs1
  have har := of_decide_eq_true hs3
  have b := BD s1 [.ref a] I1.kIn (by rw [List.append_nil, hl, har]; rfl)
  rw [List.append_nil] at b
  have rc := hot_run (E := XF) (Q := Q) (outer := X.stack) M htr FD hb (A := (X.suite a ((a, oe) :: pn)).A) ⟨hr.dp, hr.un⟩ rfl I1.env0 hpin hz hf hx b h2 hrun fun v H' e hv => by
    obtain ⟨rfl, ho⟩ := hv
    exact h3 H' e ho
  refine wpAny_call (codeAny_mono rc fun r s' hq => ?_)
  cases r with
  | error e =>
    obtain ⟨_, _, _, _, _, _, _, _, _, _, _, _, z⟩ := hq
    exact z.elim
  | ok fl =>
    cases fl with
    | ret u => exact I1.after hq
    | next => exact False.elim hq
    | brk => exact False.elim hq
    | cont => exact False.elim hq
end
end OS

end

section
set_option Elab.async false
set_option linter.all false
set_option maxRecDepth 100000
set_option maxHeartbeats 1000000
namespace OS
open PySem PySem.Spec PyProof.Rows L2 O
def allB (W : Lw) (ds : List DefI) (ls : List LamI) : Bool := decide ((ds.map (·.num)).Nodup) && ds.all fun d => if d.hot then W.tr && (hotB W d && !(d.ow || d.mkr)) else defB W ds ls d
theorem defAt_nd : ∀ {ds : List DefI} {d : DefI}, (ds.map (·.num)).Nodup → d ∈ ds → defAt ds d.num = some d
  | x :: ds, d, h, hm => by
    rw [List.map_cons, List.nodup_cons] at h
    unfold defAt
    rw [List.find?_cons]
    rcases List.mem_cons.mp hm with rfl | hm
    · simp
    · have : x.num ≠ d.num := fun z => h.1 (List.mem_map.mpr ⟨d, hm, z.symm⟩)
      simp only [this, decide_false]
      exact defAt_nd h.2 hm
/-- another frame's view -/
abbrev zf (Z : Zx) (fc : List (Str × Addr)) (fN : List Str) (fS : Option Scope) : Zx := { Z with fc := fc, fN := fN, fS := fS }
section
variable {Z : Zx} {K : PySem.W.Frag} {H : Hp} {fc : List (Str × Addr)} {fN : List Str} {fS : Option Scope}
mutual
theorem Rep.toF : ∀ {p : PV} {v : V}, p.nol = true → Rep Z K H p v → Rep (zf Z fc fN fS) K H p v
  | .non, _, _, h => h
  | .bl _, _, _, h => h
  | .int _, _, _, h => h
  | .str _, _, _, h => h
  | .tup ps, _, c, ⟨a, vs, h1, h2, h3⟩ => ⟨a, vs, h1, h2, RepL.toF c h3⟩
  | .lst ps, _, c, ⟨a, vs, h1, h2, h3⟩ => ⟨a, vs, h1, h2, RepL.toF c h3⟩
  | .fn _, _, _, h => h
  | .obj _, _, _, h => h
  | .exc _, _, _, h => h
  | .scr _, _, _, h => h
  | .clo _ _, _, c, ⟨f, vs, h1, h2, h3⟩ => ⟨f, vs, h1, h2, RepL.toF c h3⟩
  | .lam _ _, _, c, _ => by cases c
theorem RepL.toF : ∀ {ps : List PV} {vs : List V}, PV.nolL ps = true → RepL Z K H ps vs → RepL (zf Z fc fN fS) K H ps vs
  | [], _, _, h => h
  | _ :: _, _, c, ⟨v, r, h1, h2, h3⟩ => ⟨v, r, h1, Rep.toF (band2 c).1 h2, RepL.toF (band2 c).2 h3⟩
end
theorem Rep.ofF {p : PV} {v : V} (c : p.nol = true) (h : Rep (zf Z fc fN fS) K H p v) : Rep Z K H p v := Rep.toF (Z := zf Z fc fN fS) (fc := Z.fc) (fN := Z.fN) (fS := Z.fS) c h
end
section
variable {P : Program} {w : World} {K : PySem.W.Frag} {mg : Str → Option Value} {base : Heap} {Z : Zx} {W : Lw}
/-- every def keeps its promise, so many calls deep; every closure too -/
structure Kept (P : Program) (w : World) (K : PySem.W.Frag) (mg : Str → Option Value) (base : Heap) (Z : Zx) (ds : List DefI) (ls : List LamI) (n : Nat) : Prop where
  fns : ∀ d ∈ ds, d.hot = false → ∀ fd, FunD K (Str.ofString d.name) (Str.ofString d.name) (defArgs d.top) (defBody d.top) (defScope d.top) [] [] (Z.fad d.num) fd → ∀ fc fN fS, FnOk P w K mg base (L2N.CX P w) n (Z.fad d.num) fd (d.N.take d.ar) (spOf (zf Z fc fN fS) K d.ar d.ow (tab ds ls n d.num))
  clo : ∀ k fc fN fS, CloK P w K mg base (zf Z fc fN fS) (tab ds ls n) n k
theorem fnAt_def {ds : List DefI} {k : Nat} {f : FnI} (h : fnAt (fnsOf ds) k = some f) : ∃ d ∈ ds, d.num = k ∧ defAt ds k = some d ∧ f = ⟨d.num, d.name, d.ar, d.ow⟩ := by
  induction ds with
  | nil => cases h
  | cons d ds ih =>
    unfold fnAt fnsOf at h
    rw [List.map_cons, List.find?_cons] at h
    unfold defAt
    rw [List.find?_cons]
    by_cases e : d.num = k
    · simp only [e, decide_true] at h ⊢
      cases h
      exact ⟨d, List.mem_cons_self .., e, rfl, by rw [e]⟩
    · simp only [e, decide_false] at h ⊢
      obtain ⟨d', h1, h2, h3, h4⟩ := ih h
      exact ⟨d', List.mem_cons_of_mem _ h1, h2, h3, h4⟩
/-- a def that may be called -/
theorem call_ok {ds : List DefI} {ls : List LamI} {n : Nat} {X : Cx} (D : DefsAt Z K mg ds) (hnd : (ds.map (·.num)).Nodup) (ih : Kept P w K mg base Z ds ls n) (hr : Room n X.A) (hP : X.prog = P) (hw : X.w = w) (hK : X.K = K) (hm : X.mg = mg) (hB : X.base = base)
    (fc : List (Str × Addr)) (fN : List Str) (fS : Option Scope) {k : Nat} (hk : k ∈ callsOf ds) {f : FnI} (hf : fnAt (fnsOf ds) k = some f) : CallOk (zf Z fc fN fS) (tab ds ls n) X k (Str.ofString f.name) f.ar f.ow := by
  subst hP hw hK hm hB
  obtain ⟨dk, m1, m2, m3, rfl⟩ := fnAt_def hf
  subst m2
  have hh : dk.hot = false := by
    obtain ⟨d', hd', e⟩ := List.mem_filterMap.mp hk
    by_cases h : d'.hot = true
    · rw [if_pos h] at e; cases e
    · rw [if_neg h] at e
      have e := Option.some.inj e
      have := defAt_nd hnd hd'
      rw [e, m3] at this
      cases this
      simpa using h
  obtain ⟨fdk, Fk, Bk, mk⟩ := D dk m1
  refine ⟨Z.fad dk.num, fdk, _, n, ih.fns dk m1 hh fdk Fk fc fN fS, hr, mk, Fk.kp, Bk, rfl, fun how qs p hp => ?_⟩
  cases n with
  | zero => cases hp
  | succ n =>
    rw [tab_at m3] at hp
    have how : dk.ow = true := how
    simp only [how, if_true] at hp
    unfold runW at hp
    split at hp
    · cases hp; exact ⟨_, _, rfl⟩
    · cases hp
    · cases hp
theorem glob_f (M : Md W Z K mg w) (fc : List (Str × Addr)) (fN : List Str) (fS : Option Scope) : ∀ g ∈ W.globs, ∃ u v, mg (Str.ofString g.1) = some u ∧ RelV v u ∧ ∀ H, Rep (zf Z fc fN fS) K H g.2 v := fun g hg => by
  obtain ⟨u, v, e1, e2, e3, e4⟩ := M.glob g hg
  exact ⟨u, v, e1, e2, fun H => Rep.toF e3 (e4 H)⟩
/-! ### closures -/
/-- the context of a closure's body -/
def cloCx (P : Program) (w : World) (K : PySem.W.Frag) (mg : Str → Option Value) (base : Heap) (N : List Str) (A : Around) (outer : List Env) (s : Shared) (H : Hp) (E : XK) (q : Str) (scope : Scope) (f c' : Addr) (cl : List (Str × Addr)) : Cx where
  prog := P
  w := w
  K := K
  mg := mg
  base := base
  A := A.deeper (PySem.W.envX q scope s.heap.objs.size f (.ref c') cl)
  N := N
  s_0 := s
  H_0 := H
  env := PySem.W.envX q scope s.heap.objs.size f (.ref c') cl
  outer := outer
  stack := PySem.W.envX q scope s.heap.objs.size f (.ref c') cl :: outer
  ex := []
  fn := fun _ => false
  calm := true
  pn := []
  xe := fun e s' => wpAny (model P w) (A.deeper (PySem.W.envX q scope s.heap.objs.size f (.ref c') cl)) (leaving (PySem.W.envX q scope s.heap.objs.size f (.ref c') cl) e) (fun _ s'' => L2N.CX P w outer H s E e s'') (fun e' s'' => L2N.CX P w outer H s E e' s'') s'
theorem clo_start {A : Around} {outer : List Env} {s : Shared} {H : Hp} {E : XK} {N : List Str} {q : Str} {scope : Scope} {f c' : Addr} {cl : List (Str × Addr)} {h₁ : Heap} {tk : Nat} {vs : List V} (e0 : Env0 P w K mg base A outer s H) (hd : A.handled = none) (hk : scope.kind = .function)
    (own : ∀ y ∈ scope.names, y.2 ≠ .local ∧ y.2 ≠ .cell) (hinj : ∀ x y c, cl.lookup x = some c → cl.lookup y = some c → x = y) (hfree : ∀ y, scope.names.lookup y = some .free → ∃ c, cl.lookup y = some c) (hcell : ∀ x c, cl.lookup x = some c → H c = none ∧ ∃ v, s.heap.IsCell c v)
    (hlen : vs.length = N.length) (hval : ∀ (i : Nat) (x : Str) (v : V), N[i]? = some x → vs[i]? = some v → ∃ c u, cl.lookup x = some c ∧ s.heap.IsCell c (some u) ∧ RelV v u)
    (hns : h₁.Ns s.heap.objs.size fun y => ([] : List (Str × Value)).reverse.lookup y) (kp : ∀ b o, s.heap.get? b = some o → h₁.get? b = some o) :
    Inv (cloCx P w K mg base N A outer s H E q scope f c' cl) [] (L2.start N vs) H { s with heap := h₁, toks := tk } := by
  have cellK : ∀ {c : Addr} {v : Option Value}, s.heap.IsCell c v → h₁.IsCell c v := fun {c v} ⟨o, ho, hd⟩ => ⟨o, kp _ _ ho, hd⟩
  have noA : ∀ b : Addr, b ∉ (cloCx P w K mg base N A outer s H E q scope f c' cl).ex := fun b z => absurd (show b ∈ ([] : List Addr) from z) (by simp)
  have st : L2.start N vs = vs.map some := by
    unfold L2.start
    rw [hlen, Nat.sub_self, List.replicate_zero, List.append_nil]
  refine ⟨⟨e0.mod, hk, rfl, rfl, Nat.le_refl _, hinj, fun y hy => ?_, fun y c z _ => ?_, fun _ => hd, Around.frames_deeper e0.frames, .inr ⟨rfl, rfl⟩, fun b z => absurd z (noA b), e0.bs, e0.bsz, fun b _ _ => noA b,
      fun b z => absurd z (noA b), e0.funs, e0.frf⟩,
    rfl, e0.bare, Un.kept kp, ⟨_, hns, fun i y v e1 e2 e3 => ?_⟩, fun y c e => ?_, e0.hok.fresh (Nat.le_refl _), fun y c e => (hcell y c e).1, fun q hq => absurd (show q ∈ ([] : List (Addr × Obj)) ++ [] from hq) (by simp), e0.hok.kept kp, ?_⟩
  · have hy : scope.names.lookup y = some .cell ∨ scope.names.lookup y = some .free := hy
    rcases hy with hy | hy
    · exact absurd rfl (own _ (PySem.mem_of_lookup hy)).2
    · exact hfree y hy
  · have z : false = true := z
    cases z
  · have e3 : Vis scope y := e3
    rcases e3 with k | k | k
    · exact absurd rfl (own _ (PySem.mem_of_lookup k)).1
    · exact absurd rfl (own _ (PySem.mem_of_lookup k)).2
    · rw [st, List.getElem?_map] at e2
      cases ev : vs[i]? with
      | none => rw [ev] at e2; cases e2
      | some v' =>
        rw [ev] at e2
        cases e2
        obtain ⟨c, u, h1, h2, h3⟩ := hval i y v e1 ev
        exact ⟨u, h3, .inr ⟨.inr k, c, h1, cellK h2⟩⟩
  · obtain ⟨_, v, hv⟩ := hcell y c e
    exact ⟨v, cellK hv⟩
  · rw [st, List.length_map, hlen]
    rfl
theorem clo_ok (M : Md W Z K mg w) {ds : List DefI} {ls : List LamI} {n : Nat} (D : DefsAt Z K mg ds) (hnd : (ds.map (·.num)).Nodup) (hz : Z.okl = oklOf W ds ls) (hzN : Z.lN = lNOf ls) (ih : Kept P w K mg base Z ds ls n) (k : Nat) (fc : List (Str × Addr)) (fN : List Str) (fS : Option Scope) : CloK P w K mg base (zf Z fc fN fS) (tab ds ls (n + 1)) (n + 1) k := by
  intro A outer s H f q params body scope cl pm ctv c' vs ps Q E hr e0 hf hc hok hinj hfree hcell hlen hval tb hR pf
  have hok : Z.okl k params scope body = true := hok
  have hlen : vs.length = (Z.lN k).length := hlen
  have hval : ∀ (i : Nat) (x : Str) (v : V), (Z.lN k)[i]? = some x → vs[i]? = some v → ∃ c u, cl.lookup x = some c ∧ s.heap.IsCell c (some u) ∧ RelV v u := hval
  rw [hz] at hok
  rw [hzN] at hlen hval
  unfold oklOf at hok
  obtain ⟨hk0, hok⟩ := band2 hok
  have hk0 : defAt ds k = none := by simpa using hk0
  cases hl : lamAt ls k with
  | none => rw [hl] at hok; cases hok
  | some l =>
    rw [hl] at hok
    have eN : lNOf ls k = l.N := by unfold lNOf; rw [hl]
    rw [eN] at hlen hval
    obtain ⟨hok, o5⟩ := band2 hok
    obtain ⟨hok, o4⟩ := band2 hok
    obtain ⟨hok, o3⟩ := band2 hok
    obtain ⟨o1, o2⟩ := band2 hok
    rw [tab_lam hk0 hl] at pf
    unfold lamSc at o2
    simp only [Bool.and_eq_true, Bool.not_eq_true', decide_eq_true_eq, decide_eq_false_iff_not, List.all_eq_true] at o2
    obtain ⟨⟨⟨s1, s2⟩, s3⟩, s4⟩ := o2
    have hbind : bindArgs (PySem.W.kla_fn "<lambda>" q params body scope cl pm (.ref c') ctv) ⟨[], []⟩ = pure [] := by
      unfold noPar at o1
      split at o1
      · rfl
      · cases o1
    obtain ⟨⟨oc, vs', t, hoc, hdc, hvc⟩, _, _⟩ := e0.hok c' _ hc
    refine PySem.W.kla_callFunE hr.depth hf rfl s2 s3 rfl ⟨c', oc, vs', t, rfl, hoc, hdc, hvc⟩ ?_
    rw [hbind]
    have nolim : s.heap.NoLimit := e0.mod.nolimit.keeps fun b o e => (e0.bs b o e).1
    refine wpAny_pure (wpAny_newFunctionEnv (fun y hy => (s4 y hy).2) (fun y hy => absurd hy (by simp)) (fun h₁ hns hsb => ⟨nolim.fresh _ hsb, ?_⟩) s1)
    show codeAny _ _ (.expr body (PySem.W.envX q scope s.heap.objs.size f (.ref c') cl)) _ _
    have kp : ∀ b o, s.heap.get? b = some o → h₁.get? b = some o := fun b o e => hsb.extBut b o (Nat.ne_of_lt (Heap.lt_size e)) (Heap.get?_push_of_some _ e)
    have J : Inv (cloCx P w K mg base l.N A outer s H E q scope f c' cl) [] (L2.start l.N vs) H { s with heap := h₁, toks := s.toks + ([] : List (Str × Value)).length } :=
      clo_start e0 hr.hd s1 s4 hinj hfree hcell hlen hval hns kp
    have hr' : Room n (cloCx P w K mg base l.N A outer s H E q scope f c' cl).A := hr.deeper _
    have tk : L2N.Takes (cloCx P w K mg base l.N A outer s H E q scope f c' cl) (fun cls d _ H => E cls d H) := L2N.takes_of rfl rfl rfl rfl
    have C : Cxt (zf Z fc fN fS) (tab ds ls n) (ckLam W ds scope l.N) (cloCx P w K mg base l.N A outer s H E q scope f c' cl) E :=
      { sc := rfl
        N := rfl
        nd := of_decide_eq_true o3
        loc := fun _ h => by cases h
        calm := fun _ => rfl
        un := by
          have := hr'.un
          omega
        dep := hr'.depth
        lam := fun h => by cases h
        glob := glob_f M fc fN fS
        tabs := M.tabs
        free := M.free
        call := fun j hj g hg => call_ok D hnd ih hr' rfl rfl rfl rfl rfl fc fN fS hj hg
        pass := L2N.passes_call tk fun _ _ _ _ h => h
        cxa := fun _ => M.xa
        isx := fun a k h => by
          have h : Z.xa = some (a, k) := h
          rw [M.xa] at h; cases h
        mkr := fun h => by cases h
        okl := fun h => by cases h
        clo := fun h => by cases h
        hotx := .inl rfl
        hotr := fun _ _ h => by cases h }
    have run := ((snd (tab ds ls n) l.e).e C o4 o5).run [] _ (L2.start l.N vs) H Q J ⟨_, [], start_sr hR (by omega) tb, ?_⟩
    · refine PySem.W.kla_codeExpr (wpAny_mono run (fun v s' hq => ?_) fun e s' hq => hq)
      obtain ⟨w', H', J', rv, q⟩ := hq
      exact ⟨w', H', J'.os, J'.bare, J'.base, J'.hok, rv, q⟩
    · have e1 : run (tab ds ls n) l.N.length [.ret l.e] ps = ev (tab ds ls n) l.e (O.start l.N.length ps) := by
        unfold O.run
        rw [exB, exS]
        cases ev (tab ds ls n) l.e (O.start l.N.length ps) <;> rfl
      have pf : Pf (zf Z fc fN fS) K false H Q E (run (tab ds ls n) l.N.length [.ret l.e] ps) := pf
      rw [e1] at pf
      cases ee : ev (tab ds ls n) l.e (O.start l.N.length ps) with
      | bad => rw [ee] at pf; exact pf.elim
      | exc j =>
        rw [ee] at pf
        intro H' e'
        rw [Hm.nil] at e'
        exact pf H' e'
      | ok p =>
        rw [ee] at pf
        intro v H' e' h'
        rw [Hm.nil] at h'
        exact pf v H' e' h'
/-! ### defs -/
/-- a def that is called with the exception in hand -/
theorem hot_rule (M : Md W Z K mg w) (htr : W.tr = true) {ds : List DefI} {ls : List LamI} {n : Nat} {d : DefI} (D : DefsAt Z K mg ds) (hnd : (ds.map (·.num)).Nodup) (hdm : d ∈ ds) (hb : hotB W d = true) (how : d.ow = false) (hmk : d.mkr = false) (fc : List (Str × Addr)) (fN : List Str) (fS : Option Scope)
    {X : Cx} (hr : Room n X.A) (hP : X.prog = P) (hw : X.w = w) (hK : X.K = K) (hm : X.mg = mg) {a : Addr} {oe : Obj} {pn : List (Addr × Obj)} {j : Nat} {x : String} (hz : L2N.Zn (.ref (Z.cad j)) none oe) (hf : ∃ vs, oe.data = .fields vs) (hx : excAt W.excs j = some x) :
    HotRule { zf Z fc fN fS with xa := some (a, j) } (tab ds ls n) (X.suite a ((a, oe) :: pn)) XF d.num d.name := by
  intro i y p1 p2 p3 hg hN hv hn1 hn2 hdb
  obtain ⟨fd, FD, BD, hmg⟩ := D d hdm
  have hat := defAt_nd hnd hdm
  by_cases hs : ∃ s0, tab ds ls n d.num [.exc j] = .ok (.str s0)
  · obtain ⟨s0, hs⟩ := hs
    cases n with
    | zero => cases hs
    | succ m =>
      have hrun : O.run (tab ds ls m) d.N.length d.body [.exc j] = .ok (.str s0) := by
        rw [tab_at hat] at hs
        simp only [how, hmk, Bool.false_eq_true, if_false] at hs
        exact hs
      refine PE.imp (pe_class (P := P) (w := w) (K := K) (mg := mg) (F := tab ds ls m) (s0 := s0) M htr FD BD hmg hb hP hw hK hm ((L2H.roomH_of hr).mono (by omega)) hg hdb hz hf hx hN hv hn1 hn2 hrun) fun σ H Q q => ?_
      obtain ⟨ρ, Mo, sr, q⟩ := q
      dsimp only at q
      cases ei : ρ[i]? with
      | none => rw [ei] at q; exact q.elim
      | some sv =>
        rw [ei] at q
        cases sv with
        | v pv =>
          cases pv with
          | exc j' =>
            obtain ⟨v, v1, a', rfl, v2⟩ := sr.fv i _ ei
            have v2 : some (a, j) = some (a', j') := v2
            cases v2
            dsimp only at q
            rw [hs] at q
            exact ⟨v1, sr.tabs, fun H' e ho => q _ H' e ⟨rfl, ho⟩⟩
          | _ => exact q.elim
        | _ => exact q.elim
  · refine ⟨fun pins s σ H Q I q => ?_⟩
    exfalso
    obtain ⟨ρ, Mo, sr, q⟩ := q
    dsimp only at q
    cases ei : ρ[i]? with
    | none => rw [ei] at q; exact q.elim
    | some sv =>
      rw [ei] at q
      cases sv with
      | v pv =>
        cases pv with
        | exc j' =>
          obtain ⟨v, v1, a', rfl, v2⟩ := sr.fv i _ ei
          have v2 : some (a, j) = some (a', j') := v2
          cases v2
          dsimp only at q
          cases hF : tab ds ls n d.num [.exc j] with
          | bad => rw [hF] at q; exact q.elim
          | exc _ => rw [hF] at q; exact q.elim
          | ok p =>
            rw [hF] at q
            cases p with
            | str s0 => exact hs ⟨s0, hF⟩
            | _ => exact q.elim
        | _ => exact q.elim
      | _ => exact q.elim
/-- a body that ends with: return x, a list with lambdas of this frame -/
theorem body_retL {F : Fs} {c : Ck} {X : Cx} {E : XK} (C : Cs Z F c X E) (hmk : c.mkr = true) (how : c.ow = false) (hex : X.ex = []) {Q : VK} : ∀ (body : List Sm) (sts : List Stmt), okR c body sts = true → ∀ (σ : L2.St) (H : Hp) (s : Shared), Inv X [] σ H s → tS Z X.K E false (exB F body) { nx := fun _ _ => False, rt := Q } σ H →
    wpAny (model X.prog X.w) X.A (execs sts X.env) (fun fl s' => match fl with | .ret u => CE X.outer X.prog X.w X.H_0 X.s_0 Q u s' | _ => False) X.xe s
  | [], sts, h => by cases sts <;> cases h
  | s0 :: ss, [], h => by cases s0 <;> cases ss <;> cases h
  | s0 :: ss, st :: sts, h => by
    intro σ H s I q
    have mk := C.mkr hmk
    have key : (∃ i x p p2, s0 = .retL i ∧ ss = [] ∧ st = .Return (some (.Name x p)) p2 ∧ sts = [] ∧ slotOk c i x = true) ∨ (okSm c s0 st = true ∧ okR c ss sts = true) := by
      unfold okR at h
      split at h
      · rename_i i x p p2 e1 e2
        injection e1 with a1 a2
        injection e2 with b1 b2
        exact .inl ⟨i, x, p, p2, a1, a2, b1, b2, h⟩
      · rename_i e1 e2
        injection e1 with a1 a2
        injection e2 with b1 b2
        subst a1 a2 b1 b2
        exact .inr (band2 h)
      · cases h
    rcases key with ⟨i, x, p, p2, rfl, rfl, rfl, rfl, hsl⟩ | ⟨g1, g2⟩
    · obtain ⟨ρ, M, sr, q⟩ := q
      simp only [exB, exS] at q
      cases e : ρ[i]? with
      | none => rw [e] at q; exact q.elim
      | some sv =>
        rw [e] at q
        cases sv with
        | ow xs =>
          dsimp only at q
          cases ec : convs ρ xs with
          | none => rw [ec] at q; exact q.elim
          | some ys =>
            rw [ec] at q
            have q : PR Z X.K false M H Q (.lst ys) := q
            obtain ⟨la, lv, s1, hM, hH, hR⟩ := sr.fo i xs e
            have hsub : ∀ a ∈ M.filter (fun b => decide (b ≠ la)), a ∈ M := fun a ha => (List.mem_filter.mp ha).1
            have hno : la ∉ M.filter (fun b => decide (b ≠ la)) := fun z => by
              have := (List.mem_filter.mp z).2
              simp at this
            have oN := own_sub sr.own hsub
            have I' := inv_hide I oN
            have ex := ext_sub (T := Z.T) sr.own hsub
            have cl := cells_at I' mk.2.2.2
            have opn : Opn X Z [] σ ρ (Hm H (M.filter fun b => decide (b ≠ la))) s := ⟨I', cl, mk.1, mk.2.1, mk.2.2.1, fun i p e => by
              obtain ⟨v, a1, a2⟩ := sr.fv i p e
              exact ⟨v, a1, Rep.go ex a2⟩⟩
            have rep : Rep Z X.K (lay s.heap (Hm H (M.filter fun b => decide (b ≠ la))) (cadr X.env.cells)) (.lst ys) (.ref la) := ⟨la, lv, rfl, (lay_out cl (Hm.of hH hno)).1, convs_rep opn ec (RepL.go ex hR)⟩
            have ub := I'.base
            rw [hex] at ub
            have un : Un (frs X.outer) [] X.H_0 (lay s.heap (Hm H (M.filter fun b => decide (b ≠ la))) (cadr X.env.cells)) X.s_0.heap s.heap := by
              refine ⟨ub.keep, ub.slot, fun b o e n hx => ?_, ub.there, fun b xs e => (lay_out cl (ub.tups b xs e)).1, fun b o u e => (lay_out cl (ub.frzs b o u e)).1, fun b ps e => ?_⟩
              · unfold lay
                by_cases hb : b ∈ cadr X.env.cells
                · obtain ⟨y, ey⟩ := mem_cadr hb
                  exact absurd (Heap.lt_size e) (Nat.not_lt.mpr (I.ok.cab y b (mk.2.2.2 y) ey))
                · rw [if_neg hb]
                  exact ub.free b o e n hx
              · obtain ⟨m, z⟩ := ub.tbls b ps e
                exact ⟨m, (lay_out cl z).1⟩
            have fin : CE X.outer X.prog X.w X.H_0 X.s_0 Q (.ref la) s := by
              refine ⟨.ref la, _, I.os, I.bare, un, lay_hok cl I'.hok, rfl, ?_⟩
              refine q (.ref la) _ [] own_nil ?_ ?_
              · rw [Hm.nil]
                exact ex.trans (lay_ext cl)
              · rw [Hm.nil]
                exact rep
            unfold slotOk at hsl
            rw [Bool.and_eq_true, Bool.and_eq_true, decide_eq_true_eq] at hsl
            obtain ⟨⟨y1, y2⟩, y3⟩ := hsl
            obtain ⟨m, hn, hl⟩ := I.loc
            obtain ⟨u, r, l⟩ := hl i x (.ref la) (by rw [C.N]; exact y1) s1 (by rw [C.sc]; exact vis_ok y2)
            obtain rfl : u = Value.ref la := r
            refine wpAny_execs_cons (wpAny_Return_some ?_)
            rcases l with ⟨hk, hm⟩ | ⟨hk, c, hc, hcell⟩
            · exact wpAny_Name (wpAny_loadName_local I.ok.kind hk hn hm fin) (plainN_ok y3).1
            · rcases hk with hk | hk
              · exact wpAny_Name (wpAny_loadName_cell I.ok.kind hk hc hcell fin) (plainN_ok y3).1
              · exact wpAny_Name (wpAny_loadName_free I.ok.kind hk hc hcell fin (plainN_ok y3).2.1) (plainN_ok y3).1
        | _ => exact q.elim
    · have ps := ((sndS_all F (sizeOf s0)).1 s0 (Nat.le_refl _)) C g1
      rw [how] at ps
      have q2 : tSeq (tS Z X.K E false (exS F s0)) (tS Z X.K E false (exB F ss)) { nx := fun _ _ => False, rt := Q } σ H := seq_tS (by
        obtain ⟨ρ, M, sr, q⟩ := q
        rw [exB] at q
        exact ⟨ρ, M, sr, q⟩)
      refine wpAny_execs_cons (thn (ps.run [] s σ H _ I q2) fun f s1 q => ?_)
      cases f with
      | next =>
        obtain ⟨σ', H', I', q⟩ := q
        exact body_retL C hmk how hex ss sts g2 σ' H' s1 I' q
      | ret u =>
        obtain ⟨v, σ', H', J, rv, q⟩ := q
        have ub := J.base
        rw [hex] at ub
        exact ⟨v, H', J.os, J.bare, ub, J.hok, rv, q⟩
      | brk => obtain ⟨_, _, _, q⟩ := q; exact False.elim q
      | cont => obtain ⟨_, _, _, q⟩ := q; exact False.elim q
/-- a def from its run -/
theorem fn_raw {CX : CXT} {k : Nat} {f : Addr} {name qual : Str} {params : Arguments} {body : List Stmt} {scope : Scope} {dV kV doc pm cdv ct oc : Value} {an od : Option Addr}
    {osl : Array (Option Value)} {N ps : List Str} {sp : Sp} (lk : K.lookup f = some ⟨oc, od, .func (PySem.W.fnOf name qual params body scope dV kV doc pm an cdv ct), osl⟩) (hcd : PySem.W.codeIn K cdv qual = true) (S : FnScope N ps scope)
    (len : ∀ vs H Q E, sp vs H Q E → vs.length = ps.length)
    (hbody : ∀ (A : Around) (outer : List Env) (s : Shared) (H : Hp) (vs : List V) (Q : VK) (E : XK), Room k (A.deeper (envOfC qual scope s.heap.objs.size f cdv)) → sp vs H Q E → ∀ s1, Inv (cxOf CX P w K mg base N qual scope f cdv A outer s H E) [] (L2.start N vs) H s1 →
      wpAny (model P w) (A.deeper (envOfC qual scope s.heap.objs.size f cdv)) (execs body (envOfC qual scope s.heap.objs.size f cdv)) (fun fl s' => match fl with | .ret u => CE outer P w H s Q u s' | _ => False) (cxOf CX P w K mg base N qual scope f cdv A outer s H E).xe s1) :
    FnOk P w K mg base CX (k + 1) f (PySem.W.fnOf name qual params body scope dV kV doc pm an cdv ct) ps sp := by
  refine ⟨len, fun A outer s H args us vs Q E hr e0 hb r hsp => ?_⟩
  have hl := len _ _ _ _ hsp
  have KX : K.In s.heap := e0.mod.kin.keeps fun b o e => (e0.bs b o e).1
  have lim : s.heap.NoLimit := e0.mod.nolimit.keeps fun b o e => (e0.bs b o e).1
  have hkind : ∀ y ∈ ps.zip us, scope.names.lookup y.1 = some .local ∨ (scope.names.lookup y.1 = some .cell ∧ ((cellsFrom (s.heap.objs.size + 1) scope.names []).lookup y.1).isSome = true) := fun ⟨n, v⟩ hy => by
    rcases S.par n (List.of_mem_zip hy).1 with q | q
    · exact .inl q
    · exact .inr ⟨q, PySem.W.cellsFrom_some _ _ _ (.inl q)⟩
  refine codeAny_call_function hr.depth (KX _ _ lk) rfl S.co S.gen rfl (PySem.W.codeRec_of KX hcd) (hb _ _ _ _ ?_)
  refine wpAny_newFunctionEnv_cells S.kind hkind fun env he s1 x => ?_
  subst he
  refine ⟨lim.keeps x.toInCall.keep, codeAny_func ?_⟩
  have I : Inv (cxOf CX P w K mg base N qual scope f cdv A outer s H E) [] (L2.start N vs) H s1 := inv_start S hr.hd e0 hl r x
  refine wpAny_mono (hbody A outer s H vs Q E (hr.deeper _) hsp s1 I) (fun fl s' hs => ?_) fun e s' hs => hs
  cases fl with
  | ret u => exact hs
  | next => exact False.elim hs
  | brk => exact False.elim hs
  | cont => exact False.elim hs
/-- such a body does not run past its end -/
theorem okR_nx {F : Fs} {c : Ck} : ∀ {body : List Sm} {sts : List Stmt} {ρ r : O.St}, okR c body sts = true → exB F body ρ = .next r → False
  | [], sts, ρ, r, h, e => by cases sts <;> cases h
  | s0 :: ss, [], ρ, r, h, e => by cases s0 <;> cases ss <;> cases h
  | s0 :: ss, st :: sts, ρ, r, h, e => by
    rw [exB] at e
    have key : (∃ i, s0 = .retL i ∧ ss = []) ∨ okR c ss sts = true := by
      unfold okR at h
      split at h
      · rename_i i x p p2 e1 e2
        injection e1 with a1 a2
        exact .inl ⟨i, a1, a2⟩
      · rename_i e1 e2
        injection e1 with a1 a2
        injection e2 with b1 b2
        subst a1 a2 b1 b2
        exact .inr (band2 h).2
      · cases h
    rcases key with ⟨i, rfl, rfl⟩ | g
    · rw [exS] at e
      cases h1 : ρ[i]? with
      | none => rw [h1] at e; cases e
      | some sv =>
        rw [h1] at e
        cases sv with
        | ow xs =>
          dsimp only at e
          cases h2 : convs ρ xs with
          | none => rw [h2] at e; cases e
          | some ys => rw [h2] at e; cases e
        | _ => cases e
    · cases h1 : exS F s0 ρ with
      | next r' => rw [h1] at e; exact okR_nx g e
      | brk r' => rw [h1] at e; cases e
      | ret p => rw [h1] at e; cases e
      | exc k => rw [h1] at e; cases e
      | bad => rw [h1] at e; cases e
theorem one_fn (M : Md W Z K mg w) {d : DefI} {ds : List DefI} {ls : List LamI} {n : Nat} {fd : FuncData} (D : DefsAt Z K mg ds) (F : FunD K (Str.ofString d.name) (Str.ofString d.name) (defArgs d.top) (defBody d.top) (defScope d.top) [] [] (Z.fad d.num) fd) (hall : allB W ds ls = true) (hdm : d ∈ ds) (hnh : d.hot = false) (LM : LmOk W Z K mg base ds)
    (hz : Z.okl = oklOf W ds ls) (hzN : Z.lN = lNOf ls) (ih : Kept P w K mg base Z ds ls n) (fc0 : List (Str × Addr)) (fN0 : List Str) (fS0 : Option Scope) :
    FnOk P w K mg base (L2N.CX P w) (n + 1) (Z.fad d.num) fd (d.N.take d.ar) (spOf (zf Z fc0 fN0 fS0) K d.ar d.ow (tab ds ls (n + 1) d.num)) := by
  obtain ⟨hnd, hall⟩ := band2 hall
  have hnd := of_decide_eq_true hnd
  have hat := defAt_nd hnd hdm
  have hb := List.all_eq_true.mp hall d hdm
  rw [hnh, if_neg Bool.false_ne_true] at hb
  obtain ⟨h1, h2⟩ := band2 hb
  obtain ⟨h1, h3⟩ := band2 h1
  obtain ⟨S, hl⟩ := scope_ok h1
  obtain ⟨oc, od, dV, kV, doc, pm, an, cdv, ct, osl, rfl, lk, hcd, _, _⟩ := F.ex
  have hle : d.ar ≤ d.N.length := by
    have := congrArg List.length S.pre
    rw [List.length_take, hl] at this
    omega
  have C : ∀ (A : Around) (outer : List Env) (s : Shared) (H : Hp) (E : XK), Room n (A.deeper (envOfC (Str.ofString d.name) (defScope d.top) s.heap.objs.size (Z.fad d.num) cdv)) → ∀ (fc : List (Str × Addr)) (fN : List Str) (fS : Option Scope), (d.mkr = true → fc = (envOfC (Str.ofString d.name) (defScope d.top) s.heap.objs.size (Z.fad d.num) cdv).cells ∧ fN = d.N ∧ fS = some (defScope d.top)) →
      Cs (zf Z fc fN fS) (tab ds ls n) (ckOf W ds ls d) (cxOf (L2N.CX P w) P w K mg base d.N (Str.ofString d.name) (defScope d.top) (Z.fad d.num) cdv A outer s H E) E := fun A outer s H E hr fc fN fS hfr =>
    have tk : L2N.Takes (cxOf (L2N.CX P w) P w K mg base d.N (Str.ofString d.name) (defScope d.top) (Z.fad d.num) cdv A outer s H E) (fun cls d _ H => E cls d H) := L2N.takes_of rfl rfl rfl rfl
    { sc := rfl
      N := rfl
      nd := S.nd
      loc := fun _ _ => rfl
      calm := fun _ => rfl
      un := by
        have := hr.un
        show (A.deeper (envOfC (Str.ofString d.name) (defScope d.top) s.heap.objs.size (Z.fad d.num) cdv)).units + 100 < cLine
        omega
      dep := hr.depth
      lam := fun hl => by
        obtain ⟨cc, ecc⟩ := He.codeIn_ref hcd
        obtain ⟨P, t1, t2, t3⟩ := LM d hdm (of_decide_eq_true hl) oc od _ osl cc lk ecc
        exact ⟨cc, P, t1, ecc, t2, t3⟩
      glob := glob_f M fc fN fS
      tabs := M.tabs
      free := M.free
      call := fun j hj g hg => call_ok D hnd ih hr rfl rfl rfl rfl rfl fc fN fS hj hg
      pass := L2N.passes_call tk fun _ _ _ _ h => h
      pown := passes_of rfl
      tk := tk
      rz := fun k x hx => by
        obtain ⟨e1, e2, e3, e4, e5⟩ := M.exc k x hx
        exact ⟨_, _, _, _, PySem.F.excBase_ValueError, e1, e5, e2, e3, e4⟩
      cxa := fun _ => M.xa
      isx := fun a k h => by
        have h : Z.xa = some (a, k) := h
        rw [M.xa] at h; cases h
      mkr := fun h => by
        obtain ⟨f1, f2, f3⟩ := hfr h
        exact ⟨f1, f2, f3, fun _ => rfl⟩
      okl := fun _ => ⟨hz.symm, hzN.symm⟩
      clo := fun _ => ⟨n, hr, fun k => ih.clo k fc fN fS⟩
      hotx := .inl rfl
      hotr := fun _ _ h => by cases h
      htr := fun k nm hk a oe pn j x hz' hf hx => by
        have hk : (ds.find? (·.hot)).map (fun d => (d.num, d.name)) = some (k, nm) := hk
        cases eh : ds.find? (·.hot) with
        | none => rw [eh] at hk; cases hk
        | some dh =>
          rw [eh] at hk
          cases hk
          have hm := List.mem_of_find?_eq_some eh
          have hh : dh.hot = true := by simpa using List.find?_some eh
          have hb := List.all_eq_true.mp hall dh hm
          rw [if_pos hh] at hb
          obtain ⟨b1, b2⟩ := band2 hb
          obtain ⟨b2, b3⟩ := band2 b2
          have b3 : (dh.ow || dh.mkr) = false := by simpa using b3
          obtain ⟨b3, b4⟩ := Bool.or_eq_false_iff.mp b3
          exact hot_rule M b1 D hnd hm b2 b3 b4 fc fN fS hr rfl rfl rfl rfl hz' hf hx
      stk := rfl
      frm := rfl
      xf := M.xf }
  have mkq : ∀ {H : Hp} {vs : List V} {Q : VK} {E : XK} {ps : List PV} {fc : List (Str × Addr)} {fN : List Str} {fS : Option Scope}, RepL (zf Z fc0 fN0 fS0) K H ps vs → Pf (zf Z fc0 fN0 fS0) K false H Q E (runM (tab ds ls n) d.N.length d.body ps) →
      RepL (zf Z fc fN fS) K H ps vs ∧ Pf (zf Z fc fN fS) K false H Q E (O.run (tab ds ls n) d.N.length d.body ps) := fun {H vs Q E ps fc fN fS} q2 q3 => by
    unfold runM at q3
    by_cases hn : PV.nolL ps = true
    · rw [if_pos hn] at q3
      refine ⟨RepL.toF (Z := zf Z fc0 fN0 fS0) hn q2, ?_⟩
      cases er : O.run (tab ds ls n) d.N.length d.body ps with
      | bad => rw [er] at q3; exact q3
      | exc k => rw [er] at q3; exact q3
      | ok p =>
        rw [er] at q3
        dsimp only at q3
        by_cases hp : p.nol = true
        · rw [if_pos hp] at q3
          exact fun v H' e hv => q3 v H' e (Rep.toF (Z := zf Z fc fN fS) hp hv)
        · rw [if_neg hp] at q3; exact q3.elim
    · rw [if_neg hn] at q3; exact q3.elim
  by_cases hrl : d.rl = true
  · rw [if_pos hrl] at h2
    obtain ⟨hmk, h2⟩ := band2 h2
    have how : d.ow = false := by
      rw [hmk, Bool.and_true] at h3
      exact bnot1 h3
    refine fn_raw lk hcd S (fun vs H Q E q => by rw [hl]; exact q.1) fun A outer s H vs Q E hr q s1 I => ?_
    rw [tab_at hat] at q
    obtain ⟨q1, qt, ps, q2, q3⟩ := q
    dsimp only at q3
    rw [how, if_neg Bool.false_ne_true, if_pos hmk] at q3
    obtain ⟨q2', q3'⟩ := mkq (fc := (envOfC (Str.ofString d.name) (defScope d.top) s.heap.objs.size (Z.fad d.num) cdv).cells) (fN := d.N) (fS := some (defScope d.top)) q2 q3
    have bp := body_pf (N := d.N) (ow := false) q2' (by omega) qt (by rw [if_neg Bool.false_ne_true]; exact q3')
    refine body_retL (C A outer s H E hr _ _ _ fun _ => ⟨rfl, rfl, rfl⟩) hmk how rfl d.body (defBody d.top) h2 (L2.start d.N vs) H s1 I ?_
    obtain ⟨ρ, M, sr, q⟩ := bp
    refine ⟨ρ, M, sr, ?_⟩
    cases er : exB (tab ds ls n) d.body ρ with
    | next r => exact (okR_nx h2 er).elim
    | brk r => rw [er] at q; exact q
    | bad => rw [er] at q; exact q
    | exc k => rw [er] at q; exact q
    | ret p => rw [er] at q; exact q
  · rw [if_neg hrl] at h2
    refine fn_of lk hcd S (fun vs H Q E q => by rw [hl]; exact q.1) fun A outer s H vs Q E hr q => ?_
    rw [tab_at hat] at q
    obtain ⟨q1, qt, ps, q2, q3⟩ := q
    dsimp only at q3
    by_cases hmk : d.mkr = true
    · have how : d.ow = false := by
        rw [hmk, Bool.and_true] at h3
        exact bnot1 h3
      rw [how, if_neg Bool.false_ne_true, if_pos hmk] at q3
      obtain ⟨q2', q3'⟩ := mkq (fc := (envOfC (Str.ofString d.name) (defScope d.top) s.heap.objs.size (Z.fad d.num) cdv).cells) (fN := d.N) (fS := some (defScope d.top)) q2 q3
      refine ⟨_, sndB (tab ds ls n) d.body (C A outer s H E hr _ _ _ fun _ => ⟨rfl, rfl, rfl⟩) h2, ?_⟩
      have ho : (ckOf W ds ls d).ow = false := how
      rw [ho]
      refine body_pf q2' (by omega) qt ?_
      rw [if_neg Bool.false_ne_true]
      exact q3'
    · have hmk' : d.mkr = false := by simpa using hmk
      rw [hmk', if_neg Bool.false_ne_true] at q3
      exact ⟨_, sndB (tab ds ls n) d.body (C A outer s H E hr fc0 fN0 fS0 fun h => absurd h hmk) h2, body_pf q2 (by omega) qt q3⟩
theorem all_kept (M : Md W Z K mg w) {ds : List DefI} {ls : List LamI} (D : DefsAt Z K mg ds) (LM : LmOk W Z K mg base ds) (hb : allB W ds ls = true) (hz : Z.okl = oklOf W ds ls) (hzN : Z.lN = lNOf ls) : ∀ n : Nat, Kept P w K mg base Z ds ls n
  | 0 => ⟨fun d hd hnh fd F fc fN fS => by
      obtain ⟨hnd, hall⟩ := band2 hb
      have hb := List.all_eq_true.mp hall d hd
      rw [hnh, if_neg Bool.false_ne_true] at hb
      obtain ⟨h1, _⟩ := band2 hb
      obtain ⟨h1, _⟩ := band2 h1
      obtain ⟨S, hl⟩ := scope_ok h1
      exact ⟨fun vs H Q E q => by rw [hl]; exact q.1, fun A outer s H args us vs Q E _ _ _ _ q => by obtain ⟨_, _, ps, _, z⟩ := q; exact z.elim⟩,
    fun k fc fN fS A outer s H f q params body scope cl pm ctv c' vs ps Q E _ _ _ _ _ _ _ _ _ _ _ _ pf => by exact (show False from pf).elim⟩
  | n + 1 => ⟨fun d hd hnh fd F fc fN fS => one_fn M D F hb hd hnh LM hz hzN (all_kept M D LM hb hz hzN n) fc fN fS,
    fun k fc fN fS => clo_ok M D (of_decide_eq_true (band2 hb).1) hz hzN (all_kept M D LM hb hz hzN n) k fc fN fS⟩
end
/-! ### the module's facts by names -/
def zx (K : PySem.W.Frag) (W : Lw) (ds : List DefI) (ls : List LamI) : Zx := { fad := fun k => match fnAt (fnsOf ds) k with | some f => He.ga K (Str.ofString f.name) | none => 0, cad := fun k => match excAt W.excs k with | some x => He.ga K (Str.ofString x) | none => 0, T := [], okl := oklOf W ds ls, lN := lNOf ls }
end OS

end

section
set_option Elab.async false
set_option linter.all false
set_option maxRecDepth 100000
set_option maxHeartbeats 1000000
namespace OS
open PySem PySem.Spec PyProof.Rows L2 O
def isDv : PV → Bool
  | .str s => s.all fun c => decide (c < 1114112)
  | .int _ => true
  | .bl _ => true
  | .non => true
  | _ => false
theorem xcB_ok {K : PySem.W.Frag} {D : Addr} (h : xcB K D = true) : ExcC K D := by
  unfold xcB at h
  obtain ⟨h, h8⟩ := band2 h
  obtain ⟨h, h7⟩ := band2 h
  obtain ⟨h, h6⟩ := band2 h
  obtain ⟨h, h5⟩ := band2 h
  obtain ⟨h, h4⟩ := band2 h
  obtain ⟨h, h3⟩ := band2 h
  obtain ⟨h1, h2⟩ := band2 h
  exact ⟨of_decide_eq_true h1, of_decide_eq_true h2, of_decide_eq_true h3, h4, of_decide_eq_true h5, of_decide_eq_true h6, of_decide_eq_true h7, of_decide_eq_true h8⟩
def csOf (W : Lw) (K : PySem.W.Frag) : List (Addr × Addr) := (tfOf W).map fun p => He.cT K p
def taOf (W : Lw) (K : PySem.W.Frag) : List (Addr × Str) := W.lams.map fun x => ((He.cT K (Str.ofString x, none)).2, lq x)
def tabsB2 (W : Lw) : Bool := W.tabs.all fun t => t.2.all fun q => q.2.all fun c => decide (c < 1114112)
def globsB (W : Lw) : Bool := tabsB2 W && W.globs.all fun g => match g.2 with
  | .str s => s.all fun c => decide (c < 1114112)
  | .int _ => true
  | .tup ps => !(ps.all isTB) && ps.all isDv
  | _ => false
def numsB (ds : List DefI) : Bool := ds.all fun d => match fnAt (fnsOf ds) d.num with | some f => decide (f.name = d.name) | none => false
def excsB (W : Lw) : Bool := W.excs.all fun e => match excAt W.excs e.1 with | some x => decide (x = e.2) | none => false
def BindsAt (d : DefI) : Prop := ∀ (kV doc pm : Value) (an : Option Addr) (cdv ct : Value) (us : List Value), us.length = (d.N.take d.ar).length → bindArgs (PySem.W.fnOf (Str.ofString d.name) (Str.ofString d.name) (defArgs d.top) (defBody d.top) (defScope d.top) .none kV doc pm an cdv ct) ⟨us, []⟩ = pure ((d.N.take d.ar).zip us)
section
variable {W : Lw} {ds : List DefI} {ls : List LamI} {w : World} {K : PySem.W.Frag} {mg : Str → Option Value} {h : Heap}
theorem dv_rep {Z : Zx} {H : Hp} : ∀ {ps : List PV}, ps.all isDv = true → RepL Z K H ps ((ps.map dvOf).map (He.Dv.v K))
  | [], _ => rfl
  | p :: ps, hh => by
    rw [List.all_cons] at hh
    obtain ⟨h1, h2⟩ := band2 hh
    refine ⟨_, _, rfl, ?_, dv_rep h2⟩
    cases p with
    | str s => exact ⟨rfl, fun c hc => of_decide_eq_true (List.all_eq_true.mp h1 c hc)⟩
    | int i => rfl
    | bl b => rfl
    | non => rfl
    | _ => cases h1
theorem dv_nol : ∀ {ps : List PV}, ps.all isDv = true → PV.nolL ps = true
  | [], _ => rfl
  | p :: ps, hh => by
    rw [List.all_cons] at hh
    obtain ⟨h1, h2⟩ := band2 hh
    show (p.nol && PV.nolL ps) = true
    rw [dv_nol h2, Bool.and_true]
    cases p with
    | str s => rfl
    | int i => rfl
    | bl b => rfl
    | non => rfl
    | _ => cases h1
theorem md_of {fa : List He.Fa} {fn : List He.DefD} (X : K.In h) (G : h.Ns mainGlobals mg) {tf : List He.Defn} (c : He.SaysX fa fn (tsOf W) tf (exOf W) w h K) (hfa : ∀ f ∈ faOf W ds, f ∈ fa) (hg : globsB W = true) {T : List (Addr × Str)} : Md W { zx K W ds ls with T := T } K mg w := by
  have fact : ∀ f, f ∈ faOf W ds → f.ok K = true := fun f hf => c.t.d.facts (hfa f hf)
  obtain ⟨hg2, hg⟩ := band2 hg
  obtain ⟨cm1, cm2⟩ := band2 c.more
  obtain ⟨cm1, cm3⟩ := band2 cm1
  obtain ⟨cm3, _⟩ := band2 cm3
  have cadE : ∀ k x, excAt W.excs k = some x → ({ zx K W ds ls with T := T } : Zx).cad k = He.ga K (Str.ofString x) ∧ ∃ e ∈ W.excs, e.1 = k ∧ e.2 = x := fun k x hx => by
    refine ⟨?_, ?_⟩
    · show (match excAt W.excs k with | some x => He.ga K (Str.ofString x) | none => 0) = _
      rw [hx]
    · unfold excAt at hx
      cases q : W.excs.find? fun e => decide (e.1 = k) with
      | none => rw [q] at hx; cases hx
      | some e => rw [q] at hx; cases hx; exact ⟨e, List.mem_of_find?_eq_some q, by have := List.find?_some q; exact of_decide_eq_true this, rfl⟩
  have tabs : ∀ t ∈ W.tabs, ∃ d es n, mg (Str.ofString t.1) = some (.ref d) ∧ KDict K w d es n ∧ ∀ q ∈ t.2, okS q.2 ∧ ∃ u, PySem.W.nsIn K d (cps q.1) = some (some u) ∧ RelV (.str (cps q.2)) u := fun t ht => by
    obtain ⟨i, hi, he⟩ := List.getElem_of_mem ht
    have e1 : (tsOf W)[i]? = some (fun K => He.ga K (Str.ofString t.1), t.2.map fun q => cps q.1) := by
      unfold tsOf
      rw [List.getElem?_map, List.getElem?_eq_getElem hi, he]; rfl
    obtain ⟨es, n, kd⟩ := c.t.tab i e1
    have hg1 := He.glo_ok X G (fact (.glo (Str.ofString t.1)) (List.mem_append_right _ (List.mem_append_right _ (List.mem_append_right _ (List.mem_append_right _ (List.mem_map.mpr ⟨t, ht, rfl⟩))))))
    refine ⟨_, es, n, hg1, kd, fun q hq => ?_⟩
    have v1 := List.all_eq_true.mp cm3 t ht
    obtain ⟨u, u1, u2⟩ := He.valsB_ok v1 (q := (cps q.1, He.Dv.str (cps q.2))) (List.mem_map.mpr ⟨q, hq, rfl⟩)
    have ho := List.all_eq_true.mp (List.all_eq_true.mp hg2 t ht) q hq
    exact ⟨fun d hd => of_decide_eq_true (List.all_eq_true.mp ho d hd), u, u1, u2⟩
  refine ⟨tabs, fun g hgm => ?_, fun x hx => ?_, fun k x hx => ?_, rfl, fun htr k x hx => ?_⟩
  · have hb := List.all_eq_true.mp hg g hgm
    have he := List.all_eq_true.mp cm2 g hgm
    have hin : ∀ f, f ∈ globFa g → f.ok K = true := fun f hf => fact f (List.mem_append_right _ (List.mem_append_right _ (List.mem_append_right _ (List.mem_append_left _ (List.mem_flatMap.mpr ⟨g, hgm, hf⟩)))))
    obtain ⟨x, p⟩ := g
    cases p with
    | str s =>
      obtain ⟨t, ht⟩ := He.str_ok X G (hin (.str (Str.ofString x) (cps s)) (by simp [globFa]))
      exact ⟨_, V.str (cps s), ht, ⟨t, rfl⟩, rfl, fun H => ⟨rfl, fun d hd => of_decide_eq_true (List.all_eq_true.mp hb d hd)⟩⟩
    | int i =>
      obtain ⟨t, ht⟩ := He.int_ok X G (hin (.int (Str.ofString x) i) (by simp [globFa]))
      exact ⟨_, V.int i, ht, ⟨t, rfl⟩, rfl, fun H => rfl⟩
    | tup ps =>
      have h1 := He.glo_ok X G (hin (.glo (Str.ofString x)) (by simp [globFa]))
      obtain ⟨hb1, hb2⟩ := band2 hb
      exact ⟨_, .ref _, h1, rfl, dv_nol hb2, fun H => ⟨_, _, rfl, SqQ.non (He.tupB_ok he H) (by simpa using hb1), dv_rep hb2⟩⟩
    | _ => cases hb
  · exact He.free_ok X G (fact _ (List.mem_append_right _ (List.mem_append_left _ (List.mem_map.mpr ⟨x, hx, rfl⟩))))
  · have hm : ∃ e ∈ W.excs, e.2 = x := by
      unfold excAt at hx
      cases q : W.excs.find? fun e => decide (e.1 = k) with
      | none => rw [q] at hx; cases hx
      | some e => rw [q] at hx; cases hx; exact ⟨e, List.mem_of_find?_eq_some q, rfl⟩
    obtain ⟨e, hem, rfl⟩ := hm
    have hz : ({ zx K W ds ls with T := T } : Zx).cad k = He.ga K (Str.ofString e.2) := by
      show (match excAt W.excs k with | some x => He.ga K (Str.ofString x) | none => 0) = _
      rw [hx]
    rw [hz]
    have hin : ∀ f, f ∈ [He.Fa.exc (Str.ofString e.2), He.Fa.glo (Str.ofString e.2)] → f.ok K = true := fun f hf => fact f (List.mem_append_right _ (List.mem_append_right _ (List.mem_append_left _ (List.mem_flatMap.mpr ⟨e, hem, hf⟩))))
    obtain ⟨e1, e2, e3, e4⟩ := He.exc_ok (hin _ (List.mem_cons_self ..))
    exact ⟨e1, e2, e3, e4, He.glo_ok X G (hin _ (by simp))⟩
  · rw [htr] at cm1
    have cm1 : xfB W K = true := cm1
    unfold xfB at cm1
    cases e0 : excAt W.excs 0 with
    | none => rw [e0] at cm1; cases cm1
    | some o =>
      rw [e0] at cm1
      obtain ⟨z0, _⟩ := cadE 0 o e0
      obtain ⟨zk, e, hem, ek, ex⟩ := cadE k x hx
      obtain ⟨g, g3⟩ := band2 (List.all_eq_true.mp cm1 e hem)
      obtain ⟨g, gv⟩ := band2 g
      obtain ⟨g1, g2⟩ := band2 g
      rw [zk, z0]
      rw [ex] at g1 g2 g3 gv
      refine ⟨xcB_ok g1, of_decide_eq_true g2, of_decide_eq_true gv, fun j y hj => ?_⟩
      obtain ⟨zj, d, hdm, dk, dx⟩ := cadE j y hj
      have := List.all_eq_true.mp g3 d hdm
      rw [zj, ← dx, ← ek, ← dk]
      exact of_decide_eq_true this
theorem fad_of {T : List (Addr × Str)} (hn : numsB ds = true) {d : DefI} (hd : d ∈ ds) : ({ zx K W ds ls with T := T } : Zx).fad d.num = He.ga K (Str.ofString d.name) := by
  show (match fnAt (fnsOf ds) d.num with | some f => He.ga K (Str.ofString f.name) | none => 0) = _
  have := List.all_eq_true.mp hn d hd
  cases q : fnAt (fnsOf ds) d.num with
  | none => rw [q] at this; cases this
  | some f =>
    rw [q] at this
    show He.ga K (Str.ofString f.name) = _
    rw [show f.name = d.name from of_decide_eq_true this]
theorem defs_of {fa : List He.Fa} {fn : List He.DefD} (X : K.In h) (G : h.Ns mainGlobals mg) {tf : List He.Defn} (c : He.SaysX fa fn (tsOf W) tf (exOf W) w h K) (hfa : ∀ f ∈ faOf W ds, f ∈ fa) (hfn : ∀ d ∈ fnD ds, d ∈ fn) (hn : numsB ds = true) (hb : ∀ d ∈ ds, BindsAt d) {T : List (Addr × Str)} : DefsAt { zx K W ds ls with T := T } K mg ds := by
  intro d hd
  have hz : ({ zx K W ds ls with T := T } : Zx).fad d.num = He.ga K (Str.ofString d.name) := by
    show (match fnAt (fnsOf ds) d.num with | some f => He.ga K (Str.ofString f.name) | none => 0) = _
    have := List.all_eq_true.mp hn d hd
    cases q : fnAt (fnsOf ds) d.num with
    | none => rw [q] at this; cases this
    | some f =>
      rw [q] at this
      show He.ga K (Str.ofString f.name) = _
      rw [show f.name = d.name from of_decide_eq_true this]
  obtain ⟨fd, F⟩ := c.t.d.defs (d := ⟨(Str.ofString d.name, none), Str.ofString d.name, Str.ofString d.name, defArgs d.top, defBody d.top, defScope d.top, [], []⟩) (hfn _ (List.mem_map.mpr ⟨d, hd, rfl⟩))
  refine ⟨fd, ?_, ?_, ?_⟩
  · rw [hz]; exact F
  · exact FunD.bindsN F (hb d hd)
  · rw [hz]
    exact He.glo_ok X G (c.t.d.facts (hfa _ (List.mem_append_left _ (List.mem_map.mpr ⟨d, hd, rfl⟩))))
theorem lm_of {base : Heap} {fa : List He.Fa} {fn : List He.DefD} {ts : List He.Tab} (c : He.SaysX fa fn ts (tfOf W) (exOf W) w h K) (hn : numsB ds = true) (hTB : ∀ p ∈ csOf W K, LamX.TabB base mg p.1 p.2) : LmOk W { zx K W ds ls with T := taOf W K } K mg base ds := by
  intro d hd hdl oc od fd osl cc lk hcc
  have hz : ({ zx K W ds ls with T := taOf W K } : Zx).fad d.num = He.ga K (Str.ofString d.name) := fad_of hn hd
  rw [hz] at lk
  have ec : He.codeOf K (Str.ofString d.name, none) = cc := He.codeOf_eq (p := (Str.ofString d.name, none)) lk hcc
  have hm : (Str.ofString d.name, none) ∈ tfOf W := List.mem_map.mpr ⟨d.name, hdl, rfl⟩
  have tb := hTB _ (List.mem_map.mpr ⟨_, hm, rfl⟩)
  have e1 : (He.cT K (Str.ofString d.name, none)).1 = cc := ec
  rw [e1] at tb
  refine ⟨_, tb, List.mem_map.mpr ⟨d.name, hdl, rfl⟩, fun p hp ep => ?_⟩
  obtain ⟨x, hx, rfl⟩ := List.mem_map.mp hp
  obtain ⟨cm1, _⟩ := band2 c.more
  obtain ⟨_, cm3⟩ := band2 cm1
  obtain ⟨_, cm4⟩ := band2 cm3
  have := List.all_eq_true.mp (List.all_eq_true.mp cm4 x hx) d.name hdl
  have ep : (He.cT K (Str.ofString x, none)).2 = (He.cT K (Str.ofString d.name, none)).2 := ep
  rw [decide_eq_true ep] at this
  have ex : x = d.name := by simpa using this
  rw [ex]
/-- the end: a law whose defs are checked, and which is worth True in the language -/
theorem law_at {l : PySem.W.OpenLaw} {dl : DefI} {n m : Nat} {fa : Addr} {x : Str} (X : K.In h) (G : h.Ns mainGlobals mg) (hm : mg (Str.ofString dl.name) = some (.ref fa)) (c : He.SaysX (faOf W ds) (fnD ds) (tsOf W) (tfOf W) (exOf W) w h K)
    (hchk : allB W ds ls = true) (hg : globsB W = true) (hn : numsB ds = true) (hb : ∀ d ∈ ds, BindsAt d) (hdl : dl ∈ ds) (hnh : dl.hot = false) (ha : dl.ar = 1) (hx : dl.N.take 1 = [x]) (ho : dl.ow = false)
    (pure : ∀ ns : List Int, ns.length ≤ n → (∀ z ∈ ns, Builtin.Int.intBits z ≤ 1048576) → tab ds ls m dl.num [.scr ns] = .ok (.bl true)) :
    LamX.LawAtS l w K (L2N.CX l.prog w) m n x mg fa h := by
  have M : Md W { zx K W ds ls with T := taOf W K } K mg w := md_of X G c (fun _ h => h) hg
  have D : DefsAt { zx K W ds ls with T := taOf W K } K mg ds := defs_of X G c (fun _ h => h) (fun _ h => h) hn hb
  obtain ⟨fd0, F0, B0, e0⟩ := D dl hdl
  have hfa : ({ zx K W ds ls with T := taOf W K } : Zx).fad dl.num = fa := by
    rw [hm] at e0
    cases e0
    rfl
  refine ⟨fd0, csOf W K, spOf { zx K W ds ls with T := taOf W K } K 1 false (tab ds ls m dl.num), fun p hp => ?_, fun p hp => ?_, fun p hp => ?_, fun s u => ?_, fun H a ns hlen hbits hT hS => ?_, fun base KB GB hTB => ?_⟩
  · obtain ⟨q, hq, rfl⟩ := List.mem_map.mp hp
    exact c.empty q hq
  · obtain ⟨q, hq, rfl⟩ := List.mem_map.mp hp
    exact c.out q hq
  · obtain ⟨q, hq, rfl⟩ := List.mem_map.mp hp
    exact PySem.W.codeHd_of_K X (c.hd q hq)
  · have b := FunD.bindsA (ps := dl.N.take dl.ar) F0 (hb dl hdl) s [u] (by rw [ha, hx]; rfl)
    rw [ha, hx] at b
    exact b
  · refine ⟨rfl, fun p hp => ?_, [.scr ns], ⟨_, _, rfl, ⟨a, rfl, hS⟩, rfl⟩, ?_⟩
    · obtain ⟨x, hx, rfl⟩ := List.mem_map.mp hp
      exact LamX.TabS.nil (hT _ (List.mem_map.mpr ⟨_, List.mem_map.mpr ⟨x, hx, rfl⟩, rfl⟩))
    · rw [pure ns hlen hbits]
      exact fun v H' _ hv => hv
  · have LM : LmOk W { zx K W ds ls with T := taOf W K } K mg base ds := lm_of c hn hTB
    have k1 := (all_kept (P := l.prog) (w := w) (base := base) M D LM hchk rfl rfl m).fns dl hdl hnh fd0 F0 [] [] none
    rw [hfa, ha, hx, ho] at k1
    exact k1
/-- a world whose answer at the row that dict displays ask is fixed -/
def setF (f : String → Bool) (b : Bool) : String → Bool := fun s => match decide (s = "special-get-raises") with
  | true => b
  | false => f s
def setW (w : World) (b : Bool) : World := ⟨w.draws, {w.params with followText := setF w.params.followText b}⟩
theorem setW_eq (w : World) : setW w (w.params.followText "special-get-raises") = w := by
  obtain ⟨d, p⟩ := w
  show (⟨d, _⟩ : World) = ⟨d, p⟩
  congr 1
  obtain ⟨⟩ := p
  dsimp only
  congr 1
  funext s
  unfold setF
  cases h : decide (s = "special-get-raises") with
  | true => have := of_decide_eq_true h; subst this; rfl
  | false => rfl
theorem by_setW {P : World → Prop} (h1 : ∀ w, P (setW w true)) (h2 : ∀ w, P (setW w false)) (w : World) : P w := by
  have e := setW_eq w
  cases h : w.params.followText "special-get-raises" with
  | true => rw [h] at e; rw [← e]; exact h1 w
  | false => rw [h] at e; rw [← e]; exact h2 w
end
end OS

end
section
set_option Elab.async false
set_option linter.all false
set_option maxRecDepth 100000
namespace Mi
open PySem O Bd
abbrev Tx := List Nat
/-! ### results -/
@[simp] theorem bind_ite {A B : Type} {p : Prop} [Decidable p] {x y : R A} {f : A → R B} : (if p then x else y).bind f = if p then x.bind f else y.bind f := by split <;> rfl
@[simp] theorem fl_ite {A : Type} {p : Prop} [Decidable p] {x y : R A} {f : A → Fl} : (if p then x else y).fl f = if p then x.fl f else y.fl f := by split <;> rfl
@[simp] theorem then_next {r : O.St} {f : O.St → Fl} : (Fl.next r).andThen f = f r := rfl
@[simp] theorem then_ret {p : PV} {f : O.St → Fl} : (Fl.ret p).andThen f = .ret p := rfl
@[simp] theorem then_exc {k : Nat} {f : O.St → Fl} : (Fl.exc k).andThen f = .exc k := rfl
@[simp] theorem then_brk {r : O.St} {f : O.St → Fl} : (Fl.brk r).andThen f = .brk r := rfl
@[simp] theorem then_bad {f : O.St → Fl} : (Fl.bad).andThen f = .bad := rfl
@[simp] theorem then_ite {p : Prop} [Decidable p] {x y : Fl} {f : O.St → Fl} : (if p then x else y).andThen f = if p then x.andThen f else y.andThen f := by split <;> rfl
@[simp] theorem then_id {x : Fl} : (x.andThen fun r => Fl.next r) = x := by cases x <;> rfl
def res : Fl → R PV
  | .ret p => .ok p
  | .next _ => .ok .non
  | .exc k => .exc k
  | _ => .bad
@[simp] theorem res_ret {p : PV} : res (.ret p) = .ok p := rfl
@[simp] theorem res_next {r : O.St} : res (.next r) = .ok .non := rfl
@[simp] theorem res_exc {k : Nat} : res (.exc k) = .exc k := rfl
@[simp] theorem res_ite {p : Prop} [Decidable p] {x y : Fl} : res (if p then x else y) = if p then res x else res y := by split <;> rfl
def resW : Fl → R PV
  | .ret (.tup (.lst xs :: qs)) => .ok (.tup (.lst xs :: qs))
  | .exc k => .exc k
  | _ => .bad
@[simp] theorem resW_ret {xs qs : List PV} : resW (.ret (.tup (.lst xs :: qs))) = .ok (.tup (.lst xs :: qs)) := rfl
@[simp] theorem resW_exc {k : Nat} : resW (.exc k) = .exc k := rfl
@[simp] theorem resW_ite {p : Prop} [Decidable p] {x y : Fl} : resW (if p then x else y) = if p then resW x else resW y := by split <;> rfl
@[simp] theorem run_eq {F : Fs} {n : Nat} {b : List Sm} {ps : List PV} : O.run F n b ps = res (exB F b (ps.map .v ++ List.replicate (n - ps.length) .un)) := rfl
@[simp] theorem runW_eq {F : Fs} {n : Nat} {b : List Sm} {ps : List PV} : O.runW F n b ps = resW (exB F b (ps.map .v ++ List.replicate (n - ps.length) .un)) := rfl
/-! ### truth -/
@[simp] theorem asBl_bl {b : Bool} : asBl (.bl b) = .ok b := rfl
@[simp] theorem asStr_str {b : Tx} : asStr (.str b) = .ok b := rfl
def ifP : PV → Fl → Fl → Fl
  | .bl b, x, y => if b then x else y
  | _, _, _ => .bad
@[simp] theorem ifP_bl {b : Bool} {x y : Fl} : ifP (.bl b) x y = if b then x else y := rfl
def isNon : PV → Bool
  | .non => true
  | _ => false
@[simp] theorem isNon_non : isNon .non = true := rfl
@[simp] theorem isNon_bl {b : Bool} : isNon (.bl b) = false := rfl
@[simp] theorem isNon_int {b : Int} : isNon (.int b) = false := rfl
@[simp] theorem isNon_str {b : Tx} : isNon (.str b) = false := rfl
@[simp] theorem isNon_tup {b : List PV} : isNon (.tup b) = false := rfl
@[simp] theorem isNon_lst {b : List PV} : isNon (.lst b) = false := rfl
@[simp] theorem isNon_ite {p : Prop} [Decidable p] {x y : PV} : isNon (if p then x else y) = if p then isNon x else isNon y := by split <;> rfl
@[simp] theorem ok_ite {A : Type} {p : Prop} [Decidable p] {x y : A} : (R.ok (if p then x else y)) = if p then R.ok x else R.ok y := by split <;> rfl
theorem bl_tf {p : Prop} [Decidable p] : (if p then R.ok (PV.bl true) else R.ok (PV.bl false)) = R.ok (PV.bl (decide p)) := by by_cases h : p <;> simp [h]
@[simp] theorem bl_and {p : Prop} [Decidable p] {c : Bool} : (if p then R.ok (PV.bl c) else R.ok (PV.bl false)) = R.ok (PV.bl (decide p && c)) := by by_cases h : p <;> simp [h]
@[simp] theorem bl_or {p : Prop} [Decidable p] {c : Bool} : (if p then R.ok (PV.bl true) else R.ok (PV.bl c)) = R.ok (PV.bl (decide p || c)) := by by_cases h : p <;> simp [h]
@[simp] theorem bl_nand {p : Prop} [Decidable p] {c : Bool} : (if p then R.ok (PV.bl false) else R.ok (PV.bl c)) = R.ok (PV.bl (!decide p && c)) := by by_cases h : p <;> simp [h]
/-! ### slots -/
def get (r : O.St) (i : Nat) : R PV := match r[i]? with | some (.v p) => .ok p | _ => .bad
def getB (r : O.St) (i : Nat) : R PV := match r[i]? with | some (.v p) => .ok p | some (.ow xs) => .ok (.lst xs) | _ => .bad
def getW (r : O.St) (i : Nat) : R (List PV) := match r[i]? with | some (.ow xs) => .ok xs | _ => .bad
def getD (r : O.St) (i : Nat) : R (List (Tx × PV)) := match r[i]? with | some (.od xs) => .ok xs | _ => .bad
@[simp] theorem get_0 {r : O.St} {p : PV} : get (.v p :: r) 0 = .ok p := rfl
@[simp] theorem get_s {r : O.St} {s : SV} {i : Nat} : get (s :: r) (i + 1) = get r i := rfl
@[simp] theorem getB_0 {r : O.St} {p : PV} : getB (.v p :: r) 0 = .ok p := rfl
@[simp] theorem getB_0w {r : O.St} {xs : List PV} : getB (.ow xs :: r) 0 = .ok (.lst xs) := rfl
@[simp] theorem getB_s {r : O.St} {s : SV} {i : Nat} : getB (s :: r) (i + 1) = getB r i := rfl
@[simp] theorem getW_0 {r : O.St} {xs : List PV} : getW (.ow xs :: r) 0 = .ok xs := rfl
@[simp] theorem getW_s {r : O.St} {s : SV} {i : Nat} : getW (s :: r) (i + 1) = getW r i := rfl
@[simp] theorem getD_0 {r : O.St} {xs : List (Tx × PV)} : getD (.od xs :: r) 0 = .ok xs := rfl
@[simp] theorem getD_s {r : O.St} {s : SV} {i : Nat} : getD (s :: r) (i + 1) = getD r i := rfl
section
variable {F : Fs} {r : O.St}
/-! ### expressions -/
@[simp] theorem ev_var {i : Nat} : ev F (.var i) r = get r i := by rw [ev.eq_1]; rfl
@[simp] theorem ev_bor {i : Nat} : ev F (.bor i) r = getB r i := by rw [ev.eq_2]; rfl
@[simp] theorem ev_con {p : PV} : ev F (.con p) r = .ok p := by rw [ev.eq_3]
@[simp] theorem ev_glob {x : String} {p : PV} : ev F (.glob x p) r = .ok p := by rw [ev.eq_4]
@[simp] theorem ev_tup {es : List Ex} : ev F (.tup es) r = (evs F es r).bind fun ps => .ok (.tup ps) := by rw [ev.eq_5]
@[simp] theorem ev_lst {es : List Ex} : ev F (.lst es) r = (evs F es r).bind fun ps => .ok (.lst ps) := by rw [ev.eq_6]
@[simp] theorem ev_bin {o : Bop} {a b : Ex} : ev F (.bin o a b) r = (ev F a r).bind fun p => (ev F b r).bind fun q => bop o p q := by rw [ev.eq_7]
def negP : PV → R PV
  | .int i => .ok (.int (-i))
  | _ => .bad
@[simp] theorem negP_int {i : Int} : negP (.int i) = .ok (.int (-i)) := rfl
@[simp] theorem ev_neg {a : Ex} : ev F (.neg a) r = (ev F a r).bind negP := by rw [ev.eq_8]; rfl
@[simp] theorem ev_cmp {o : Cop} {a b : Ex} : ev F (.cmp o a b) r = (ev F a r).bind fun p => (ev F b r).bind fun q => cop o p q := by rw [ev.eq_9]
@[simp] theorem ev_chain {o1 o2 : Cop} {a b c : Ex} : ev F (.chain o1 o2 a b c) r = (ev F a r).bind fun p => (ev F b r).bind fun q => (cop o1 p q).bind fun z => (asBl z).bind fun k => if k then (ev F c r).bind fun t => cop o2 q t else .ok (.bl false) := by
  rw [ev.eq_10]
  congr 1; funext p; congr 1; funext q; congr 1; funext z
  cases z with
  | bl b => cases b <;> rfl
  | _ => rfl
@[simp] theorem ev_isN {pos : Bool} {a : Ex} : ev F (.isC pos .non a) r = (ev F a r).bind fun p => .ok (.bl (if isNon p then pos else !pos)) := by
  rw [ev.eq_11]
  congr 1; funext p
  cases p <;> rfl
@[simp] theorem ev_isB {pos k : Bool} {a : Ex} : ev F (.isC pos (.bl k) a) r = (ev F a r).bind fun p => (asBl p).bind fun b => .ok (.bl (if b = k then pos else !pos)) := by
  rw [ev.eq_11]
  congr 1; funext p
  cases p <;> rfl
@[simp] theorem ev_band {es : List Ex} : ev F (.band es) r = evAnd F es r := by rw [ev.eq_12]
@[simp] theorem ev_bor_ {es : List Ex} : ev F (.bor_ es) r = evOr F es r := by rw [ev.eq_13]
@[simp] theorem ev_not {a : Ex} : ev F (.not a) r = (ev F a r).bind fun p => (asBl p).bind fun b => .ok (.bl !b) := by rw [ev.eq_14]
@[simp] theorem ev_ite {c a b : Ex} : ev F (.ite c a b) r = (ev F c r).bind fun p => (asBl p).bind fun k => if k then ev F a r else ev F b r := by rw [ev.eq_15]
@[simp] theorem ev_idx {a i : Ex} : ev F (.idx a i) r = (ev F a r).bind fun p => (ev F i r).bind fun q => idx p q := by rw [ev.eq_16]
@[simp] theorem ev_cut {a : Ex} {lo hi : Option Ex} : ev F (.cut a lo hi) r = (ev F a r).bind fun p => (evo F lo r).bind fun l => (evo F hi r).bind fun h => cut p l h := by rw [ev.eq_17]
@[simp] theorem ev_rev {a : Ex} : ev F (.rev a) r = (ev F a r).bind revP := by rw [ev.eq_18]
@[simp] theorem ev_call {k : Nat} {es : List Ex} : ev F (.call k es) r = (evs F es r).bind fun ps => F k ps := by rw [ev.eq_19]
def callP (F : Fs) (ps : R (List PV)) : PV → R PV
  | .fn k => ps.bind fun qs => F k qs
  | _ => .bad
@[simp] theorem callP_fn {k : Nat} {ps : R (List PV)} : callP F ps (.fn k) = ps.bind fun qs => F k qs := rfl
@[simp] theorem ev_callV {f : Ex} {es : List Ex} : ev F (.callV f es) r = (ev F f r).bind fun p => callP F (evs F es r) p := by
  rw [ev.eq_20]
  rfl
@[simp] theorem ev_fnC {k : Nat} : ev F (.fnC k) r = .ok (.fn k) := by rw [ev.eq_21]
def getX (r : O.St) (i k : Nat) : R PV := match r[i]? with | some (.v (.exc j)) => .ok (.bl (subX j k)) | _ => .bad
@[simp] theorem getX_0 {j k : Nat} {r : O.St} : getX (.v (.exc j) :: r) 0 k = .ok (.bl (subX j k)) := rfl
@[simp] theorem getX_s {s : SV} {i k : Nat} {r : O.St} : getX (s :: r) (i + 1) k = getX r i k := rfl
@[simp] theorem ev_isX {i k : Nat} : ev F (.isX i k) r = getX r i k := by rw [ev.eq_36]; rfl
@[simp] theorem ev_bi {b : Bi} {es : List Ex} : ev F (.bi b es) r = (evs F es r).bind fun ps => bi b ps := by rw [ev.eq_22]
@[simp] theorem ev_mt {m : Mt} {o : Ex} {es : List Ex} : ev F (.mt m o es) r = (ev F o r).bind fun p => if mtOk m p then (evs F es r).bind fun ps => mt m p ps else .bad := by rw [ev.eq_23]
@[simp] theorem evs_n : evs F [] r = .ok [] := by rw [evs.eq_1]
@[simp] theorem evs_c {e : Ex} {es : List Ex} : evs F (e :: es) r = (ev F e r).bind fun p => (evs F es r).bind fun ps => .ok (p :: ps) := by rw [evs.eq_2]
@[simp] theorem evAnd_n : evAnd F [] r = .ok (.bl true) := by rw [evAnd.eq_1]
@[simp] theorem evAnd_c {e : Ex} {es : List Ex} : evAnd F (e :: es) r = (ev F e r).bind fun p => (asBl p).bind fun b => if b then evAnd F es r else .ok (.bl false) := by rw [evAnd.eq_2]
@[simp] theorem evOr_n : evOr F [] r = .ok (.bl false) := by rw [evOr.eq_1]
@[simp] theorem evOr_c {e : Ex} {es : List Ex} : evOr F (e :: es) r = (ev F e r).bind fun p => (asBl p).bind fun b => if b then .ok (.bl true) else evOr F es r := by rw [evOr.eq_2]
def asI : PV → R (Option Int)
  | .int i => .ok (some i)
  | _ => .bad
@[simp] theorem asI_int {i : Int} : asI (.int i) = .ok (some i) := rfl
@[simp] theorem evo_n : evo F none r = .ok none := by rw [evo.eq_1]
@[simp] theorem evo_s {e : Ex} : evo F (some e) r = (ev F e r).bind asI := by rw [evo.eq_2]; rfl
/-! ### comprehensions -/
def cmL {A : Type} (f : A → R (Option PV)) : List A → R (List PV)
  | [] => .ok []
  | x :: r => match f x with
    | .ok (some y) => (cmL f r).bind fun ys => .ok (y :: ys)
    | .ok none => cmL f r
    | _ => .bad
@[simp] theorem compL_map {A : Type} {f : PV → R (Option PV)} {g : A → PV} : ∀ {xs : List A}, compL f (xs.map g) = cmL (fun x => f (g x)) xs
  | [] => rfl
  | x :: xs => by
    rw [List.map_cons]
    unfold compL cmL
    rw [compL_map (xs := xs)]
    all_goals rfl
theorem cmL_congr {A : Type} {f g : A → R (Option PV)} {xs ys : List A} (h : xs = ys) (hf : ∀ x, x ∈ ys → f x = g x) : cmL f xs = cmL g ys := by
  subst h
  induction xs with
  | nil => rfl
  | cons x xs ih =>
    unfold cmL
    rw [hf x (List.mem_cons_self ..), ih fun y hy => hf y (List.mem_cons_of_mem _ hy)]
@[simp] theorem cmL_some {A : Type} {t : A → PV} : ∀ {xs : List A}, cmL (fun x => .ok (some (t x))) xs = .ok (xs.map t)
  | [] => rfl
  | x :: xs => by
    unfold cmL
    rw [cmL_some (xs := xs)]; rfl
@[simp] theorem cmL_ite {A : Type} {p : A → Prop} [DecidablePred p] {t : A → PV} : ∀ {xs : List A}, cmL (fun x => if p x then .ok (some (t x)) else .ok none) xs = .ok ((xs.filter fun x => decide (p x)).map t)
  | [] => rfl
  | x :: xs => by
    unfold cmL
    rw [cmL_ite (xs := xs)]
    by_cases h : p x <;> simp [h]
@[simp] theorem cmL_ite' {A : Type} {p : A → Prop} [DecidablePred p] {t : A → PV} {xs : List A} : cmL (fun x => if p x then .ok none else .ok (some (t x))) xs = .ok ((xs.filter fun x => !decide (p x)).map t) := by
  have := cmL_ite (p := fun x => ¬ p x) (t := t) (xs := xs)
  simpa using this
theorem cmL_of {A : Type} {f : A → R (Option PV)} {t : A → PV} {xs : List A} (h : ∀ x ∈ xs, f x = .ok (some (t x))) : cmL f xs = .ok (xs.map t) := by rw [cmL_congr rfl h, cmL_some]
theorem cmL_if {A : Type} {f : A → R (Option PV)} {t : A → PV} {p : A → Bool} {xs : List A} (h : ∀ x ∈ xs, f x = if p x then .ok (some (t x)) else .ok none) : cmL f xs = .ok ((xs.filter p).map t) := by
  rw [cmL_congr rfl h, cmL_ite]
  simp
theorem compL_of {f : PV → R (Option PV)} {t : PV → PV} {xs : List PV} (h : ∀ x ∈ xs, f x = .ok (some (t x))) : compL f xs = .ok (xs.map t) := by
  have := compL_map (g := id) (f := f) (xs := xs)
  rw [List.map_id] at this
  rw [this]
  exact cmL_of h
@[simp] theorem ev_comp {elt : Ex} {tg : Tg} {ik : IK} {ies ifs : List Ex} : ev F (.comp elt tg ik ies ifs) r = (evs F ies r).bind fun ps => (walk ik ps).bind fun xs =>
      (compL (fun x => (bindT tg x r).bind fun r' => (evAnd F ifs r').bind fun p => (asBl p).bind fun b => if b then (ev F elt r').bind fun y => .ok (some y) else .ok none) xs).bind fun ys => .ok (.lst ys) := by rw [ev.eq_24]
/-! ### statements -/
@[simp] theorem exB_n : exB F [] r = .next r := by rw [exB.eq_1]
@[simp] theorem exB_c {s : Sm} {ss : List Sm} : exB F (s :: ss) r = (exS F s r).andThen fun r' => exB F ss r' := by rw [exB.eq_2]
theorem exB_app {a b : List Sm} : exB F (a ++ b) r = (exB F a r).andThen fun r' => exB F b r' := by
  induction a generalizing r with
  | nil => simp
  | cons s a ih =>
    rw [List.cons_append, exB_c, exB_c]
    cases exS F s r with
    | next r' => exact ih
    | _ => rfl
def onL : PV → (List PV → Fl) → Fl
  | .lst xs, f => f xs
  | _, _ => .bad
@[simp] theorem onL_lst {xs : List PV} {f : List PV → Fl} : onL (.lst xs) f = f xs := rfl
def onT : PV → (List PV → Fl) → Fl
  | .tup xs, f => f xs
  | _, _ => .bad
@[simp] theorem onT_tup {xs : List PV} {f : List PV → Fl} : onT (.tup xs) f = f xs := rfl
def onI : PV → (Int → Fl) → Fl
  | .int xs, f => f xs
  | _, _ => .bad
@[simp] theorem onI_int {xs : Int} {f : Int → Fl} : onI (.int xs) f = f xs := rfl
@[simp] theorem ex_asgF {i : Nat} {e : Ex} : exS F (.asg i false e) r = (ev F e r).fl fun p => .next (r.set i (.v p)) := by rw [exS.eq_1]; rfl
@[simp] theorem ex_asgT {i : Nat} {e : Ex} : exS F (.asg i true e) r = (ev F e r).fl fun p => onL p fun xs => .next (r.set i (.ow xs)) := by
  rw [exS.eq_1]
  congr 1; funext p
  cases p <;> rfl
def layN : List (Nat × Bool) → List PV → O.St → Fl
  | [], [], r => .next r
  | (i, false) :: ts, p :: ps, r => layN ts ps (r.set i (.v p))
  | (i, true) :: ts, p :: ps, r => onL p fun xs => layN ts ps (r.set i (.ow xs))
  | _, _, _ => .bad
theorem layN_eq : ∀ {ts : List (Nat × Bool)} {ps : List PV} {r : O.St}, (match layL ts ps r with | some r' => Fl.next r' | none => .bad) = layN ts ps r
  | [], [], r => rfl
  | [], _ :: _, r => rfl
  | (i, false) :: ts, [], r => rfl
  | (i, true) :: ts, [], r => rfl
  | (i, false) :: ts, p :: ps, r => by
    show (match layL ts ps (r.set i (.v p)) with | some r' => Fl.next r' | none => .bad) = _
    rw [layN_eq]; rfl
  | (i, true) :: ts, p :: ps, r => by
    cases p with
    | lst xs =>
      show (match layL ts ps (r.set i (.ow xs)) with | some r' => Fl.next r' | none => .bad) = _
      rw [layN_eq]; rfl
    | _ => rfl
@[simp] theorem layN_n : layN [] [] r = .next r := rfl
@[simp] theorem layN_f {i : Nat} {ts : List (Nat × Bool)} {p : PV} {ps : List PV} : layN ((i, false) :: ts) (p :: ps) r = layN ts ps (r.set i (.v p)) := rfl
@[simp] theorem layN_t {i : Nat} {ts : List (Nat × Bool)} {p : PV} {ps : List PV} : layN ((i, true) :: ts) (p :: ps) r = onL p fun xs => layN ts ps (r.set i (.ow xs)) := rfl
@[simp] theorem ex_asgs {ts : List (Nat × Bool)} {e : Ex} : exS F (.asgs ts e) r = (ev F e r).fl fun p => onT p fun ps => layN ts ps r := by
  rw [exS.eq_2]
  congr 1; funext p
  cases p with
  | tup ps => exact layN_eq
  | _ => rfl
@[simp] theorem ex_par {ts : List (Nat × Bool)} {es : List Ex} : exS F (.par ts es) r = (evs F es r).fl fun ps => layN ts ps r := by
  rw [exS.eq_3]
  congr 1; funext p
  exact layN_eq
@[simp] theorem ex_dnew {i : Nat} : exS F (.dnew i none) r = .next (r.set i (.od [])) := by rw [exS.eq_4]
@[simp] theorem ex_app {i : Nat} {e : Ex} : exS F (.app i e) r = (getW r i).fl fun xs => (ev F e r).fl fun p => if lim xs.length then .next (r.set i (.ow (xs ++ [p]))) else .bad := by
  rw [exS.eq_7]
  unfold getW
  split <;> simp_all
@[simp] theorem ex_ext {i : Nat} {e : Ex} : exS F (.ext i e) r = (getW r i).fl fun xs => (ev F e r).fl fun p => onL p fun ys => if lim (xs.length + ys.length) then .next (r.set i (.ow (xs ++ ys))) else .bad := by
  rw [exS.eq_8]
  unfold getW
  split
  · rename_i xs e
    simp only [e, R.fl_ok]
    congr 1; funext p
    cases p <;> rfl
  · simp_all
@[simp] theorem ex_setL {i : Nat} {k e : Ex} : exS F (.setL i k e) r = (ev F e r).fl fun p => (getW r i).fl fun xs => (ev F k r).fl fun q => onI q fun n => match ixN xs.length n with | some j => .next (r.set i (.ow (xs.set j p))) | none => .bad := by
  rw [exS.eq_9]
  congr 1; funext p
  unfold getW
  split
  · rename_i xs e
    simp only [e, R.fl_ok]
    congr 1; funext p
    cases p <;> rfl
  · simp_all
@[simp] theorem ex_exp {e : Ex} : exS F (.exp e) r = (ev F e r).fl fun _ => .next r := by rw [exS.eq_11]
@[simp] theorem ex_ret {e : Ex} : exS F (.ret e) r = (ev F e r).fl fun p => .ret p := by rw [exS.eq_12]
@[simp] theorem ex_retO {e : Ex} {es : List Ex} : exS F (.retO e es) r = (own0 F e r).fl fun xs => (evs F es r).fl fun ps => .ret (.tup (.lst xs :: ps)) := by rw [exS.eq_13]
@[simp] theorem own0_bor {i : Nat} : own0 F (.bor i) r = getW r i := rfl
def asLs : PV → R (List PV)
  | .lst xs => .ok xs
  | _ => .bad
@[simp] theorem asLs_lst {xs : List PV} : asLs (.lst xs) = .ok xs := rfl
@[simp] theorem own0_bin {o : Bop} {a b : Ex} : own0 F (.bin o a b) r = (ev F (.bin o a b) r).bind asLs := rfl
@[simp] theorem ex_ife {c : Ex} {a b : List Sm} : exS F (.ife c a b) r = (ev F c r).fl fun p => ifP p (exB F a r) (exB F b r) := by
  rw [exS.eq_14]
  congr 1; funext p
  cases p with
  | bl k => cases k <;> rfl
  | _ => rfl
/-- a for over items -/
def forE (F : Fs) (tg : Tg) (body : List Sm) (xs : List PV) (r : O.St) : Fl := forL (fun x r' => (bindT tg x r').fl fun r'' => exB F body r'') xs r
def whE (F : Fs) (c : Ex) (body : List Sm) (n : Nat) (r : O.St) : Fl := whlL (fun r' => ev F c r') (fun r' => exB F body r') n r
@[simp] theorem ex_for {tg : Tg} {ik : IK} {ies : List Ex} {body : List Sm} : exS F (.for_ tg ik ies body) r = (evs F ies r).fl fun ps => (walk ik ps).fl fun xs => forE F tg body xs r := by rw [exS.eq_15]; rfl
@[simp] theorem ex_whl {c : Ex} {body : List Sm} : exS F (.whl c body) r = whE F c body 5000 r := by rw [exS.eq_16]; rfl
@[simp] theorem ex_brk : exS F .brk r = .brk r := by rw [exS.eq_17]
@[simp] theorem ex_doc : exS F .doc r = .next r := by rw [exS.eq_18]
@[simp] theorem ex_rai {k : Nat} : exS F (.rai k) r = .exc k := by rw [exS.eq_19]
def cleanF : Fl → Fl
  | .ret p => if p.clean then .ret p else .bad
  | _ => .bad
@[simp] theorem cleanF_ret {p : PV} : cleanF (.ret p) = if p.clean then .ret p else .bad := rfl
@[simp] theorem cleanF_ite {p : Prop} [Decidable p] {x y : Fl} : cleanF (if p then x else y) = if p then cleanF x else cleanF y := by split <;> rfl
def tryR (ks : List Nat) : Fl → (Nat → Fl) → Fl
  | .exc k, f => if k ∈ ks then cleanF (f k) else .bad
  | x, _ => x
@[simp] theorem tryR_next {ks : List Nat} {r : O.St} {f : Nat → Fl} : tryR ks (.next r) f = .next r := rfl
@[simp] theorem tryR_ret {ks : List Nat} {r : PV} {f : Nat → Fl} : tryR ks (.ret r) f = .ret r := rfl
@[simp] theorem tryR_exc {ks : List Nat} {k : Nat} {f : Nat → Fl} : tryR ks (.exc k) f = if k ∈ ks then cleanF (f k) else .bad := rfl
@[simp] theorem tryR_ite {ks : List Nat} {p : Prop} [Decidable p] {x y : Fl} {f : Nat → Fl} : tryR ks (if p then x else y) f = if p then tryR ks x f else tryR ks y f := by split <;> rfl
@[simp] theorem ex_try {ks : List Nat} {body suite : List Sm} {i : Nat} : exS F (.tryE ks body i suite) r = tryR ks (exB F body r) fun k => exB F suite (List.replicate i .un ++ [.v (.exc k)]) := by
  rw [exS.eq_21]
  cases exB F body r with
  | exc k =>
    simp only [tryR_exc]
    split
    · cases exB F suite (List.replicate i .un ++ [.v (.exc k)]) <;> rfl
    · rfl
  | _ => rfl
def frzS : O.St → Nat → O.St := fun r i => match r[i]? with | some (.ow xs) => r.set i (.v (.lst xs)) | _ => r
@[simp] theorem ex_frz {i : Nat} : exS F (.frz i) r = .next (frzS r i) := by
  rw [exS.eq_20]; unfold frzS
  cases r[i]? with
  | none => rfl
  | some s => cases s <;> rfl
@[simp] theorem frz_0w {xs : List PV} : frzS (.ow xs :: r) 0 = .v (.lst xs) :: r := rfl
@[simp] theorem frz_0v {p : PV} : frzS (.v p :: r) 0 = .v p :: r := rfl
@[simp] theorem frz_0u : frzS (.un :: r) 0 = .un :: r := rfl
@[simp] theorem frz_s {s : SV} {i : Nat} : frzS (s :: r) (i + 1) = s :: frzS r i := by
  unfold frzS
  rw [List.getElem?_cons_succ]
  cases r[i]? with
  | none => rfl
  | some s => cases s <;> rfl
end
/-! ### targets -/
@[simp] theorem bindT_one {i : Nat} {p : PV} {r : O.St} : bindT (.one i) p r = .ok (r.set i (.v p)) := rfl
def bindR : List Nat → List PV → O.St → R O.St
  | [], [], r => .ok r
  | i :: is, p :: ps, r => bindR is ps (r.set i (.v p))
  | _, _, _ => .bad
theorem bindR_eq : ∀ {is : List Nat} {ps : List PV} {r : O.St}, (match O.bindL is ps r with | some r' => R.ok r' | none => .bad) = bindR is ps r
  | [], [], r => rfl
  | [], _ :: _, r => rfl
  | i :: is, [], r => rfl
  | i :: ts, p :: ps, r => by
    show (match O.bindL ts ps (r.set i (.v p)) with | some r' => R.ok r' | none => .bad) = _
    rw [bindR_eq]; rfl
@[simp] theorem bindT_tup {is : List Nat} {ps : List PV} {r : O.St} : bindT (.tup is) (.tup ps) r = bindR is ps r := bindR_eq
@[simp] theorem bindR_n {r : O.St} : bindR [] [] r = .ok r := rfl
@[simp] theorem bindR_c {i : Nat} {is : List Nat} {p : PV} {ps : List PV} {r : O.St} : bindR (i :: is) (p :: ps) r = bindR is ps (r.set i (.v p)) := rfl
/-! ### what is walked -/
@[simp] theorem lim_lit {n : Nat} : lim (no_index (OfNat.ofNat n)) = decide (n ≤ 1000000) := rfl
@[simp] theorem lim_0 : lim 0 = true := rfl
@[simp] theorem lim_1 : lim 1 = true := rfl
@[simp] theorem small_lit {n : Nat} : small (no_index (OfNat.ofNat n)) = decide (n ≤ 1000000) := by
  unfold small
  rw [show (OfNat.ofNat n : Int) = ((n : Nat) : Int) from rfl, Bool.eq_iff_iff]
  simp
  omega
@[simp] theorem small_0 : small 0 = true := rfl
@[simp] theorem small_1 : small 1 = true := rfl
theorem lim_le {n : Nat} (h : n ≤ 1000000) : lim n = true := by simp [lim, h]
@[simp] theorem items_tup {xs : List PV} : items (.tup xs) = some xs := rfl
@[simp] theorem items_lst {xs : List PV} : items (.lst xs) = some xs := rfl
@[simp] theorem items_str {s : Tx} : items (.str s) = some (s.map fun c => .str [c]) := rfl
@[simp] theorem seq_tup {xs : List PV} : seqOf (.tup xs) = some xs := rfl
@[simp] theorem seq_lst {xs : List PV} : seqOf (.lst xs) = some xs := rfl
@[simp] theorem walk_tup {xs : List PV} : walk .val [.tup xs] = if lim xs.length then .ok xs else .bad := rfl
@[simp] theorem walk_lst {xs : List PV} : walk .val [.lst xs] = if lim xs.length then .ok xs else .bad := rfl
@[simp] theorem walk_str {s : Tx} : walk .val [.str s] = if lim s.length then .ok (s.map fun c => .str [c]) else .bad := by
  show (if lim (s.map fun c => PV.str [c]).length then R.ok (s.map fun c => PV.str [c]) else .bad) = _
  rw [List.length_map]
@[simp] theorem walk_rng1 {j : Int} : walk .rng1 [.int j] = if small j then .ok (rngL 0 j.toNat) else .bad := rfl
@[simp] theorem walk_rng2 {i j : Int} : walk .rng2 [.int i, .int j] = if small i && small j then .ok (rngL i (j - i).toNat) else .bad := rfl
@[simp] theorem walk_enumS {s : Tx} : walk .enum [.str s] = if lim s.length then .ok (enumL 0 (s.map fun c => .str [c])) else .bad := by
  show (if lim (s.map fun c => PV.str [c]).length then R.ok _ else .bad) = _
  rw [List.length_map]
@[simp] theorem walk_enumT {xs : List PV} : walk .enum [.tup xs] = if lim xs.length then .ok (enumL 0 xs) else .bad := rfl
@[simp] theorem walk_enumL {xs : List PV} : walk .enum [.lst xs] = if lim xs.length then .ok (enumL 0 xs) else .bad := rfl
@[simp] theorem walk_zipT {xs ys : List PV} : walk .zip [.tup xs, .tup ys] = if lim xs.length && lim ys.length then .ok (zipL xs ys) else .bad := rfl
@[simp] theorem walk_zipS {xs ys : Tx} : walk .zip [.str xs, .str ys] = if lim xs.length && lim ys.length then .ok (zipL (xs.map fun c => .str [c]) (ys.map fun c => .str [c])) else .bad := by
  show (if lim (xs.map fun c => PV.str [c]).length && lim (ys.map fun c => PV.str [c]).length then R.ok _ else .bad) = _
  rw [List.length_map, List.length_map]
@[simp] theorem zipL_map {A B : Type} {f : A → PV} {g : B → PV} : ∀ {xs : List A} {ys : List B}, zipL (xs.map f) (ys.map g) = (xs.zip ys).map fun p => .tup [f p.1, g p.2]
  | [], _ => by simp [zipL]
  | _ :: _, [] => by simp [zipL]
  | x :: xs, y :: ys => by
    rw [List.map_cons, List.map_cons, List.zip_cons_cons, List.map_cons]
    unfold zipL
    rw [zipL_map]
@[simp] theorem enumL_n {n : Nat} : enumL n [] = [] := rfl
@[simp] theorem enumL_c {n : Nat} {x : PV} {xs : List PV} : enumL n (x :: xs) = .tup [.int n, x] :: enumL (n + 1) xs := rfl
/-! ### operators -/
@[simp] theorem add_int {i j : Int} : bop .add (.int i) (.int j) = .ok (.int (i + j)) := rfl
@[simp] theorem add_str {x y : Tx} : bop .add (.str x) (.str y) = if lim (x.length + y.length) then .ok (.str (x ++ y)) else .bad := rfl
@[simp] theorem add_tup {x y : List PV} : bop .add (.tup x) (.tup y) = if lim (x.length + y.length) then .ok (.tup (x ++ y)) else .bad := rfl
@[simp] theorem add_lst {x y : List PV} : bop .add (.lst x) (.lst y) = if lim (x.length + y.length) then .ok (.lst (x ++ y)) else .bad := rfl
@[simp] theorem sub_int {i j : Int} : bop .sub (.int i) (.int j) = .ok (.int (i - j)) := rfl
@[simp] theorem mul_int {i j : Int} : bop .mul (.int i) (.int j) = if b64 i || b64 j then .ok (.int (i * j)) else .bad := rfl
@[simp] theorem mul_lst {x : List PV} {j : Int} : bop .mul (.lst x) (.int j) = if small j && lim (x.length * j.toNat) then .ok (.lst (rep j.toNat x)) else .bad := rfl
@[simp] theorem fdiv_int {i j : Int} : bop .fdiv (.int i) (.int j) = if 0 < j ∧ j ≤ 1000000000000000000 then .ok (.int (i / j)) else .bad := rfl
@[simp] theorem mod_int {i j : Int} : bop .mod (.int i) (.int j) = if 0 < j then .ok (.int (i % j)) else .bad := rfl
@[simp] theorem pow_int {i j : Int} : bop .pow (.int i) (.int j) = if 0 ≤ j ∧ j ≤ 1000 ∧ i.natAbs < 2 ^ 64 then .ok (.int (i ^ j.toNat)) else .bad := rfl
@[simp] theorem shl_int {i j : Int} : bop .shl (.int i) (.int j) = if 0 ≤ j ∧ j ≤ 1000 ∧ i.natAbs < 2 ^ 64 then .ok (.int (i * 2 ^ j.toNat)) else .bad := rfl
@[simp] theorem cop_eq {x y : PV} : cop .eq x y = (eqP x y).bind fun b => .ok (.bl b) := rfl
@[simp] theorem cop_ne {x y : PV} : cop .ne x y = (eqP x y).bind fun b => .ok (.bl !b) := rfl
@[simp] theorem cop_in {x y : PV} : cop .isin x y = (isIn x y).bind fun b => .ok (.bl b) := rfl
@[simp] theorem cop_notin {x y : PV} : cop .notin x y = (isIn x y).bind fun b => .ok (.bl !b) := rfl
@[simp] theorem lt_int {i j : Int} : cop .lt (.int i) (.int j) = .ok (.bl (decide (i < j))) := rfl
@[simp] theorem lt_str {i j : Tx} : cop .lt (.str i) (.str j) = .ok (.bl (decide (i < j))) := rfl
@[simp] theorem le_int {i j : Int} : cop .le (.int i) (.int j) = .ok (.bl (decide (i ≤ j))) := rfl
@[simp] theorem gt_int {i j : Int} : cop .gt (.int i) (.int j) = .ok (.bl (decide (j < i))) := rfl
@[simp] theorem ge_int {i j : Int} : cop .ge (.int i) (.int j) = .ok (.bl (decide (j ≤ i))) := rfl
@[simp] theorem eq_ss {x y : Tx} : eqP (.str x) (.str y) = .ok (x == y) := rfl
@[simp] theorem eq_ns {y : Tx} : eqP .non (.str y) = .ok false := rfl
@[simp] theorem eq_sn {y : Tx} : eqP (.str y) .non = .ok false := rfl
@[simp] theorem eq_nn : eqP .non .non = .ok true := rfl
@[simp] theorem eq_ii {x y : Int} : eqP (.int x) (.int y) = .ok (x == y) := rfl
@[simp] theorem eq_bb {x y : Bool} : eqP (.bl x) (.bl y) = .ok (x == y) := rfl
@[simp] theorem eq_scr {ns : List Int} : eqP (.scr ns) (.lst []) = .ok ns.isEmpty := rfl
@[simp] theorem eq_l00 : eqP (.lst []) (.lst []) = .ok true := rfl
@[simp] theorem eq_lc0 {x : PV} {xs : List PV} : eqP (.lst (x :: xs)) (.lst []) = if (x :: xs).all (PV.fit 11) then .ok false else .bad := by
  show (if fits (.lst (x :: xs)) && fits (.lst []) then R.ok (PV.beq (.lst (x :: xs)) (.lst [])) else .bad) = _
  simp [fits, PV.fit, PV.beq, PV.beqL]
theorem eqP_fit {x y : PV} (hx : fits x = true) (hy : fits y = true) : eqP x y = .ok (PV.beq x y) := by
  cases x with
  | scr ns => cases hx
  | _ => simp [eqP, hx, hy]
@[simp] theorem in_one {c : Nat} {t : Tx} : isIn (.str [c]) (.str t) = .ok (decide (c ∈ t)) := rfl
/-! ### built-ins -/
@[simp] theorem len_str {s : Tx} : bi .len [.str s] = if lim s.length then .ok (.int s.length) else .bad := rfl
@[simp] theorem len_tup {s : List PV} : bi .len [.tup s] = .ok (.int s.length) := rfl
@[simp] theorem len_lst {s : List PV} : bi .len [.lst s] = .ok (.int s.length) := rfl
@[simp] theorem len_scr {s : List Int} : bi .len [.scr s] = .ok (.int s.length) := rfl
@[simp] theorem tup_lst {s : List PV} : bi .tup [.lst s] = .ok (.tup s) := rfl
@[simp] theorem tup_tup {s : List PV} : bi .tup [.tup s] = .ok (.tup s) := rfl
@[simp] theorem lst_lst {s : List PV} : bi .lst [.lst s] = .ok (.lst s) := rfl
@[simp] theorem lst_tup {s : List PV} : bi .lst [.tup s] = .ok (.lst s) := rfl
@[simp] theorem bools_map {A : Type} {t : A → Bool} : ∀ {xs : List A}, boolsP (xs.map fun x => .bl (t x)) = some (xs.map t)
  | [] => rfl
  | x :: xs => by
    rw [List.map_cons, List.map_cons]
    unfold boolsP
    rw [bools_map]
    rfl
@[simp] theorem all_map {A : Type} {t : A → Bool} {xs : List A} : bi .all [.lst (xs.map fun x => .bl (t x))] = .ok (.bl (xs.all t)) := by
  simp only [bi, allP, bools_map, List.all_map]
  rfl
@[simp] theorem any_map {A : Type} {t : A → Bool} {xs : List A} : bi .any [.lst (xs.map fun x => .bl (t x))] = .ok (.bl (xs.any t)) := by
  simp only [bi, anyP, bools_map, List.any_map]
  rfl
@[simp] theorem strs_map {A : Type} {t : A → Tx} : ∀ {xs : List A}, strsP (xs.map fun x => .str (t x)) = some (xs.map t)
  | [] => rfl
  | x :: xs => by
    rw [List.map_cons, List.map_cons]
    unfold strsP
    rw [strs_map]
    rfl
@[simp] theorem strs_mapS {xs : List Tx} : strsP (xs.map .str) = some xs := by
  have := strs_map (t := id) (xs := xs)
  simpa using this
@[simp] theorem isi_eq {t : Ty} {p : PV} : bi (.isi t) [p] = match isTy t p with | some b => .ok (.bl b) | none => .bad := rfl
@[simp] theorem ty_str {s : Tx} : isTy .str (.str s) = some true := rfl
@[simp] theorem ty_tup {s : List PV} : isTy .tuple (.tup s) = some true := rfl
@[simp] theorem ty_lst {s : List PV} : isTy .list (.lst s) = some true := rfl
@[simp] theorem ty_tupL {s : List PV} : isTy .tuple (.lst s) = some false := rfl
@[simp] theorem ty_lstT {s : List PV} : isTy .list (.tup s) = some false := rfl
@[simp] theorem mtOk_index {s : List PV} : mtOk .index (.lst s) = true := rfl
@[simp] theorem mtOk_join {s : Tx} : mtOk .join (.str s) = true := rfl
@[simp] theorem joinC_nil : ∀ {ss : List Tx}, joinC [] ss = ss.flatten
  | [] => rfl
  | [x] => by simp [joinC]
  | x :: y :: r => by
    show x ++ [] ++ joinC [] (y :: r) = _
    rw [joinC_nil]; simp
@[simp] theorem join_map {A : Type} {s : Tx} {t : A → Tx} {xs : List A} : mt .join (.str s) [.lst (xs.map fun x => .str (t x))] = if lim (((xs.map t).map List.length).sum + xs.length * s.length) then .ok (.str (joinC s (xs.map t))) else .bad := by
  simp [O.mt, joinP, sized]
@[simp] theorem join_mapS {s : Tx} {xs : List Tx} : mt .join (.str s) [.lst (xs.map .str)] = if lim ((xs.map List.length).sum + xs.length * s.length) then .ok (.str (joinC s xs)) else .bad := by
  simp [O.mt, joinP, sized]
/-! ### places -/
theorem atI_nat {A : Type} {xs : List A} {i : Nat} {x : A} (h : xs[i]? = some x) : O.atI xs (i : Int) = some x := by
  have hi : i < xs.length := (List.getElem?_eq_some_iff.mp h).1
  unfold O.atI O.ixN
  rw [if_pos (Int.natCast_nonneg i), if_pos (by exact_mod_cast hi)]
  simpa using h
theorem idx_l {xs : List PV} {i : Nat} {x : PV} (h : xs[i]? = some x) : idx (.lst xs) (.int (i : Int)) = .ok x := by
  unfold idx
  simp only [atI_nat h]
theorem idx_t {xs : List PV} {i : Nat} {x : PV} (h : xs[i]? = some x) : idx (.tup xs) (.int (i : Int)) = .ok x := by
  unfold idx
  simp only [atI_nat h]
theorem idx_s {s : List Nat} {i c : Nat} (h : s[i]? = some c) (hl : s.length ≤ 1000000) : idx (.str s) (.int (i : Int)) = .ok (.str [c]) := by
  unfold idx
  simp [atI_nat h, lim, hl]
theorem idx_ln {xs : List PV} {i : Nat} (h : i < xs.length) : idx (.lst xs) (.int (i : Int)) = .ok xs[i] := idx_l (List.getElem?_eq_getElem h)
theorem idx_tn {xs : List PV} {i : Nat} (h : i < xs.length) : idx (.tup xs) (.int (i : Int)) = .ok xs[i] := idx_t (List.getElem?_eq_getElem h)
@[simp] theorem idx_l0 {x : PV} {xs : List PV} : idx (.lst (x :: xs)) (.int 0) = .ok x := idx_l (i := 0) rfl
@[simp] theorem idx_t0 {x : PV} {xs : List PV} : idx (.tup (x :: xs)) (.int 0) = .ok x := idx_t (i := 0) rfl
@[simp] theorem idx_t1 {x y : PV} {xs : List PV} : idx (.tup (x :: y :: xs)) (.int 1) = .ok y := idx_t (i := 1) rfl
@[simp] theorem idx_t2 {x y z : PV} {xs : List PV} : idx (.tup (x :: y :: z :: xs)) (.int 2) = .ok z := idx_t (i := 2) rfl
@[simp] theorem idx_t3 {x y z u : PV} {xs : List PV} : idx (.tup (x :: y :: z :: u :: xs)) (.int 3) = .ok u := idx_t (i := 3) rfl
theorem atI_last {A : Type} {xs : List A} {x : A} : O.atI (xs ++ [x]) (-1) = some x := by
  unfold O.atI O.ixN
  rw [if_neg (by omega), if_pos (by simp; omega)]
  have : (-1 + ((xs ++ [x]).length : Int)).toNat = xs.length := by simp; omega
  simp only [Option.bind_some, this]
  simp
@[simp] theorem idx_lm {xs : List PV} {x : PV} : idx (.lst (xs ++ [x])) (.int (-1)) = .ok x := by
  unfold idx
  simp only [atI_last]
@[simp] theorem idx_tm {xs : List PV} {x : PV} : idx (.tup (xs ++ [x])) (.int (-1)) = .ok x := by
  unfold idx
  simp only [atI_last]
theorem cutL_from {A : Type} (xs : List A) (i : Nat) : cutL xs (some (i : Int)) none = xs.drop i := by
  have hs : sIx xs.length 0 (some (i : Int)) = min i xs.length := by
    unfold sIx
    dsimp only
    rw [if_neg (by omega)]
    simp
  unfold cutL
  rw [hs]
  show List.take (xs.length - min i xs.length) _ = _
  by_cases h : i ≤ xs.length
  · rw [Nat.min_eq_left h]
    exact List.take_of_length_le (by rw [List.length_drop]; omega)
  · rw [Nat.min_eq_right (by omega), List.drop_eq_nil_of_le (Nat.le_refl _), List.drop_eq_nil_of_le (by omega)]
    simp
theorem cutL_to {A : Type} (xs : List A) (i : Nat) : cutL xs none (some (i : Int)) = xs.take i := by
  have hs : sIx xs.length xs.length (some (i : Int)) = min i xs.length := by
    unfold sIx
    dsimp only
    rw [if_neg (by omega)]
    simp
  unfold cutL
  rw [hs]
  show List.take (min i xs.length - 0) (List.drop 0 xs) = _
  simp only [Nat.sub_zero, List.drop_zero]
  rw [List.take_eq_take_iff]; omega
@[simp] theorem cut_sf {w : Tx} {i : Nat} : cut (.str w) (some (i : Int)) none = if lim w.length then .ok (.str (w.drop i)) else .bad := by
  show (if lim w.length then R.ok (PV.str (cutL w _ _)) else .bad) = _
  rw [cutL_from]
@[simp] theorem cut_sf1 {w : Tx} {i : Nat} : cut (.str w) (some ((i : Int) + 1)) none = if lim w.length then .ok (.str (w.drop (i + 1))) else .bad := cut_sf (i := i + 1)
@[simp] theorem cut_st {w : Tx} {i : Nat} : cut (.str w) none (some (i : Int)) = if lim w.length then .ok (.str (w.take i)) else .bad := by
  show (if lim w.length then R.ok (PV.str (cutL w _ _)) else .bad) = _
  rw [cutL_to]
@[simp] theorem cut_sf_one {w : Tx} : cut (.str w) (some 1) none = if lim w.length then .ok (.str (w.drop 1)) else .bad := cut_sf (i := 1)
@[simp] theorem cut_st_one {w : Tx} : cut (.str w) none (some 1) = if lim w.length then .ok (.str (w.take 1)) else .bad := cut_st (i := 1)
@[simp] theorem cut_tf {w : List PV} {i : Nat} : cut (.tup w) (some (i : Int)) none = .ok (.tup (w.drop i)) := by
  show R.ok (PV.tup (cutL w _ _)) = _
  rw [cutL_from]
@[simp] theorem cut_tf1 {w : List PV} {i : Nat} : cut (.tup w) (some ((i : Int) + 1)) none = .ok (.tup (w.drop (i + 1))) := cut_tf (i := i + 1)
@[simp] theorem cut_tf_one {w : List PV} : cut (.tup w) (some 1) none = .ok (.tup (w.drop 1)) := cut_tf (i := 1)
@[simp] theorem cut_tt {w : List PV} {i : Nat} : cut (.tup w) none (some (i : Int)) = .ok (.tup (w.take i)) := by
  show R.ok (PV.tup (cutL w _ _)) = _
  rw [cutL_to]
/-! ### loops -/
theorem rngL_cons (p : Int) (n : Nat) : rngL p (n + 1) = .int p :: rngL (p + 1) n := by
  unfold rngL
  rw [List.range_succ_eq_map, List.map_cons, List.map_map]
  congr 1
  · simp
  · apply List.map_congr_left
    intro k _
    simp only [Function.comp]
    congr 1
    omega
@[simp] theorem rngL_zero (p : Int) : rngL p 0 = [] := rfl
theorem rngL_map (n : Nat) : rngL 0 n = (List.range n).map fun (k : Nat) => .int (k : Int) := by
  unfold rngL
  apply List.map_congr_left
  intro k _
  simp
@[simp] theorem forE_n {F : Fs} {tg : Tg} {body : List Sm} {r : O.St} : forE F tg body [] r = .next r := rfl
def frNx (f : O.St → Fl) : Fl → Fl
  | .next r' => f r'
  | .brk r' => .next r'
  | z => z
@[simp] theorem frNx_next {f : O.St → Fl} {r : O.St} : frNx f (.next r) = f r := rfl
@[simp] theorem frNx_brk {f : O.St → Fl} {r : O.St} : frNx f (.brk r) = .next r := rfl
@[simp] theorem frNx_ret {f : O.St → Fl} {p : PV} : frNx f (.ret p) = .ret p := rfl
@[simp] theorem frNx_exc {f : O.St → Fl} {p : Nat} : frNx f (.exc p) = .exc p := rfl
@[simp] theorem frNx_ite {f : O.St → Fl} {p : Prop} [Decidable p] {x y : Fl} : frNx f (if p then x else y) = if p then frNx f x else frNx f y := by split <;> rfl
theorem forE_c {F : Fs} {tg : Tg} {body : List Sm} {x : PV} {xs : List PV} {r : O.St} : forE F tg body (x :: xs) r = frNx (fun r' => forE F tg body xs r') ((bindT tg x r).fl fun r'' => exB F body r'') := by
  show (match (bindT tg x r).fl fun r'' => exB F body r'' with | .next r' => forE F tg body xs r' | .brk r' => .next r' | z => z) = _
  cases (bindT tg x r).fl fun r'' => exB F body r'' <;> rfl
/-- a for whose turns all go on -/
theorem forE_keep {F : Fs} {tg : Tg} {body : List Sm} {P : O.St → Prop} : ∀ {xs : List PV} {r : O.St}, (∀ x ∈ xs, ∀ r, P r → ∃ r', ((bindT tg x r).fl fun r'' => exB F body r'') = .next r' ∧ P r') → P r → ∃ r', forE F tg body xs r = .next r' ∧ P r'
  | [], r, _, hp => ⟨r, rfl, hp⟩
  | x :: xs, r, h, hp => by
    obtain ⟨r', e, hp'⟩ := h x (List.mem_cons_self ..) r hp
    obtain ⟨r'', e', hp''⟩ := forE_keep (xs := xs) (fun y hy => h y (List.mem_cons_of_mem _ hy)) hp'
    exact ⟨r'', by rw [forE_c, e, frNx_next, e'], hp''⟩
theorem whE_s {F : Fs} {c : Ex} {body : List Sm} {n : Nat} {r : O.St} : whE F c body (n + 1) r = (ev F c r).fl fun p => ifP p (frNx (fun r' => whE F c body n r') (exB F body r)) (.next r) := by
  show ((ev F c r).fl fun p => match p with
    | .bl true => (match exB F body r with
      | .next r' => whE F c body n r'
      | .brk r' => .next r'
      | z => z)
    | .bl false => .next r
    | _ => .bad) = _
  congr 1; funext p
  cases p with
  | bl k =>
    cases k with
    | false => rfl
    | true =>
      show (match exB F body r with
      | .next r' => whE F c body n r'
      | .brk r' => .next r'
      | z => z) = frNx _ _
      cases exB F body r <;> rfl
  | _ => rfl
end Mi

end
section
set_option Elab.async false
set_option linter.all false
set_option maxRecDepth 100000
namespace Mi
open PySem O Bd
/-! ### dicts -/
section
variable {F : Fs} {r : O.St}
theorem getD_at {A : Type} {i : Nat} {f : List (Tx × PV) → R A} : (match r[i]? with | some (.od kvs) => f kvs | _ => .bad) = (getD r i).bind f := by
  unfold getD
  cases r[i]? with
  | none => rfl
  | some s => cases s <;> rfl
@[simp] theorem ev_dget {i : Nat} {k : Ex} : ev F (.dget i k) r = (getD r i).bind fun kvs => (ev F k r).bind fun p => (asStr p).bind fun x => .ok ((O.dget kvs x).getD .non) := by
  rw [ev.eq_26]
  exact getD_at
@[simp] theorem ev_dgetD {i : Nat} {k d : Ex} : ev F (.dgetD i k d) r = (getD r i).bind fun kvs => (ev F k r).bind fun p => (asStr p).bind fun x => (ev F d r).bind fun q => .ok ((O.dget kvs x).getD q) := by
  rw [ev.eq_27]
  exact getD_at
@[simp] theorem ev_dix {i : Nat} {k : Ex} : ev F (.dix i k) r = (getD r i).bind fun kvs => (ev F k r).bind fun p => (asStr p).bind fun x => match O.dget kvs x with | some v => .ok v | none => .bad := by
  rw [ev.eq_28]
  exact getD_at
@[simp] theorem ev_din {i : Nat} {k : Ex} : ev F (.din i k) r = (ev F k r).bind fun p => (asStr p).bind fun x => (getD r i).bind fun kvs => .ok (.bl (O.dget kvs x).isSome) := by
  rw [ev.eq_29]
  congr 1; funext p; congr 1; funext x
  exact getD_at
@[simp] theorem ev_srtKeys {i : Nat} : ev F (.srtKeys i) r = (getD r i).bind fun kvs => if decide (kvs.length < 64) then .ok (.lst ((sortS (kvs.map (·.1))).map .str)) else .bad := by
  rw [ev.eq_31]
  exact getD_at
@[simp] theorem ev_srtItems {i : Nat} : ev F (.srtItems i) r = (getD r i).bind srtIt := by
  rw [ev.eq_30]
  exact getD_at
@[simp] theorem ev_srtKey0 {a : Ex} : ev F (.srtKey0 a) r = (ev F a r).bind srtK0 := by rw [ev.eq_35]
def strsOf (p : PV) : R (List Tx) := match seqOf p with
  | some xs => (match strsP xs with | some ss => .ok ss | none => .bad)
  | none => .bad
@[simp] theorem strsOf_l {A : Type} {t : A → Tx} {xs : List A} : strsOf (.lst (xs.map fun x => .str (t x))) = .ok (xs.map t) := by simp [strsOf]
@[simp] theorem strsOf_lS {xs : List Tx} : strsOf (.lst (xs.map .str)) = .ok xs := by simp [strsOf]
def onTx (p : PV) (f : List Tx → R PV) : R PV := match p with
  | .lst xs => (match strsP xs with | some ss => f ss | none => .bad)
  | _ => .bad
@[simp] theorem onTx_l {xs : List Tx} {f : List Tx → R PV} : onTx (.lst (xs.map .str)) f = f xs := by
  unfold onTx
  simp only [strs_mapS]
@[simp] theorem ev_srtSet {a : Ex} : ev F (.srtSet a) r = (ev F a r).bind fun p => onTx p fun ss => if sset ss then .ok (.lst ((sortS (nub ss)).map .str)) else .bad := by
  rw [ev.eq_32]; rfl
@[simp] theorem ev_lenSet {a : Ex} : ev F (.lenSet a) r = (ev F a r).bind fun p => onTx p fun ss => if decide (ss.length < 64) then .ok (.int (nub ss).length) else .bad := by
  rw [ev.eq_33]; rfl
@[simp] theorem ex_setD {i : Nat} {k e : Ex} : exS F (.setD i k e) r = (ev F e r).fl fun p => (getD r i).fl fun kvs => (ev F k r).fl fun q => (asStr q).fl fun x => if lim kvs.length then .next (r.set i (.od (dput kvs x p))) else .bad := by
  rw [exS.eq_10]
  congr 1; funext p
  unfold getD
  cases r[i]? with
  | none => rfl
  | some s =>
    cases s with
    | od kvs =>
      simp only [R.fl_ok]
      congr 1; funext q
      cases q <;> rfl
    | _ => rfl
@[simp] theorem mkD_none : mkD F none r = .ok [] := rfl
def pairsR (p : PV) : R (List (Tx × PV)) := match p with
    | .tup xs => (match pairs xs with | some kvs => if lim kvs.length then .ok (kvs.foldl (fun acc kv => dput acc kv.1 kv.2) []) else .bad | none => .bad)
    | _ => .bad
@[simp] theorem mkD_some {e : Ex} : mkD F (some e) r = (ev F e r).bind pairsR := rfl
@[simp] theorem ex_dnewS {i : Nat} {e : Ex} : exS F (.dnew i (some e)) r = (mkD F (some e) r).fl fun kvs => .next (r.set i (.od kvs)) := by rw [exS.eq_5]
@[simp] theorem ex_parD {i : Nat} {e : Option Ex} {ts : List (Nat × Bool)} {es : List Ex} : exS F (.parD i e ts es) r = (mkD F e r).fl fun kvs => (evs F es r).fl fun ps => layN ts ps (r.set i (.od kvs)) := by
  rw [exS.eq_22]
  congr 1; funext kvs; congr 1; funext p
  exact layN_eq
end
section
variable {F : Fs} {r : O.St}
@[simp] theorem ev_gix {x : String} {kvs : List (Tx × Tx)} {k : Ex} : ev F (.gix x kvs k) r = (ev F k r).bind fun p => (asStr p).bind fun t => match kvs.lookup t with | some v => .ok (.str v) | none => .bad := by rw [ev.eq_37]; rfl
def tryCc (F : Fs) (ks : List Nat) (i : Nat) (suite : List Sm) (r : O.St) : R PV → Fl
  | .ok _ => .next r
  | .exc k => if k ∈ ks then cleanF (exB F suite (keepR r i k)) else .bad
  | .bad => .bad
@[simp] theorem tryCc_ok {ks : List Nat} {i : Nat} {suite : List Sm} {p : PV} : tryCc F ks i suite r (.ok p) = .next r := rfl
@[simp] theorem tryCc_exc {ks : List Nat} {i k : Nat} {suite : List Sm} : tryCc F ks i suite r (.exc k) = if k ∈ ks then cleanF (exB F suite (keepR r i k)) else .bad := rfl
def onB : PV → (Bool → Fl) → Fl
  | .bl b, f => f b
  | _, _ => .bad
@[simp] theorem onB_bl {b : Bool} {f : Bool → Fl} : onB (.bl b) f = f b := rfl
theorem ex_tryC {ks : List Nat} {j : Nat} {p x y1 y2 : PV} {k1 a1 k2 a2 i : Nat} {suite : List Sm} (h1 : r[j]? = some (.v x)) (h2 : r[a1]? = some (.v y1)) (h3 : r[a2]? = some (.v y2)) : exS F (.tryC ks j p k1 a1 k2 a2 i suite) r = (cop .eq x p).fl fun b => onB b fun b => tryCc F ks i suite r (F (if b then k1 else k2) [if b then y1 else y2]) := by
  rw [exS.eq_23, h1, h2, h3]
  simp only
  congr 1; funext b
  cases b with
  | bl b =>
    simp only [onB_bl]
    cases F (if b = true then k1 else k2) [if b = true then y1 else y2] with
    | ok q => rfl
    | bad => rfl
    | exc k =>
      simp only [tryCc_exc]
      split
      · cases exB F suite (keepR r i k) <;> rfl
      · rfl
  | _ => rfl
end
@[simp] theorem mtOk_ls {s : Tx} : mtOk .lstrip (.str s) = true := rfl
@[simp] theorem mtOk_sp {s : Tx} : mtOk .split (.str s) = true := rfl
@[simp] theorem mt_ls {s t : Tx} : mt .lstrip (.str s) [.str t] = if lim s.length then .ok (.str (lstripC t s)) else .bad := rfl
@[simp] theorem mt_sp {s : Tx} {c : Nat} : mt .split (.str s) [.str [c]] = if lim s.length && decide (c < 256) then .ok (.lst ((splitC c [] s).map .str)) else .bad := rfl
@[simp] theorem mtOk_sw {s : Tx} : mtOk .startswith (.str s) = true := rfl
@[simp] theorem mtOk_pt {s : Tx} : mtOk .partition (.str s) = true := rfl
@[simp] theorem mt_sw {s t : Tx} : mt .startswith (.str s) [.str t] = .ok (.bl (s.take t.length == t)) := rfl
def partP (c : Nat) (s : Tx) : PV := match partC c [] s with
    | some (a, b) => PV.tup [.str a, .str [c], .str b]
    | none => PV.tup [.str s, .str [], .str []]
@[simp] theorem mt_pt {s : Tx} {c : Nat} : mt .partition (.str s) [.str [c]] = if lim s.length then .ok (partP c s) else .bad := by
  show (if lim s.length then (match partC c [] s with
    | some (a, b) => R.ok (PV.tup [.str a, .str [c], .str b])
    | none => .ok (PV.tup [.str s, .str [], .str []])) else .bad) = _
  unfold partP
  cases partC c [] s <;> rfl
end Mi

end
section
set_option Elab.async false
set_option linter.all false
set_option maxRecDepth 100000
set_option maxHeartbeats 0
namespace Lw
open PySem PySem.Spec L2 O OS Bd
theorem bd0 : BindsAt d0 := fun _ _ _ _ _ _ us hl => match us, hl with | [_], _ => rfl
theorem bd1 : BindsAt d1 := fun _ _ _ _ _ _ us hl => match us, hl with | [_], _ => rfl
theorem bd2 : BindsAt d2 := fun _ _ _ _ _ _ us hl => match us, hl with | [_], _ => rfl
theorem bd3 : BindsAt d3 := fun _ _ _ _ _ _ us hl => match us, hl with | [_], _ => rfl
theorem bd4 : BindsAt d4 := fun _ _ _ _ _ _ us hl => match us, hl with | [_], _ => rfl
theorem bd5 : BindsAt d5 := fun _ _ _ _ _ _ us hl => match us, hl with | [_], _ => rfl
theorem bd6 : BindsAt d6 := fun _ _ _ _ _ _ us hl => match us, hl with | [_], _ => rfl
theorem bd7 : BindsAt d7 := fun _ _ _ _ _ _ us hl => match us, hl with | [_], _ => rfl
theorem bd9 : BindsAt d9 := fun _ _ _ _ _ _ us hl => match us, hl with | [_, _], _ => rfl
theorem bd11 : BindsAt d11 := fun _ _ _ _ _ _ us hl => match us, hl with | [_], _ => rfl
theorem bd12 : BindsAt d12 := fun _ _ _ _ _ _ us hl => match us, hl with | [_, _], _ => rfl
theorem bd13 : BindsAt d13 := fun _ _ _ _ _ _ us hl => match us, hl with | [_, _], _ => rfl
theorem bd14 : BindsAt d14 := fun _ _ _ _ _ _ us hl => match us, hl with | [_, _], _ => rfl
theorem bd15 : BindsAt d15 := fun _ _ _ _ _ _ us hl => match us, hl with | [_, _], _ => rfl
theorem bd36 : BindsAt d36 := fun _ _ _ _ _ _ us hl => match us, hl with | [_, _], _ => rfl
theorem bd74 : BindsAt d74 := fun _ _ _ _ _ _ us hl => match us, hl with | [_, _], _ => rfl
theorem bd75 : BindsAt d75 := fun _ _ _ _ _ _ us hl => match us, hl with | [_], _ => rfl
theorem bd76 : BindsAt d76 := fun _ _ _ _ _ _ us hl => match us, hl with | [_], _ => rfl
theorem bd77 : BindsAt d77 := fun _ _ _ _ _ _ us hl => match us, hl with | [_], _ => rfl
theorem bd78 : BindsAt d78 := fun _ _ _ _ _ _ us hl => match us, hl with | [_, _], _ => rfl
theorem bd79 : BindsAt d79 := fun _ _ _ _ _ _ us hl => match us, hl with | [_], _ => rfl
theorem bd84 : BindsAt d84 := fun _ _ _ _ _ _ us hl => match us, hl with | [_, _], _ => rfl
theorem bd133 : BindsAt d133 := fun _ _ _ _ _ _ us hl => match us, hl with | [_], _ => rfl
theorem bd134 : BindsAt d134 := fun _ _ _ _ _ _ us hl => match us, hl with | [_], _ => rfl
theorem bd135 : BindsAt d135 := fun _ _ _ _ _ _ us hl => match us, hl with | [_, _], _ => rfl
theorem bd136 : BindsAt d136 := fun _ _ _ _ _ _ us hl => match us, hl with | [_, _], _ => rfl
theorem bd137 : BindsAt d137 := fun _ _ _ _ _ _ us hl => match us, hl with | [_, _], _ => rfl
theorem bd37 : BindsAt d37 := fun _ _ _ _ _ _ us hl => match us, hl with | [_], _ => rfl
theorem bd38 : BindsAt d38 := fun _ _ _ _ _ _ us hl => match us, hl with | [_], _ => rfl
theorem bd39 : BindsAt d39 := fun _ _ _ _ _ _ us hl => match us, hl with | [_], _ => rfl
theorem bd40 : BindsAt d40 := fun _ _ _ _ _ _ us hl => match us, hl with | [_, _], _ => rfl
theorem bd58 : BindsAt d58 := fun _ _ _ _ _ _ us hl => match us, hl with | [_, _], _ => rfl
theorem bd59 : BindsAt d59 := fun _ _ _ _ _ _ us hl => match us, hl with | [_, _], _ => rfl
theorem bd60 : BindsAt d60 := fun _ _ _ _ _ _ us hl => match us, hl with | [_, _], _ => rfl
theorem bd61 : BindsAt d61 := fun _ _ _ _ _ _ us hl => match us, hl with | [_, _], _ => rfl
theorem bd62 : BindsAt d62 := fun _ _ _ _ _ _ us hl => match us, hl with | [_, _], _ => rfl
theorem bd63 : BindsAt d63 := fun _ _ _ _ _ _ us hl => match us, hl with | [_, _], _ => rfl
theorem bd64 : BindsAt d64 := fun _ _ _ _ _ _ us hl => match us, hl with | [_, _, _], _ => rfl
theorem bd65 : BindsAt d65 := fun _ _ _ _ _ _ us hl => match us, hl with | [_, _], _ => rfl
theorem bd139 : BindsAt d139 := fun _ _ _ _ _ _ us hl => match us, hl with | [_, _], _ => rfl
theorem bd69 : BindsAt d69 := fun _ _ _ _ _ _ us hl => match us, hl with | [_, _, _], _ => rfl
theorem bd70 : BindsAt d70 := fun _ _ _ _ _ _ us hl => match us, hl with | [_, _], _ => rfl
theorem bd44 : BindsAt d44 := fun _ _ _ _ _ _ us hl => match us, hl with | [_], _ => rfl
theorem bd46 : BindsAt d46 := fun _ _ _ _ _ _ us hl => match us, hl with | [_, _], _ => rfl
theorem bd154 : BindsAt d154 := fun _ _ _ _ _ _ us hl => match us, hl with | [_, _, _], _ => rfl
theorem bd155 : BindsAt d155 := fun _ _ _ _ _ _ us hl => match us, hl with | [_, _], _ => rfl
theorem bd156 : BindsAt d156 := fun _ _ _ _ _ _ us hl => match us, hl with | [], _ => rfl
theorem bd157 : BindsAt d157 := fun _ _ _ _ _ _ us hl => match us, hl with | [_], _ => rfl
theorem bd158 : BindsAt d158 := fun _ _ _ _ _ _ us hl => match us, hl with | [], _ => rfl
theorem bd159 : BindsAt d159 := fun _ _ _ _ _ _ us hl => match us, hl with | [_], _ => rfl
theorem binds : ∀ d ∈ ds, BindsAt d := List.forall_mem_cons.mpr ⟨bd159, List.forall_mem_cons.mpr ⟨bd158, List.forall_mem_cons.mpr ⟨bd157, List.forall_mem_cons.mpr ⟨bd156, List.forall_mem_cons.mpr ⟨bd155, List.forall_mem_cons.mpr ⟨bd154, List.forall_mem_cons.mpr ⟨bd46, List.forall_mem_cons.mpr ⟨bd44, List.forall_mem_cons.mpr ⟨bd70, List.forall_mem_cons.mpr ⟨bd69, List.forall_mem_cons.mpr ⟨bd139, List.forall_mem_cons.mpr ⟨bd65, List.forall_mem_cons.mpr ⟨bd64, List.forall_mem_cons.mpr ⟨bd63, List.forall_mem_cons.mpr ⟨bd62, List.forall_mem_cons.mpr ⟨bd61, List.forall_mem_cons.mpr ⟨bd60, List.forall_mem_cons.mpr ⟨bd59, List.forall_mem_cons.mpr ⟨bd58, List.forall_mem_cons.mpr ⟨bd40, List.forall_mem_cons.mpr ⟨bd39, List.forall_mem_cons.mpr ⟨bd38, List.forall_mem_cons.mpr ⟨bd37, List.forall_mem_cons.mpr ⟨bd137, List.forall_mem_cons.mpr ⟨bd136, List.forall_mem_cons.mpr ⟨bd135, List.forall_mem_cons.mpr ⟨bd134, List.forall_mem_cons.mpr ⟨bd133, List.forall_mem_cons.mpr ⟨bd84, List.forall_mem_cons.mpr ⟨bd79, List.forall_mem_cons.mpr ⟨bd78, List.forall_mem_cons.mpr ⟨bd77, List.forall_mem_cons.mpr ⟨bd76, List.forall_mem_cons.mpr ⟨bd75, List.forall_mem_cons.mpr ⟨bd74, List.forall_mem_cons.mpr ⟨bd36, List.forall_mem_cons.mpr ⟨bd15, List.forall_mem_cons.mpr ⟨bd14, List.forall_mem_cons.mpr ⟨bd13, List.forall_mem_cons.mpr ⟨bd12, List.forall_mem_cons.mpr ⟨bd11, List.forall_mem_cons.mpr ⟨bd9, List.forall_mem_cons.mpr ⟨bd7, List.forall_mem_cons.mpr ⟨bd6, List.forall_mem_cons.mpr ⟨bd5, List.forall_mem_cons.mpr ⟨bd4, List.forall_mem_cons.mpr ⟨bd3, List.forall_mem_cons.mpr ⟨bd2, List.forall_mem_cons.mpr ⟨bd1, List.forall_mem_cons.mpr ⟨bd0, fun _ h => nomatch h⟩⟩⟩⟩⟩⟩⟩⟩⟩⟩⟩⟩⟩⟩⟩⟩⟩⟩⟩⟩⟩⟩⟩⟩⟩⟩⟩⟩⟩⟩⟩⟩⟩⟩⟩⟩⟩⟩⟩⟩⟩⟩⟩⟩⟩⟩⟩⟩⟩⟩
theorem chk : allB W ds ls = true := by decide +kernel
theorem gl : globsB W = true := by decide +kernel
theorem nums : numsB ds = true := by decide +kernel

section
open Mi
/-! the law, by evaluation: what the script gives is the turn alone -/
def isT : O.R PV → Bool
  | .ok (.bl true) => true
  | _ => false
theorem isT_eq {r : O.R PV} (h : isT r = true) : r = .ok (.bl true) := by
  unfold isT at h
  split at h
  · rfl
  · cases h
def isRT : Fl → Bool
  | .ret (.bl true) => true
  | _ => false
theorem isRT_eq {r : Fl} (h : isRT r = true) : r = .ret (.bl true) := by
  unfold isRT at h
  split at h
  · rfl
  · cases h
def isV (q : PV) : Option SV → Bool
  | some (.v p) => same p q
  | _ => false
theorem isV_eq {q : PV} {o : Option SV} (h : isV q o = true) : o = some (.v q) := by
  unfold isV at h
  split at h
  · rw [same_eq h]
  · cases h
/-- where a body stands, then -/
def nx (t : O.St → Bool) : Fl → Bool
  | .next r => t r
  | _ => false
theorem nx_eq {t : O.St → Bool} {f : Fl} (h : nx t f = true) : ∃ r, f = .next r ∧ t r = true := by
  unfold nx at h
  split at h
  · exact ⟨_, rfl, h⟩
  · cases h
def OPS : PV := .tup [.tup [.str [97], .str [102, 108, 97, 103]], .tup [.str [98], .str [102, 108, 97, 103]], .tup [.str [109], .str [109, 97, 121, 98, 101]], .tup [.str [111], .str [118, 97, 108, 117, 101]]]
def RDG : PV := .tup [.tup [.tup [.str [109], .non], .tup [.str [97], .non]], .tup []]
def LA : PV := .tup [.str [45, 109], .str [45, 97], .str [45, 45]]
def LB : PV := .tup [.str [45, 109], .str [45, 97]]
theorem t156 : tab ds ls 58 156 [] = .ok (.bl true) := isT_eq (by decide +kernel)
theorem t158 : tab ds ls 58 158 [] = .ok (.bl true) := isT_eq (by decide +kernel)
theorem srtAB : O.bi .srt [.lst [LA, LB]] = .ok (.lst [LB, LA]) := by
  have e : sortD [LA, LB] = [LB, LA] := by
    have h : ltD LB LA = true := by decide +kernel
    simp [sortD, List.mergeSort, List.MergeSort.Internal.splitInTwo, List.merge, h]
  have k : (isSeq (PV.lst [LA, LB]) && srtOk [LA, LB]) = true := by decide +kernel
  show (if (isSeq (PV.lst [LA, LB]) && srtOk [LA, LB]) = true then O.R.ok (PV.lst (sortD [LA, LB])) else if (isSeq (PV.lst [LA, LB]) && srt2 [LA, LB]) = true then O.R.ok (PV.lst [LA, LB].reverse) else O.R.bad) = _
  rw [if_pos k, e]
theorem t65 : tab ds ls 56 65 [OPS, RDG] = .ok (.lst [LB, LA]) := by
  rw [tab_at (d := d65) rfl]
  have k : nx (fun (r : O.St) => match r[4]? with | some (SV.ow [p, q]) => same p LA && same q LB | _ => false) (exB (tab ds ls 55) (b65.take 5) (O.start n65.length [OPS, RDG])) = true := by decide +kernel
  obtain ⟨r, e1, e2⟩ := nx_eq k
  have e3 : r[4]? = some (.ow [LA, LB]) := by
    split at e2
    · rename_i p q e
      rw [Bool.and_eq_true] at e2
      rw [e, same_eq e2.1, same_eq e2.2]
    · cases e2
  show O.run (tab ds ls 55) n65.length b65 [OPS, RDG] = _
  unfold O.run
  rw [show b65 = b65.take 5 ++ b65.drop 5 from rfl, exB_app]
  show (match (exB (tab ds ls 55) (b65.take 5) (O.start n65.length [OPS, RDG])).andThen fun r' => exB (tab ds ls 55) (b65.drop 5) r' with | .ret p => O.R.ok p | .next _ => .ok .non | .exc k => .exc k | _ => .bad) = _
  rw [e1]
  have g : getB r 4 = .ok (.lst [LA, LB]) := by unfold getB; rw [e3]
  simp [b65, g, srtAB]
theorem t139 : tab ds ls 57 139 [OPS, RDG] = .ok LB := by
  rw [tab_at (d := d139) rfl]
  have k : nx (fun r => isV OPS r[0]? && (isV RDG r[1]? && (isV (.int 2) r[2]? && decide (r.length = 4)))) (exB (tab ds ls 56) (b139.take 2) (O.start n139.length [OPS, RDG])) = true := by decide +kernel
  obtain ⟨r, e1, e2⟩ := nx_eq k
  simp only [Bool.and_eq_true, decide_eq_true_eq] at e2
  obtain ⟨e2, e3, e4, e5⟩ := e2
  have e2 := isV_eq e2
  have e3 := isV_eq e3
  have e4 := isV_eq e4
  match r, e5 with
  | [s0, s1, s2, s3], _ =>
    cases e2
    cases e3
    cases e4
    show O.run (tab ds ls 56) n139.length b139 [OPS, RDG] = _
    unfold O.run
    rw [show b139 = b139.take 2 ++ b139.drop 2 from rfl, exB_app]
    show (match (exB (tab ds ls 56) (b139.take 2) (O.start n139.length [OPS, RDG])).andThen fun r' => exB (tab ds ls 56) (b139.drop 2) r' with | .ret p => O.R.ok p | .next _ => .ok .non | .exc k => .exc k | _ => .bad) = _
    rw [e1]
    simp [b139, t65]
    all_goals rfl
theorem t157 : tab ds ls 58 157 [OPS] = .ok (.bl true) := by
  rw [tab_at (d := d157) rfl]
  have k : nx (fun r => isV OPS r[0]? && isRT (exB (tab ds ls 57) (b157.drop 10) r)) (exB (tab ds ls 57) (b157.take 9) (O.start n157.length [OPS])) = true := by decide +kernel
  obtain ⟨r, e1, e2⟩ := nx_eq k
  rw [Bool.and_eq_true] at e2
  have e3 := isV_eq e2.1
  have e4 := isRT_eq e2.2
  show O.run (tab ds ls 57) n157.length b157 [OPS] = _
  unfold O.run
  have g : Mi.get r 0 = .ok OPS := by unfold Mi.get; rw [e3]
  have t : tab ds ls 57 139 [OPS, .tup [.tup [.tup [.str [109], .non], .tup [.str [97], .non]], .tup []]] = .ok LB := t139
  have mid : exB (tab ds ls 57) ((b157.drop 9).take 1) r = .next r := by
    simp [b157, g, t]
    all_goals rfl
  rw [show b157 = b157.take 9 ++ ((b157.drop 9).take 1 ++ b157.drop 10) from rfl, exB_app]
  rw [e1]
  show (match exB (tab ds ls 57) ((b157.drop 9).take 1 ++ b157.drop 10) r with | .ret p => O.R.ok p | .next _ => .ok .non | .exc k => .exc k | _ => .bad) = _
  rw [exB_app, mid]
  show (match exB (tab ds ls 57) (b157.drop 10) r with | .ret p => O.R.ok p | .next _ => .ok .non | .exc k => .exc k | _ => .bad) = _
  rw [e4]

theorem wh0 {F : Fs} {a0 a1 a2 a3 a4 : SV} {z : Int} : whE F (.band [(.cmp .gt (.var 5) (.con (.int 0))), (.cmp .gt (.var 6) (.con (.int 0)))]) b154_0 5000 [a0, a1, a2, a3, a4, .v (.int z), .v (.int 0)] = .next [a0, a1, a2, a3, a4, .v (.int z), .v (.int 0)] := by
  show whE F _ _ (4999 + 1) _ = _
  rw [whE_s]
  simp
def px (c : Int) : Int := (c * 31 + 6151) * 40692 % 2147483399
def py (d : Int) : Int := (d * d + d / 31) % 2147483629
theorem px_b {c : Int} : O.b64 (px c) = true := by
  have h1 := Int.emod_nonneg ((c * 31 + 6151) * 40692) (show (2147483399 : Int) ≠ 0 by omega)
  have h2 := Int.emod_lt_of_pos ((c * 31 + 6151) * 40692) (show (0 : Int) < 2147483399 by omega)
  unfold O.b64 px
  simp only [Bool.and_eq_true, decide_eq_true_eq]
  omega
theorem in1 {i : Int} : O.bi .int1 [.int i] = .ok (.int i) := rfl
theorem b31 : O.b64 31 = true := by decide +kernel
theorem b1_ : O.b64 1 = true := by decide +kernel
theorem b4_ : O.b64 40692 = true := by decide +kernel
theorem tl0 {F : Fs} {a0 a4 : SV} {c z : Int} (hz : ¬ 0 < z) : exB F (b154.drop 3) [a0, .v (.int 0), .v (.int 3), .v (.int c), a4, .v (.int z), .v (.int 0)] = .ret (.int (py (px c) % 3)) := by
  have e1 : (c * 31 + 6151) * 40692 % 2147483399 = px c := rfl
  have e2 : (px c * px c + px c / 31) % 2147483629 = py (px c) := rfl
  simp [b154, e1, e2, px_b, hz, in1, b31, b1_, b4_]
theorem tl1 {F : Fs} {a0 a4 : SV} {c z : Int} (hz : 0 < z) : exB F (b154.drop 3) [a0, .v (.int 0), .v (.int 3), .v (.int c), a4, .v (.int z), .v (.int 0)] = .ret (.int (z % 840 % 3)) := by
  simp [b154, hz, in1]
theorem t154 {ns : List Int} (hl : ns.length ≤ 63) : ∃ t : Nat, t < 3 ∧ tab ds ls 59 154 [.scr ns, .int 0, .int 3] = .ok (.int t) := by
  have h : ∃ z : Int, tab ds ls 59 154 [.scr ns, .int 0, .int 3] = .ok (.int (z % 3)) := by
    rw [tab_at (d := d154) rfl]
    show ∃ z : Int, O.run (tab ds ls 58) n154.length b154 [.scr ns, .int 0, .int 3] = .ok (.int (z % 3))
    generalize tab ds ls 58 = F
    have key : ∃ c z : Int, exB F (b154.take 3) [.v (.scr ns), .v (.int 0), .v (.int 3), .un, .un, .un, .un] = .next [.v (.scr ns), .v (.int 0), .v (.int 3), .v (.int c), .un, .v (.int z), .v (.int 0)] := by
      cases ns with
      | nil =>
        refine ⟨0, 0, ?_⟩
        have p1 : O.bi .max2 [.int 0, .int 1] = .ok (.int 1) := rfl
        simp [b154, p1, wh0, in1]
      | cons z0 zs =>
        have p1 : (0 : Int) < (zs.length : Int) + 1 := by omega
        have p2 : (zs.length : Int) + 1 ≤ 1000000000000000000 := by simp at hl; omega
        have p3 : O.bi .max2 [.int ((zs.length : Int) + 1), .int 1] = .ok (.int ((zs.length : Int) + 1)) := by
          show O.R.ok (PV.int (if (1 : Int) > (zs.length : Int) + 1 then 1 else (zs.length : Int) + 1)) = _
          rw [if_neg (by omega)]
        have i1 : O.idx (.scr (z0 :: zs)) (.int 0) = .ok (.int z0) := by
          have h := atI_nat (xs := z0 :: zs) (i := 0) rfl
          unfold O.idx
          simp only [show ((0 : Nat) : Int) = 0 from rfl] at h
          simp only [h]
        refine ⟨z0, z0 / 1000000000000000000, ?_⟩
        simp [b154, i1, p1, p2, p3, wh0, in1]
    obtain ⟨c, z, e⟩ := key
    have sp : b154 = b154.take 3 ++ b154.drop 3 := rfl
    by_cases hz : 0 < z
    · refine ⟨z % 840, ?_⟩
      simp only [run_eq]
      rw [sp, exB_app]
      show res ((exB F (b154.take 3) [.v (.scr ns), .v (.int 0), .v (.int 3), .un, .un, .un, .un]).andThen fun r' => exB F (b154.drop 3) r') = _
      rw [e, then_next, tl1 hz, res_ret]
    · refine ⟨py (px c), ?_⟩
      simp only [run_eq]
      rw [sp, exB_app]
      show res ((exB F (b154.take 3) [.v (.scr ns), .v (.int 0), .v (.int 3), .un, .un, .un, .un]).andThen fun r' => exB F (b154.drop 3) r') = _
      rw [e, then_next, tl0 hz, res_ret]
  obtain ⟨z, h⟩ := h
  refine ⟨(z % 3).toNat, by omega, ?_⟩
  rw [h]
  congr 2
  omega
theorem ev_lm {F : Fs} {k : Nat} {is : List Nat} {r : O.St} : ev F (.lam k is) r = .ok (.lam k is) := by simp only [ev]
theorem ev_cm {F : Fs} {j : Nat} {a : Ex} {r : O.St} {xs : List PV} (h : ev F a r = .ok (.lst xs)) (h2 : (lim xs.length && decide (j < r.length)) = true) : ev F (.compM j a) r = (compL (lamQ F r) xs).bind fun ys => .ok (.lst ys) := by
  simp only [ev, h, R.bind_ok]
  rw [if_pos h2]
theorem pure (ns : List Int) (h1 : ns.length ≤ 63) (h2 : ∀ z ∈ ns, Builtin.Int.intBits z ≤ 1048576) : tab ds ls 60 159 [.scr ns] = .ok (.bl true) := by
  obtain ⟨t, ht, e⟩ := t154 h1
  rw [tab_at (d := d159) rfl]
  show runM (tab ds ls 59) n159.length b159 [.scr ns] = _
  have u1 : tab ds ls 59 1067 [] = .ok (.bl true) := by
    rw [tab_lam (l := l1067) rfl rfl]
    simp [l1067, n1067, e1067, t156]
  have u2 : tab ds ls 59 1068 [OPS] = .ok (.bl true) := by
    rw [tab_lam (l := l1068) rfl rfl]
    simp [l1068, n1068, e1068, t157]
  have u3 : tab ds ls 59 1069 [] = .ok (.bl true) := by
    rw [tab_lam (l := l1069) rfl rfl]
    simp [l1069, n1069, e1069, t158]
  have cm : ev (tab ds ls 59) (.compM 4 (.bin .add (.cut (.bor 2) (some (.var 3)) none) (.cut (.bor 2) none (some (.var 3))))) [.v (.scr ns), .v OPS, .ow [.lam 1067 [], .lam 1068 [1], .lam 1069 []], .v (.int t), .un] = .ok (.lst [.bl true, .bl true, .bl true]) := by
    have w : ∃ xs, ev (tab ds ls 59) (.bin .add (.cut (.bor 2) (some (.var 3)) none) (.cut (.bor 2) none (some (.var 3)))) [.v (.scr ns), .v OPS, .ow [.lam 1067 [], .lam 1068 [1], .lam 1069 []], .v (.int t), .un] = .ok (.lst xs) ∧ (xs = [.lam 1067 [], .lam 1068 [1], .lam 1069 []] ∨ xs = [.lam 1068 [1], .lam 1069 [], .lam 1067 []] ∨ xs = [.lam 1069 [], .lam 1067 [], .lam 1068 [1]]) := by
      rcases (by omega : t = 0 ∨ t = 1 ∨ t = 2) with rfl | rfl | rfl
      · exact ⟨_, rfl, .inl rfl⟩
      · exact ⟨_, rfl, .inr (.inl rfl)⟩
      · exact ⟨_, rfl, .inr (.inr rfl)⟩
    obtain ⟨xs, w1, w2⟩ := w
    rcases w2 with rfl | rfl | rfl
    all_goals
      rw [ev_cm w1 rfl]
      simp [compL, lamQ, caps, u1, u2, u3]
  have cl : PV.nolL [PV.scr ns] = true := rfl
  have rn : O.run (tab ds ls 59) n159.length b159 [.scr ns] = .ok (.bl true) := by
    have e' : tab ds ls 59 154 [.scr ns, .int 0, .int 3] = .ok (.int t) := e
    rw [show b159 = b159.take 5 ++ b159.drop 5 from rfl]
    have a : exB (tab ds ls 59) (b159.take 5) ([PV.scr ns].map .v ++ List.replicate 4 .un) = .next [.v (.scr ns), .v OPS, .ow [.lam 1067 [], .lam 1068 [1], .lam 1069 []], .v (.int t), .un] := by
      simp [b159, ev_lm, e', OPS]
    simp only [run_eq]
    rw [exB_app]
    show res ((exB (tab ds ls 59) (b159.take 5) ([PV.scr ns].map .v ++ List.replicate 4 .un)).andThen fun r' => exB (tab ds ls 59) (b159.drop 5) r') = _
    rw [a, then_next]
    simp [b159, cm]
    all_goals rfl
  unfold runM
  rw [if_pos cl, rn]
  rfl
end

end Lw
end
open PySem PySem.W PySem.Calls PyProof.Rows
theorem PySem.Challenge.cw_optionlines_k74_bounds_holds : PySem.Challenge.rw_optionlines_k74_bounds.Holds := by
  w_on; o_law
  refine HandSHeadRun.head_any (r := OpenLaw.row PySem.Challenge.rw_optionlines_k74_bounds) (q := view (OpenLaw.row PySem.Challenge.rw_optionlines_k74_bounds).prog [89]) (H := Lw.hk) (ob := Lw.ob) (M := 8000) (loose := Lw.nm) (d := HandSHeadRun.topDef (OpenLaw.row PySem.Challenge.rw_optionlines_k74_bounds).prog 89) (kwd := []) Lw.ob_eq
    (by kernel_rfl) (fun s => by kernel_rfl) Lw.run (by kernel_rfl) (by kernel_rfl) (by kernel_rfl) (by rfl) (by first | assumption | decide +kernel) (by decide +kernel) ⟨rfl, rfl, rfl, rfl, rfl, by decide +kernel⟩ ?hw ?hc
  case hw => w_witness2
  case hc =>
    refine LamX.walk_ofTsE (l := PySem.Challenge.rw_optionlines_k74_bounds) (n := 63) (k := 60) (x := "script") (CX := fun w => L2N.CX (PySem.Challenge.rw_optionlines_k74_bounds).prog w) rfl (by decide) (by kernel_rfl) ⟨rfl, by decide, by decide⟩ ?F (fun _ _ _ _ _ z => by obtain ⟨_, _, _, _, _, _, _, _, _, _, _, _, z⟩ := z; exact z)
    intro w mg fa h Y G hmg0
    obtain ⟨K, KX, c⟩ := Y
    have hmg : mg (PySem.Str.ofString Lw.d159.name) = some (.ref fa) := by
      have e : (HandSHeadRun.topDef (OpenLaw.row PySem.Challenge.rw_optionlines_k74_bounds).prog 89).name = (PySem.Str.ofString Lw.d159.name) := by kernel_rfl
      rw [← e]
      exact hmg0
    exact ⟨K, KX, OS.law_at (dl := Lw.d159) KX G hmg c Lw.chk Lw.gl Lw.nums Lw.binds (List.mem_cons_self ..) rfl rfl rfl rfl Lw.pure⟩
