import PyProof.Rows.All
import Wide.All
import OpenK.AllK
import Wide.FinOn
import PySem.Value
import HandS.ForMost
import HandS.ForExc
import HandS.TupAny
import HandS.TupMul
import HandS.Deep
import HandS.Zip
import HandS.Codes
import KE.KDictKeyed
import KE.KDictCopyH
import KE.SortData
import KE.DataCmp
import HandS.IsInst
import HandS.Style
import PyProof.Rows.InDataRows
import HandS.Exc
import HandS.Comp
import HandS.WordsExc
import HandS.ExcOwn
import HandS.Iter
import HandS.AnyAll
import HandS.TupLen
import HandS.Star
import KE.KDictPairs
import HandS.ExcField
import HandS.ExcIs
import HandS.TryMany
import KE.DataMinMax
import HandS.Defaults
import HandS.HeadHook2
import HandS.HeadEnd
import HandS.Head0
import HandS.Head1
import HandS.Head2
import KE.KExcSuper
import KE.KExcInit
import HandS.TupSets
import PySem.Challenge.RW_stairlaid_k51_cells_and_spaces_by_hand_a
set_option autoImplicit false
set_option linter.all false
set_option Elab.async false
set_option maxRecDepth 100000
set_option maxHeartbeats 4000000
/-! Ev1: values as trees, operations on them, the small language and its evaluator. Plain Lean. -/
namespace Sl
open PySem (Str)

/-- a value, by what it holds (dct: keys and values, side by side; exn: a caught exception; scr: the law's own list) -/
inductive PV where
  | non
  | bl (b : Bool)
  | int (i : Int)
  | str (s : Str)
  | tup (xs : List PV)
  | lst (xs : List PV)
  | dct (ks vs : List PV)
  | fn (g : Nat)
  | exn (c : Nat) (pl : List PV)
  | scr (xs : List PV)
  deriving Inhabited

/-! ### ints, quick for the kernel -/
def iEq : Int → Int → Bool
  | .ofNat m, .ofNat n => Nat.beq m n
  | .negSucc m, .negSucc n => Nat.beq m n
  | .ofNat _, .negSucc _ => false
  | .negSucc _, .ofNat _ => false
def iLt : Int → Int → Bool
  | .ofNat m, .ofNat n => Nat.blt m n
  | .ofNat _, .negSucc _ => false
  | .negSucc _, .ofNat _ => true
  | .negSucc m, .negSucc n => Nat.blt n m
theorem iEq_eq (a b : Int) : iEq a b = decide (a = b) := by
  have nb : ∀ m n : Nat, Nat.beq m n = decide (m = n) := fun m n => by
    cases h : Nat.beq m n with
    | true => exact (decide_eq_true (Nat.eq_of_beq_eq_true h)).symm
    | false => exact (decide_eq_false (Nat.ne_of_beq_eq_false h)).symm
  cases a with
  | ofNat m => cases b with
    | ofNat n => show Nat.beq m n = decide ((m : Int) = (n : Int)); rw [nb]; exact decide_eq_decide.mpr (by omega)
    | negSucc n => simp [iEq]
  | negSucc m => cases b with
    | ofNat n => simp [iEq]
    | negSucc n => simp [iEq, nb]
theorem iLt_eq (a b : Int) : iLt a b = decide (a < b) := by
  have nb : ∀ m n : Nat, Nat.blt m n = decide (m < n) := fun m n => by
    cases h : Nat.blt m n with
    | true => exact (decide_eq_true (Nat.le_of_ble_eq_true h)).symm
    | false =>
      refine (decide_eq_false fun q => ?_).symm
      have : Nat.blt m n = true := Nat.ble_eq_true_of_le q
      rw [h] at this; cases this
  cases a with
  | ofNat m => cases b with
    | ofNat n => show Nat.blt m n = decide ((m : Int) < (n : Int)); rw [nb]; exact decide_eq_decide.mpr (by omega)
    | negSucc n => exact (decide_eq_false (by show ¬ ((m : Int) < Int.negSucc n); omega)).symm
  | negSucc m => cases b with
    | ofNat n => exact (decide_eq_true (by show Int.negSucc m < (n : Int); omega)).symm
    | negSucc n => show Nat.blt n m = decide (Int.negSucc m < Int.negSucc n); rw [nb]; exact decide_eq_decide.mpr (by omega)

/-! ### == and < -/
def bI (b : Bool) : Int := if b then 1 else 0
def sEq (x y : Str) : Bool := decide (x = y)
mutual
/-- Python's == on data -/
def pyEq : PV → PV → Bool
  | .non, y => match y with | .non => true | _ => false
  | .bl a, y => match y with | .bl b => a == b | .int j => iEq (bI a) j | _ => false
  | .int i, y => match y with | .int j => iEq i j | .bl b => iEq i (bI b) | _ => false
  | .str x, y => match y with | .str z => sEq x z | _ => false
  | .tup xs, y => match y with | .tup ys => pyEqs xs ys | _ => false
  | .lst xs, y => match y with | .lst ys => pyEqs xs ys | _ => false
  | .dct _ _, _ => false
  | .fn _, _ => false
  | .exn _ _, _ => false
  | .scr _, _ => false
def pyEqs : List PV → List PV → Bool
  | [], ys => match ys with | [] => true | _ :: _ => false
  | x :: xs, ys => match ys with | [] => false | y :: ys => if pyEq x y then pyEqs xs ys else false
end
mutual
/-- == may be asked: nothing but data of None, bools, ints, texts, tuples, lists -/
def isData : PV → Bool
  | .non => true
  | .bl _ => true
  | .int _ => true
  | .str s => s.cps.toList.all fun c => Nat.blt c 1114112
  | .tup xs => areData xs
  | .lst xs => areData xs
  | .dct _ _ => false
  | .fn _ => false
  | .exn _ _ => false
  | .scr _ => false
def areData : List PV → Bool
  | [] => true
  | x :: xs => if isData x then areData xs else false
end
mutual
def depth : PV → Nat
  | .tup xs => depths xs + 1
  | .lst xs => depths xs + 1
  | _ => 0
def depths : List PV → Nat
  | [] => 0
  | x :: xs => max (depth x) (depths xs)
end
mutual
/-- may be compared by <, place by place -/
def alike : PV → PV → Bool
  | .int _, y => match y with | .int _ => true | _ => false
  | .bl _, y => match y with | .bl _ => true | _ => false
  | .str _, y => match y with | .str _ => true | _ => false
  | .tup xs, y => match y with | .tup ys => alikes xs ys | _ => false
  | .lst xs, y => match y with | .lst ys => alikes xs ys | _ => false
  | _, _ => false
def alikes : List PV → List PV → Bool
  | [], _ => true
  | x :: xs, ys => match ys with | [] => true | y :: ys => if alike x y then alikes xs ys else false
end
def natLtL : List Nat → List Nat → Bool
  | [], ys => match ys with | [] => false | _ :: _ => true
  | x :: xs, ys => match ys with | [] => false | y :: ys => if Nat.beq x y then natLtL xs ys else Nat.blt x y
mutual
/-- Python's < on data that are alike -/
def pyLt : PV → PV → Bool
  | .int i, y => match y with | .int j => iLt i j | _ => false
  | .bl a, y => match y with | .bl b => !a && b | _ => false
  | .str x, y => match y with | .str z => natLtL x.cps.toList z.cps.toList | _ => false
  | .tup xs, y => match y with | .tup ys => pyLts xs ys | _ => false
  | .lst xs, y => match y with | .lst ys => pyLts xs ys | _ => false
  | _, _ => false
def pyLts : List PV → List PV → Bool
  | [], ys => match ys with | [] => false | _ :: _ => true
  | x :: xs, ys => match ys with | [] => false | y :: ys => if pyEq x y then pyLts xs ys else pyLt x y
end

/-! ### helpers -/
def cap : Nat := 100000
/-- shorter than the limit -/
def short : List PV → Bool := fun xs => Nat.blt xs.length cap
def insBy (lt : PV → PV → Bool) (x : PV) : List PV → List PV
  | [] => [x]
  | y :: ys => if lt x y then x :: y :: ys else y :: insBy lt x ys
/-- sorted, stable: items are put in from the left -/
def sortBy (lt : PV → PV → Bool) : List PV → List PV → List PV
  | acc, [] => acc
  | acc, x :: xs => sortBy lt (insBy lt x acc) xs
def memP (x : PV) : List PV → Bool
  | [] => false
  | y :: ys => if pyEq y x then true else memP x ys
/-- each once, the first stays -/
def dedup : List PV → List PV → List PV
  | acc, [] => acc
  | acc, x :: xs => if memP x acc then dedup acc xs else dedup (acc ++ [x]) xs
def allAlike : List PV → Bool
  | [] => true
  | x :: xs => xs.all (fun y => alike x y && alike y x) && alike x x && allAlike xs
/-- the place that an index means -/
def ixOf (n : Nat) (i : Int) : Option Nat := match i with
  | .ofNat j => if Nat.blt j n then some j else none
  | .negSucc j => if Nat.blt j n then some (n - (j + 1)) else none
def clip (n d : Nat) : Option Int → Nat
  | none => d
  | some i => match i with
    | .ofNat j => if Nat.blt n j then n else j
    | .negSucc j => n - (j + 1)
def cut (xs : List PV) (lo hi : Nat) : List PV := (xs.drop lo).take (hi - lo)
def findK (k : PV) : List PV → List PV → Option PV
  | x :: xs, v :: vs => if pyEq x k then some v else findK k xs vs
  | _, _ => none
def putK (k v : PV) : List PV → List PV → List PV × List PV
  | x :: xs, y :: ys => if pyEq x k then (x :: xs, v :: ys) else
    let r := putK k v xs ys
    (x :: r.1, y :: r.2)
  | _, _ => ([k], [v])
/-- a key of a dict whose keys are no tuples; one whose keys are tuples of such -/
def flatKey : PV → Bool
  | .int _ => true
  | .str _ => true
  | _ => false
mutual
def partKey : PV → Bool
  | .non => true
  | .int _ => true
  | .str _ => true
  | .tup xs => partKeys xs
  | _ => false
def partKeys : List PV → Bool
  | [] => true
  | x :: xs => if partKey x then partKeys xs else false
end
def tupKey : PV → Bool
  | .tup xs => partKeys xs && Nat.blt (depths xs) 8
  | _ => false
def goodKeys (ks : List PV) : Bool := ks.all tupKey
def truth : PV → Option Bool
  | .non => some false
  | .bl b => some b
  | .int i => some (!iEq i 0)
  | .str s => if Nat.blt s.cps.size cap then some (!Nat.beq s.cps.size 0) else none
  | .tup xs => some (match xs with | [] => false | _ :: _ => true)
  | .lst xs => some (match xs with | [] => false | _ :: _ => true)
  | .dct _ _ => none
  | .fn _ => none
  | .exn _ _ => none
  | .scr xs => some (match xs with | [] => false | _ :: _ => true)
def intsP : List PV → Option (List Int)
  | [] => some []
  | .int i :: xs => (intsP xs).map (i :: ·)
  | _ :: _ => none
def bools : List PV → Option (List Bool)
  | [] => some []
  | .bl b :: xs => (bools xs).map (b :: ·)
  | _ :: _ => none
/-- the items of a list or tuple -/
def items : PV → Option (List PV)
  | .tup xs => some xs
  | .lst xs => some xs
  | _ => none
def leastBy (lt : PV → PV → Bool) : PV → List PV → PV
  | m, [] => m
  | m, x :: xs => leastBy lt (if lt x m then x else m) xs
def greatestBy (lt : PV → PV → Bool) : PV → List PV → PV
  | m, [] => m
  | m, x :: xs => greatestBy lt (if lt m x then x else m) xs
def big64 (i : Int) : Bool := Nat.blt i.natAbs 18446744073709551616
def pairsOf : List PV → Option (List PV × List PV)
  | [] => some ([], [])
  | .tup [k, v] :: xs => (pairsOf xs).map fun r => (k :: r.1, v :: r.2)
  | _ :: _ => none
def putAll : List PV → List PV → List PV → List PV → List PV × List PV
  | ks, vs, k :: r, v :: t =>
    let p := putK k v ks vs
    putAll p.1 p.2 r t
  | ks, vs, _, _ => (ks, vs)
def countP (x : PV) : List PV → Nat
  | [] => 0
  | y :: ys => if pyEq y x then countP x ys + 1 else countP x ys
def indexP (x : PV) : List PV → Nat → Option Nat
  | [], _ => none
  | y :: ys, i => if pyEq y x then some i else indexP x ys (i + 1)
def rangeL (lo : Int) : Nat → List PV
  | 0 => []
  | n + 1 => .int lo :: rangeL (lo + 1) n

/-- the items of a list -/
def listOf : PV → Option (List PV)
  | .lst xs => some xs
  | .scr xs => some xs
  | _ => none
/-! ### operations -/
inductive Op where
  | add | sub | mul | mod | fdiv | pow | neg | not_
  | eq | ne | lt | le | gt | ge | in_ | notin | isN | notN
  | len | tuple | list | dict | sorted | sset | lset | min1 | max1 | min2 | max2 | sum | all | any | abs | int
  | ix | sl | slL | slH | rev | get2 | get1 | count | index | items | values
  | isi (m : Nat)
  deriving DecidableEq

/-- a type's bit in a mask of isinstance -/
def tyBit : PV → Nat
  | .non => 0
  | .bl _ => 3
  | .int _ => 1
  | .str _ => 4
  | .tup _ => 8
  | .lst _ => 16
  | .dct _ _ => 0
  | .fn _ => 0
  | .exn _ _ => 0
  | .scr _ => 0
def isiP (m : Nat) (v : PV) : Bool := match v with
  | .bl _ => Nat.testBit m 0 || Nat.testBit m 1
  | .int _ => Nat.testBit m 0
  | .str _ => Nat.testBit m 2
  | .tup _ => Nat.testBit m 3
  | .lst _ => Nat.testBit m 4
  | _ => false
def okIsi : PV → Bool
  | .dct _ _ => false
  | .fn _ => false
  | .exn _ _ => false
  | .scr _ => false
  | _ => true

def opAdd : List PV → Option PV
  | [.int a, .int b] => some (.int (a + b))
  | [.tup a, .tup b] => if short (a ++ b) then some (.tup (a ++ b)) else none
  | [.lst a, .lst b] => if short (a ++ b) then some (.lst (a ++ b)) else none
  | [.str a, .str b] => if Nat.blt (a.cps.size + b.cps.size) cap then some (.str ⟨a.cps ++ b.cps⟩) else none
  | _ => none
def repL (xs : List PV) : Nat → List PV
  | 0 => []
  | n + 1 => xs ++ repL xs n
def mulOk (a : List PV) (n : Int) : Bool := Nat.blt n.natAbs 1000 && iLt 1 n && Nat.blt a.length 1000 && (match a with | [] => false | _ :: _ => true)
def opMul : List PV → Option PV
  | [.int a, .int b] => if big64 a || big64 b then some (.int (a * b)) else none
  | [.tup a, .int n] => if mulOk a n then some (.tup (repL a n.toNat)) else none
  | [.lst a, .int n] => if Nat.blt (a.length * n.toNat) cap && Nat.blt n.natAbs cap then some (.lst (repL a n.toNat)) else none
  | _ => none
def cmpI (f : Int → Int → Bool) (g : PV → PV → Bool) : List PV → Option PV
  | [.int a, .int b] => some (.bl (f a b))
  | [.tup a, .tup b] => if areData a && areData b && alikes a b && alikes b a && Nat.blt (depths a) 59 && Nat.blt (depths b) 59 then some (.bl (g (.tup a) (.tup b))) else none
  | _ => none
def eqOk (a b : PV) : Bool := isData a && isData b && Nat.blt (depth a) 60 && Nat.blt (depth b) 60
def opEq : List PV → Option PV
  | [a, b] => if eqOk a b then some (.bl (pyEq a b)) else none
  | _ => none
def opNe : List PV → Option PV
  | [a, b] => if eqOk a b then some (.bl (!pyEq a b)) else none
  | _ => none
def inP : List PV → Option Bool
  | [x, .tup ys] => if eqOk x (.tup ys) then some (memP x ys) else none
  | [x, .lst ys] => if eqOk x (.lst ys) then some (memP x ys) else none
  | [x, .dct ks _] => if goodKeys (x :: ks) then some (memP x ks) else none
  | _ => none
def opLen : List PV → Option PV
  | [.tup xs] => some (.int (Int.ofNat xs.length))
  | [.lst xs] => some (.int (Int.ofNat xs.length))
  | [.dct ks _] => if goodKeys ks then some (.int (Int.ofNat ks.length)) else none
  | [.str s] => if Nat.blt s.cps.size cap then some (.int (Int.ofNat s.cps.size)) else none
  | [.scr xs] => some (.int (Int.ofNat xs.length))
  | _ => none
def opTuple : List PV → Option PV
  | [.tup xs] => some (.tup xs)
  | [.lst xs] => some (.tup xs)
  | _ => none
def opList : List PV → Option PV
  | [.tup xs] => some (.lst xs)
  | [.lst xs] => some (.lst xs)
  | _ => none
def opDict : List PV → Option PV
  | [.lst xs] => match pairsOf xs with
    | some (ks, vs) => if goodKeys ks then
        let r := putAll [] [] ks vs
        some (.dct r.1 r.2)
      else none
    | none => none
  | _ => none
def sortable (xs : List PV) : Bool := areData xs && allAlike xs && Nat.blt (depths xs) 60 && (xs.all fun x => match x with | .int _ => true | .str _ => true | .tup (_ :: _) => true | _ => false)
def opSorted : List PV → Option PV
  | [.lst xs] => if sortable xs && short xs then some (.lst (sortBy pyLt [] xs)) else none
  | [.tup xs] => if sortable xs && short xs then some (.lst (sortBy pyLt [] xs)) else none
  | _ => none
/-- sorted(set(xs)) -/
def opSset : List PV → Option PV
  | [.lst xs] => if xs.all tupKey then if sortable xs then
      let d := dedup [] xs
      if Nat.blt d.length 64 then if Nat.blt xs.length cap then some (.lst (sortBy pyLt [] d)) else none else none
    else none else none
  | _ => none
/-- len(set(xs)) -/
def opLset : List PV → Option PV
  | [.tup xs] => if xs.all tupKey && Nat.blt xs.length cap then some (.int (Int.ofNat (dedup [] xs).length)) else none
  | [.lst xs] => if xs.all tupKey && Nat.blt xs.length cap then some (.int (Int.ofNat (dedup [] xs).length)) else none
  | _ => none
def extreme (f : (PV → PV → Bool) → PV → List PV → PV) : List PV → Option PV
  | [.lst (x :: xs)] => if areData (x :: xs) && allAlike (x :: xs) && Nat.blt (depths (x :: xs)) 60 then some (f pyLt x xs) else none
  | _ => none
def opMin2 : List PV → Option PV
  | [.int a, .int b] => some (.int (if iLt b a then b else a))
  | _ => none
def opMax2 : List PV → Option PV
  | [.int a, .int b] => some (.int (if iLt a b then b else a))
  | _ => none
def sumI : List Int → Int
  | [] => 0
  | x :: xs => x + sumI xs
def opSum : List PV → Option PV
  | [v] => match listOf v with
    | some xs => (intsP xs).map fun is => .int (sumI is)
    | none => none
  | _ => none
def opAll : List PV → Option PV
  | [v] => match listOf v with
    | some xs => (bools xs).map fun bs => .bl (bs.all id)
    | none => none
  | _ => none
def opAny : List PV → Option PV
  | [v] => match listOf v with
    | some xs => (bools xs).map fun bs => .bl (bs.any id)
    | none => none
  | _ => none
def opIx : List PV → Option PV
  | [.tup xs, .int i] => match ixOf xs.length i with
    | some j => xs[j]?
    | none => none
  | [.lst xs, .int i] => match ixOf xs.length i with
    | some j => xs[j]?
    | none => none
  | [.scr xs, .int i] => match ixOf xs.length i with
    | some j => xs[j]?
    | none => none
  | [.dct ks vs, k] => if goodKeys (k :: ks) then findK k ks vs else none
  | _ => none
def slOf (lo hi : Option Int) : PV → Option PV
  | .tup xs => some (.tup (cut xs (clip xs.length 0 lo) (clip xs.length xs.length hi)))
  | .lst xs => some (.lst (cut xs (clip xs.length 0 lo) (clip xs.length xs.length hi)))
  | .scr xs => some (.lst (cut xs (clip xs.length 0 lo) (clip xs.length xs.length hi)))
  | _ => none
def opSl : List PV → Option PV
  | [x, .int i, .int j] => slOf (some i) (some j) x
  | _ => none
def opSlL : List PV → Option PV
  | [x, .int i] => slOf (some i) none x
  | _ => none
def opSlH : List PV → Option PV
  | [x, .int j] => slOf none (some j) x
  | _ => none
def opRev : List PV → Option PV
  | [.tup xs] => some (.tup xs.reverse)
  | [.lst xs] => some (.lst xs.reverse)
  | _ => none
def opGet : List PV → Option PV
  | [.dct ks vs, k, d] => if goodKeys (k :: ks) then some ((findK k ks vs).getD d) else none
  | _ => none
def opSem : Op → List PV → Option PV
  | .add => opAdd
  | .sub => fun xs => match xs with
    | [.int a, .int b] => some (.int (a - b))
    | _ => none
  | .mul => opMul
  | .mod => fun xs => match xs with
    | [.int a, .int b] => if iEq b 0 then none else some (.int (a.fmod b))
    | _ => none
  | .fdiv => fun xs => match xs with
    | [.int a, .int b] => if iEq b 0 then none else if Nat.blt b.natAbs 1073741824 then some (.int (a.fdiv b)) else none
    | _ => none
  | .pow => fun xs => match xs with
    | [.int a, .int b] => if Nat.blt b.natAbs 1000 && iLt (-1) b && big64 a then some (.int (a ^ b.toNat)) else none
    | _ => none
  | .neg => fun xs => match xs with
    | [.int a] => some (.int (-a))
    | _ => none
  | .not_ => fun xs => match xs with
    | [v] => (truth v).map fun b => .bl (!b)
    | _ => none
  | .eq => opEq
  | .ne => opNe
  | .lt => cmpI iLt pyLt
  | .le => cmpI (fun a b => !iLt b a) (fun a b => !pyLt b a)
  | .gt => cmpI (fun a b => iLt b a) (fun a b => pyLt b a)
  | .ge => cmpI (fun a b => !iLt a b) (fun a b => !pyLt a b)
  | .in_ => fun xs => (inP xs).map .bl
  | .notin => fun xs => (inP xs).map fun b => .bl (!b)
  | .isN => fun xs => match xs with
    | [.non] => some (.bl true)
    | [_] => some (.bl false)
    | _ => none
  | .notN => fun xs => match xs with
    | [.non] => some (.bl false)
    | [_] => some (.bl true)
    | _ => none
  | .len => opLen
  | .tuple => opTuple
  | .list => opList
  | .dict => opDict
  | .sorted => opSorted
  | .sset => opSset
  | .lset => opLset
  | .min1 => extreme leastBy
  | .max1 => extreme greatestBy
  | .min2 => opMin2
  | .max2 => opMax2
  | .sum => opSum
  | .all => opAll
  | .any => opAny
  | .abs => fun xs => match xs with
    | [.int a] => some (.int (if iLt a 0 then -a else a))
    | _ => none
  | .int => fun xs => match xs with
    | [.int a] => some (.int a)
    | [.bl b] => some (.int (bI b))
    | _ => none
  | .ix => opIx
  | .sl => opSl
  | .slL => opSlL
  | .slH => opSlH
  | .rev => opRev
  | .get2 => opGet
  | .get1 => fun xs => match xs with
    | [d, k] => opGet [d, k, .non]
    | _ => none
  | .count => fun xs => match xs with
    | [v, x] => match items v with
      | some ys => if eqOk x v then some (.int (Int.ofNat (countP x ys))) else none
      | none => none
    | _ => none
  | .index => fun xs => match xs with
    | [v, x] => match items v with
      | some ys => if eqOk x v then (indexP x ys 0).map fun n => .int (Int.ofNat n) else none
      | none => none
    | _ => none
  | .items => fun xs => match xs with
    | [.dct ks vs] => some (.lst (ks.zip vs |>.map fun p => .tup [p.1, p.2]))
    | _ => none
  | .values => fun xs => match xs with
    | [.dct _ vs] => some (.lst vs)
    | _ => none
  | .isi m => fun xs => match xs with
    | [v] => if okIsi v then some (.bl (isiP m v)) else none
    | _ => none

/-! ### the language -/
mutual
inductive E where
  | var (i : Nat)
  | cst (v : PV)
  | op (o : Op) (es : Es)
  | and (a b : E)
  | or (a b : E)
  | ite (c a b : E)
  | chain (o p : Op) (a b c : E)
  | tup (es : Es)
  | lst (es : Es)
  | dnew (ks vs : Es)
  | lc (own : List Nat) (g : G) (it : It) (c : E) (e : E)
  | lc2 (own : List Nat) (g : G) (it : It) (c : E) (g1 : G) (it1 : It) (c1 : E) (e : E)
  | dc (own : List Nat) (g : G) (it : It) (c : E) (k v : E)
  | call (f : Nat) (perm : List Nat) (wb : List (Option Nat)) (es : Es)
  | sortk (f : Nat) (e : E)
  | callv (gs : List Nat) (f : E) (es : Es)
  | ck (e : E)
  | ckn (e : E)
  | mv (x : Nat)
  | fld (c : Nat) (i : Nat)
  | isx (m : Nat) (i : Nat)
  | pop (x : Nat)
  | popi (x : Nat) (e : E)
inductive Es where
  | nil
  | cons (e : E) (r : Es)
  | star (e : E) (r : Es)
inductive It where
  | seq (e : E)
  | range (es : Es)
  | enum (e : E)
  | zip (a b : E)
  | items (e : E)
  | values (e : E)
inductive G where
  | name (i : Nat)
  | tup (gs : Gs)
inductive Gs where
  | nil
  | cons (g : G) (r : Gs)
end
mutual
inductive T where
  | name (i : Nat)
  | new (i : Nat)
  | sub (x : Nat) (k : E)
  | tup (ts : Ts)
inductive Ts where
  | nil
  | cons (t : T) (r : Ts)
end
mutual
inductive S where
  | expr (e : E)
  | asg (t : T) (e : E)
  | par (ts : Ts) (es : Es)
  | aug (i : Nat) (o : Op) (e : E)
  | augx (x : Nat) (k : E) (o : Op) (e : E)
  | app (x : Nat) (e : E)
  | ext (x : Nat) (e : E)
  | upd (x : Nat) (e : E)
  | sdf (x : Nat) (k e : E)
  | sdapp (x : Nat) (k e : E)
  | ixapp (x : Nat) (k e : E)
  | ifs (c : E) (a b : Ss)
  | whl (c : E) (b : Ss)
  | for_ (g : G) (it : It) (b : Ss)
  | ret (e : E)
  | retn
  | raise (c : Nat) (es : Es)
  | try_ (b : Ss) (hs : Hs)
  | pass
  | cont
inductive Ss where
  | nil
  | cons (s : S) (r : Ss)
inductive Hs where
  | nil
  | cons (c : Nat) (x : Option Nat) (b : Ss) (r : Hs)
end

abbrev Env := List (Option PV)
inductive R (α : Type) where
  | ok (a : α) (env : Env)
  | exc (c : Nat) (pl : List PV) (env : Env)
  | stk
/-- what a def's call comes to; outs: what the parameters hold that it changes -/
inductive FR where
  | ret (v : PV) (outs : List PV)
  | exc (c : Nat) (pl : List PV) (outs : List PV)
  | stk
abbrev Fn := Nat → List PV → FR

def R.bind {α β : Type} (r : R α) (f : α → Env → R β) : R β := match r with
  | .ok a env => f a env
  | .exc c pl env => .exc c pl env
  | .stk => .stk
def R.opt {α : Type} (o : Option α) (env : Env) : R α := match o with
  | some a => .ok a env
  | none => .stk

def getE : Env → Nat → Option PV
  | [], _ => none
  | v :: r, i => match i with
    | 0 => v
    | j + 1 => getE r j
def setE : Env → Nat → Option PV → Env
  | [], _, _ => []
  | v :: r, i, x => match i with
    | 0 => x :: r
    | j + 1 => v :: setE r j x
def wipeE (env : Env) : List Nat → Env
  | [] => env
  | i :: is => setE (wipeE env is) i none
/-- the places of own as they were -/
def backE (old env : Env) : List Nat → Env
  | [] => env
  | i :: is => setE (backE old env is) i (getE old i)

mutual
def bindG : G → PV → Env → Option Env
  | .name i, v, env => some (setE env i (some v))
  | .tup gs, v, env => match v with
    | .tup xs => bindGs gs xs env
    | _ => none
def bindGs : Gs → List PV → Env → Option Env
  | .nil, xs, env => match xs with
    | [] => some env
    | _ :: _ => none
  | .cons g r, xs, env => match xs with
    | [] => none
    | x :: xs => match bindG g x env with
      | some env => bindGs r xs env
      | none => none
end
/-! no list, no dict within -/
mutual
def frozen : PV → Bool
  | .tup xs => frozens xs
  | .lst _ => false
  | .dct _ _ => false
  | .exn _ _ => false
  | .scr _ => false
  | _ => true
def frozens : List PV → Bool
  | [] => true
  | x :: xs => if frozen x then frozens xs else false
end
def writeBack : List (Option Nat) → List PV → Env → Option Env
  | [], [], env => some env
  | w :: ws, v :: vs, env => match w with
    | some x => writeBack ws vs (setE env x (some v))
    | none => writeBack ws vs env
  | _, _, _ => none
def inFrozen : PV → Bool
  | .lst xs => frozens xs
  | .dct ks vs => frozens ks && frozens vs
  | _ => false
def fromFR (wb : List (Option Nat)) (env : Env) : FR → R PV
  | .ret v outs => if outs.all inFrozen then match writeBack wb outs env with
      | some env => .ok v env
      | none => .stk
    else .stk
  | .exc c pl outs => if outs.all inFrozen then match writeBack wb outs env with
      | some env => .exc c pl env
      | none => .stk
    else .stk
  | .stk => .stk
/-- the loop of a comprehension, in one list -/
def compLoop (own : List Nat) (g : PV → Env → Option Env) (c e : Env → R PV) : List PV → List PV → Env → R (List PV)
  | acc, [], env => .ok acc env
  | acc, x :: xs, env => match g x (wipeE env own) with
    | none => .stk
    | some env => (c env).bind fun b env => match truth b with
      | some true => (e env).bind fun v env => if short acc then compLoop own g c e (acc ++ [v]) xs env else .stk
      | some false => compLoop own g c e acc xs env
      | none => .stk
/-- .. with a second clause -/
def compLoop2 (own : List Nat) (g : PV → Env → Option Env) (c : Env → R PV) (it : Env → R (List PV)) (inner : List PV → List PV → Env → R (List PV)) : List PV → List PV → Env → R (List PV)
  | acc, [], env => .ok acc env
  | acc, x :: xs, env => match g x (wipeE env own) with
    | none => .stk
    | some env => (c env).bind fun b env => match truth b with
      | some true => (it env).bind fun ys env => (inner acc ys env).bind fun acc env => compLoop2 own g c it inner acc xs env
      | some false => compLoop2 own g c it inner acc xs env
      | none => .stk
/-- the second clause's turns: the first clause's names stay -/
def innerLoop (g : PV → Env → Option Env) (c e : Env → R PV) : List PV → List PV → Env → R (List PV)
  | acc, [], env => .ok acc env
  | acc, x :: xs, env => match g x env with
    | none => .stk
    | some env => (c env).bind fun b env => match truth b with
      | some true => (e env).bind fun v env => if short acc then innerLoop g c e (acc ++ [v]) xs env else .stk
      | some false => innerLoop g c e acc xs env
      | none => .stk
/-- .. into a dict -/
def compLoopD (own : List Nat) (g : PV → Env → Option Env) (c k v : Env → R PV) : List PV → List PV → List PV → Env → R PV
  | ks, vs, [], env => .ok (.dct ks vs) env
  | ks, vs, x :: xs, env => match g x (wipeE env own) with
    | none => .stk
    | some env => (c env).bind fun b env => match truth b with
      | some true => (k env).bind fun a env => (v env).bind fun b env => if goodKeys (a :: ks) then
          let r := putK a b ks vs
          compLoopD own g c k v r.1 r.2 xs env
        else .stk
      | some false => compLoopD own g c k v ks vs xs env
      | none => .stk
def iterOf : PV → Option (List PV)
  | .tup xs => some xs
  | .lst xs => some xs
  | .scr xs => some xs
  | _ => none
/-- two lists, or two tuples -/
def bothOf : PV → PV → Option (List PV × List PV)
  | .tup xs, y => match y with | .tup ys => some (xs, ys) | _ => none
  | x, y => match listOf x, listOf y with | some xs, some ys => some (xs, ys) | _, _ => none
def small (i : Int) : Bool := Nat.blt i.natAbs 1000000000000000000
def rangeOf : List PV → Option (List PV)
  | [.int n] => if small n && Nat.blt n.toNat cap then some (rangeL 0 n.toNat) else none
  | [.int a, .int b] => if small a && small b && Nat.blt (b - a).toNat cap then some (rangeL a (b - a).toNat) else none
  | [.int a, .int b, .int c] => if small a && small b && small c && Nat.blt (b - a).natAbs cap then rangeStep a b c else none
  | _ => none
where
  rangeStep (a b c : Int) : Option (List PV) :=
    if iLt 0 c then some (go a c ((b - a + (c - 1)).fdiv c).toNat)
    else if iLt c 0 then some (go a c ((a - b + (-c - 1)).fdiv (-c)).toNat) else none
  go (a c : Int) : Nat → List PV
    | 0 => []
    | n + 1 => .int a :: go (a + c) c n
def enumFrom (i : Nat) : List PV → List PV
  | [] => []
  | x :: xs => .tup [.int (Int.ofNat i), x] :: enumFrom (i + 1) xs
def zipP : List PV → List PV → List PV
  | x :: xs, y :: ys => .tup [x, y] :: zipP xs ys
  | _, _ => []
def lastOut : List PV → Option (PV × List PV)
  | [] => none
  | [x] => some (x, [])
  | x :: xs => match lastOut xs with
    | some (y, r) => some (y, x :: r)
    | none => none
def baseOf (c : Nat) : Nat := if Nat.blt c 4 then 0 else 1

def permute (perm : List Nat) (vs : List PV) : List PV := match perm with
  | [] => vs
  | _ :: _ => perm.filterMap fun i => vs[i]?
def fstP : PV → PV
  | .tup (x :: _) => x
  | _ => .non
def sndP : PV → PV
  | .tup (_ :: y :: _) => y
  | _ => .non
/-- a def's answers for each item, where it changes nothing -/
def keysBy (F : Fn) (f : Nat) : List PV → Option (List PV)
  | [] => some []
  | x :: xs => match F f [x], keysBy F f xs with
    | .ret v [], some vs => some (v :: vs)
    | _, _ => none

/-- a list that is made for the call alone holds nothing that changes -/
def tempOk : List (Option Nat) → List PV → Bool
  | none :: _, v :: _ => inFrozen v
  | none :: _, [] => false
  | _, _ => true
def isExn : PV → Bool
  | .exn _ _ => true
  | _ => false
mutual
def ev (F : Fn) : E → Env → R PV
  | .var i, env => match getE env i with
    | none => .stk
    | some v => if isExn v then .stk else .ok v env
  | .cst v, env => .ok v env
  | .op o es, env => (evs F es env).bind fun vs env => R.opt (opSem o vs) env
  | .and a b, env => (ev F a env).bind fun v env => match truth v with
    | some true => ev F b env
    | some false => .ok v env
    | none => .stk
  | .or a b, env => (ev F a env).bind fun v env => match truth v with
    | some true => .ok v env
    | some false => ev F b env
    | none => .stk
  | .ite c a b, env => (ev F c env).bind fun v env => match truth v with
    | some true => ev F a env
    | some false => ev F b env
    | none => .stk
  | .chain o p a b c, env => (ev F a env).bind fun x env => (ev F b env).bind fun y env => match opSem o [x, y] with
    | some (.bl true) => (ev F c env).bind fun z env => R.opt (opSem p [y, z]) env
    | some (.bl false) => .ok (.bl false) env
    | _ => .stk
  | .tup es, env => (evs F es env).bind fun vs env => if short vs then .ok (.tup vs) env else .stk
  | .lst es, env => (evs F es env).bind fun vs env => if short vs then .ok (.lst vs) env else .stk
  | .dnew ks vs, env => (evs F ks env).bind fun ks env => (evs F vs env).bind fun vs env => if goodKeys ks then
      let r := putAll [] [] ks vs
      .ok (.dct r.1 r.2) env
    else .stk
  | .lc own g it c e, env => (evi F it env).bind fun xs env => match compLoop own (bindG g) (ev F c) (ev F e) [] xs env with
    | .ok ys env' => .ok (.lst ys) (backE env env' own)
    | _ => .stk
  | .lc2 own g it c g1 it1 c1 e, env => (evi F it env).bind fun xs env => match compLoop2 own (bindG g) (ev F c) (evi F it1) (innerLoop (bindG g1) (ev F c1) (ev F e)) [] xs env with
    | .ok ys env' => .ok (.lst ys) (backE env env' own)
    | _ => .stk
  | .dc own g it c k v, env => (evi F it env).bind fun xs env => match compLoopD own (bindG g) (ev F c) (ev F k) (ev F v) [] [] xs env with
    | .ok d env' => .ok d (backE env env' own)
    | _ => .stk
  | .call f perm wb es, env => (evs F es env).bind fun vs env => if tempOk wb vs then fromFR wb env (F f (permute perm vs)) else .stk
  | .sortk f e, env => (ev F e env).bind fun v env => match items v with
    | some xs => match keysBy F f xs with
      | some ks => if sortable ks then .ok (.lst ((sortBy (fun a b => pyLt (fstP a) (fstP b)) [] (zipP ks xs)).map sndP)) env else .stk
      | none => .stk
    | none => .stk
  | .callv gs f es, env => (ev F f env).bind fun f env => match f with
    | .fn g => if gs.any fun z => Nat.beq z g then (evs F es env).bind fun vs env => fromFR [] env (F g vs) else .stk
    | _ => .stk
  | .ck e, env => (ev F e env).bind fun v env => if frozen v then .ok v env else .stk
  | .ckn e, env => (ev F e env).bind fun v env => if inFrozen v then .ok v env else .stk
  | .mv x, env => match getE env x with
    | some v => .ok v (setE env x none)
    | none => .stk
  | .fld c i, env => match getE env i with
    | some (.exn d pl) => if Nat.beq c d then R.opt pl.head? env else .stk
    | _ => .stk
  | .isx m i, env => match getE env i with
    | some (.exn d _) => .ok (.bl (Nat.beq (baseOf d) m)) env
    | _ => .stk
  | .pop x, env => match getE env x with
    | some (.lst xs) => match lastOut xs with
      | some (v, r) => .ok v (setE env x (some (.lst r)))
      | none => .stk
    | _ => .stk
  | .popi x e, env => (ev F e env).bind fun i env => match getE env x, i with
    | some (.lst xs), .int i => match ixOf xs.length i with
      | some j => match xs[j]? with
        | some v => .ok v (setE env x (some (.lst (xs.eraseIdx j))))
        | none => .stk
      | none => .stk
    | _, _ => .stk
def evs (F : Fn) : Es → Env → R (List PV)
  | .nil, env => .ok [] env
  | .cons e r, env => (ev F e env).bind fun v env => (evs F r env).bind fun vs env => .ok (v :: vs) env
  | .star e r, env => (ev F e env).bind fun v env => match items v with
    | some xs => (evs F r env).bind fun vs env => .ok (xs ++ vs) env
    | none => .stk
def evi (F : Fn) : It → Env → R (List PV)
  | .seq e, env => (ev F e env).bind fun v env => R.opt (iterOf v) env
  | .range es, env => (evs F es env).bind fun vs env => R.opt (rangeOf vs) env
  | .enum e, env => (ev F e env).bind fun v env => R.opt ((listOf v).map (enumFrom 0)) env
  | .zip a b, env => (ev F a env).bind fun x env => (ev F b env).bind fun y env => R.opt ((bothOf x y).map fun p => zipP p.1 p.2) env
  | .items e, env => (ev F e env).bind fun v env => match v with
    | .dct ks vs => .ok (zipP ks vs) env
    | _ => .stk
  | .values e, env => (ev F e env).bind fun v env => match v with
    | .dct _ vs => .ok vs env
    | _ => .stk
end

inductive Fl where
  | next
  | ret (v : PV)
  | cont

/-- x[k] = v -/
def putAt (k v : PV) : PV → Option PV
  | .lst xs => match k with
    | .int i => match ixOf xs.length i with
      | some j => some (.lst (xs.set j v))
      | none => none
    | _ => none
  | .dct ks vs => if goodKeys (k :: ks) then
      let r := putK k v ks vs
      if short r.1 then some (.dct r.1 r.2) else none
    else none
  | _ => none
mutual
def asgT (F : Fn) : T → PV → Env → R Unit
  | .name i, v, env => .ok () (setE env i (some v))
  | .sub x k, v, env => if (getE env x).isSome then (ev F k env).bind fun k env => match getE env x with
      | some o => match putAt k v o with
        | some o => .ok () (setE env x (some o))
        | none => .stk
      | none => .stk
    else .stk
  | .new i, v, env => if inFrozen v then .ok () (setE env i (some v)) else .stk
  | .tup ts, v, env => match v with
    | .tup xs => asgTs F ts xs env
    | _ => .stk
def asgTs (F : Fn) : Ts → List PV → Env → R Unit
  | .nil, xs, env => match xs with
    | [] => .ok () env
    | _ :: _ => .stk
  | .cons t r, xs, env => match xs with
    | [] => .stk
    | x :: xs => (asgT F t x env).bind fun _ env => asgTs F r xs env
end
/-- a for's turns -/
def forLoop (g : PV → Env → Option Env) (b : Env → R Fl) : List PV → Env → R Fl
  | [], env => .ok .next env
  | x :: xs, env => match g x env with
    | none => .stk
    | some env => (b env).bind fun f env => match f with
      | .next => forLoop g b xs env
      | .cont => forLoop g b xs env
      | .ret v => .ok (.ret v) env
/-- a while's turns: n at most -/
def whileLoop (c : Env → R PV) (b : Env → R Fl) : Nat → Env → R Fl
  | 0, _ => .stk
  | n + 1, env => (c env).bind fun v env => match truth v with
    | some false => .ok .next env
    | some true => (b env).bind fun f env => match f with
      | .next => whileLoop c b n env
      | .cont => whileLoop c b n env
      | .ret v => .ok (.ret v) env
    | none => .stk
def appTo (v : PV) : PV → Option PV
  | .lst xs => if short xs then some (.lst (xs ++ [v])) else none
  | _ => none
def extBy (v : PV) : PV → Option PV
  | .lst xs => match items v with
    | some ys => if short (xs ++ ys) then some (.lst (xs ++ ys)) else none
    | none => none
  | _ => none
def updBy (v : PV) : PV → Option PV
  | .dct ks vs => match v with
    | .lst ps => match pairsOf ps with
      | some (as, bs) => if goodKeys (as ++ ks) then if short (as ++ ks) then
            let r := putAll ks vs as bs
            some (.dct r.1 r.2)
          else none
        else none
      | none => none
    | _ => none
  | _ => none
def sdfBy (k v : PV) : PV → Option PV
  | .dct ks vs => if goodKeys (k :: ks) then match findK k ks vs with
      | some _ => some (.dct ks vs)
      | none => if short ks then some (.dct (ks ++ [k]) (vs ++ [v])) else none
    else none
  | _ => none
def atApp (k v : PV) : PV → Option PV
  | .dct ks vs => if goodKeys (k :: ks) then match findK k ks vs with
      | some o => match appTo v o with
        | some o => let r := putK k o ks vs
          some (.dct r.1 r.2)
        | none => none
      | none => none
    else none
  | .lst xs => match k with
    | .int i => match ixOf xs.length i with
      | some j => match xs[j]? with
        | some o => match appTo v o with
          | some o => some (.lst (xs.set j o))
          | none => none
        | none => none
      | none => none
    | _ => none
  | _ => none
def onSlot (x : Nat) (f : PV → Option PV) (env : Env) : R Fl := match getE env x with
  | some o => match f o with
    | some o => .ok .next (setE env x (some o))
    | none => .stk
  | none => .stk

def isL : Option PV → Bool
  | some (.lst _) => true
  | _ => false
def isDc : Option PV → Bool
  | some (.dct _ _) => true
  | _ => false
mutual
def ex (F : Fn) (W : Nat) : S → Env → R Fl
  | .expr e, env => (ev F e env).bind fun _ env => .ok .next env
  | .asg t e, env => (ev F e env).bind fun v env => (asgT F t v env).bind fun _ env => .ok .next env
  | .par ts es, env => (evs F es env).bind fun vs env => (asgTs F ts vs env).bind fun _ env => .ok .next env
  | .aug i o e, env => match getE env i with
    | some (.int x) => (ev F e env).bind fun y env => match y with
      | .int y => match opSem o [.int x, .int y] with
        | some (.int z) => .ok .next (setE env i (some (.int z)))
        | _ => .stk
      | _ => .stk
    | _ => .stk
  | .augx x k o e, env => (ev F k env).bind fun k env => match getE env x with
    | some d => match opIx [d, k] with
      | some a => (ev F e env).bind fun b env => match opSem o [a, b] with
        | some z => onSlot x (putAt k z) env
        | none => .stk
      | none => .stk
    | none => .stk
  | .app x e, env => if isL (getE env x) then (ev F e env).bind fun v env => onSlot x (appTo v) env else .stk
  | .ext x e, env => if isL (getE env x) then (ev F e env).bind fun v env => onSlot x (extBy v) env else .stk
  | .upd x e, env => if isDc (getE env x) then (ev F e env).bind fun v env => onSlot x (updBy v) env else .stk
  | .sdf x k e, env => if isDc (getE env x) then (ev F k env).bind fun k env => (ev F e env).bind fun v env => onSlot x (sdfBy k v) env else .stk
  | .sdapp x k e, env => (ev F k env).bind fun k env => (onSlot x (sdfBy k (.lst [])) env).bind fun _ env => (ev F e env).bind fun v env => onSlot x (atApp k v) env
  | .ixapp x k e, env => (ev F k env).bind fun k env => (ev F e env).bind fun v env => onSlot x (atApp k v) env
  | .ifs c a b, env => (ev F c env).bind fun v env => match truth v with
    | some true => exs F W a env
    | some false => exs F W b env
    | none => .stk
  | .whl c b, env => whileLoop (ev F c) (exs F W b) W env
  | .for_ g it b, env => (evi F it env).bind fun xs env => forLoop (bindG g) (exs F W b) xs env
  | .ret e, env => (ev F e env).bind fun v env => .ok (.ret v) env
  | .retn, env => .ok (.ret .non) env
  | .raise c es, env => (evs F es env).bind fun vs env => if frozens vs then .exc c vs env else .stk
  | .try_ b hs, env => match exs F W b env with
    | .exc c pl env => exh F W hs c pl env
    | .ok a env => .ok a env
    | .stk => .stk
  | .pass, env => .ok .next env
  | .cont, env => .ok .cont env
def exs (F : Fn) (W : Nat) : Ss → Env → R Fl
  | .nil, env => .ok .next env
  | .cons s r, env => (ex F W s env).bind fun f env => match f with
    | .next => exs F W r env
    | .ret v => .ok (.ret v) env
    | .cont => .ok .cont env
def exh (F : Fn) (W : Nat) : Hs → Nat → List PV → Env → R Fl
  | .nil, c, pl, env => .exc c pl env
  | .cons d x b r, c, pl, env => if Nat.beq c d then
      match x with
      | some i => match exs F W b (setE env i (some (.exn c pl))) with
        | .ok f env => .ok f (setE env i none)
        | .exc _ _ _ => .stk
        | .stk => .stk
      | none => exs F W b env
    else exh F W r c pl env
end

/-- a def: how many slots, which parameters it changes, its body -/
structure Df where
  arity : Nat
  slots : Nat
  io : List Nat
  body : Ss
def outsOf (io : List Nat) (env : Env) : Option (List PV) := match io with
  | [] => some []
  | i :: r => match getE env i, outsOf r env with
    | some v, some vs => some (v :: vs)
    | _, _ => none
def runD (F : Fn) (W : Nat) (d : Df) (vs : List PV) : FR :=
  if Nat.beq vs.length d.arity then
    match exs F W d.body (vs.map some ++ List.replicate (d.slots - d.arity) none) with
    | .ok f env => match outsOf d.io env with
      | some outs => match f with
        | .ret v => .ret v outs
        | .next => .ret .non outs
        | .cont => .stk
      | none => .stk
    | .exc c pl env => match outsOf d.io env with
      | some outs => .exc c pl outs
      | none => .stk
    | .stk => .stk
  else .stk
/-- n: how deep calls may go; W: how many turns a while may take -/
def runF (T : Nat → Option Df) (W : Nat) : Nat → Fn
  | 0 => fun _ _ => .stk
  | n + 1 => fun f vs => match T f with
    | some d => runD (runF T W n) W d vs
    | none => .stk
end Sl

/-! Ev3: how a tree of Ev1 stands in the abstract heap of the hand layer. -/
namespace Sl
open PySem PySem.Spec PyProof.Rows L2

/-- what is fixed: the written part, the world, where the defs stand -/
structure Gx where
  K : PySem.W.Frag
  w : World
  fa : Nat → Addr
  ca : Nat → Addr
  cf : Nat → Str
  fr : Nat → Bool
  kn : Nat → Bool

/-- a dict object told by its entries -/
def isD (a : Addr) (es : List DictEntry) (h : Heap) : Prop := ∃ o ep, h.get? a = some o ∧ o.ExactDict ∧ o.data = .dict es.toArray ep
def dO (a : Addr) (es : List DictEntry) : HO := .ext (isD a es)

mutual
def keyP : PV → NestedKey
  | .non => .none
  | .bl b => .num (bI b)
  | .int i => .num i
  | .str x => .text x
  | .tup xs => .tup (keyPs xs)
  | .lst _ => .none
  | .dct _ _ => .none
  | .fn _ => .none
  | .exn _ _ => .none
  | .scr _ => .none
def keyPs : List PV → List NestedKey
  | [] => []
  | x :: xs => keyP x :: keyPs xs
end

/-- the list at a is not anybody's own: frozen, or of the written part -/
def Nl (K : PySem.W.Frag) (Om : Addr → Prop) (H : Hp) (a : Addr) (vs : List V) : Prop := (Rd H a (.lst vs) ∧ ¬ Om a) ∨
  ∃ (ob : Obj) (us : Array Value) (k : Nat), K.lookup a = some ob ∧ ob.cls = .type "list" ∧ ob.dict = none ∧ ob.data = .seq us k ∧ us.size ≤ sizeLine ∧ Vals vs us.toList
theorem Nl.sq {K : PySem.W.Frag} {Om : Addr → Prop} {H : Hp} {a : Addr} {vs : List V} (h : Nl K Om H a vs) : SqL K H a vs := h.imp (fun q => q.1) id
section
variable (G : Gx) (Om : Addr → Prop) (H : Hp)
mutual
/-- v stands for the tree; Om: whose lists and dicts are owned elsewhere -/
def Rep : PV → V → Prop
  | .non => fun v => v = .non
  | .bl b => fun v => v = .bl b
  | .int i => fun v => v = .int i
  | .str x => fun v => v = .str x
  | .tup xs => fun v => ∃ a vs, v = .ref a ∧ SqT G.K H a vs ∧ Reps xs vs
  | .lst xs => fun v => ∃ a vs, v = .ref a ∧ ¬ Om a ∧ H a = some (.lst vs) ∧ Reps xs vs
  | .dct ks vs => fun v => ∃ a es, v = .ref a ∧ ¬ Om a ∧ H a = some (dO a es) ∧ es.length ≤ sizeLine ∧ (a == sysModules) = false ∧ (keyPs ks).Nodup ∧ RepK ks es ∧ RepE vs es
  | .fn g => fun v => v = .ref (G.fa g)
  | .exn _ _ => fun _ => False
  | .scr xs => fun v => ∃ a vs, v = .ref a ∧ Nl G.K Om H a vs ∧ Reps xs vs
def Reps : List PV → List V → Prop
  | [] => fun vs => vs = []
  | x :: xs => fun vs => ∃ v r, vs = v :: r ∧ Rep x v ∧ Reps xs r
/-- the keys of the entries -/
def RepK : List PV → List DictEntry → Prop
  | [] => fun es => es = []
  | k :: ks => fun es => ∃ e r v, es = e :: r ∧ e.hash = (keyP k).hash G.w ∧ RelV v e.key ∧ Rep k v ∧ RepK ks r
/-- the values of the entries -/
def RepE : List PV → List DictEntry → Prop
  | [] => fun es => es = []
  | x :: xs => fun es => ∃ e r v, es = e :: r ∧ RelV v e.val ∧ Rep x v ∧ RepE xs r
end
end

/-- what may be owned: lists and dicts that are tracked -/
def Own1 (o : HO) : Prop := (∃ vs, o = .lst vs) ∨ ∃ φ, o = .ext φ
def OmOk (Om : Addr → Prop) (H : Hp) : Prop := ∀ a, Om a → ∃ o, H a = some o ∧ Own1 o
/-- all is kept but what stands in W -/
def Keep (W : Addr → Prop) (H H' : Hp) : Prop := ∀ a o, H a = some o → ¬ W a → H' a = some o
def none1 : Addr → Prop := fun _ => False

theorem Keep.refl {W : Addr → Prop} (H : Hp) : Keep W H H := fun _ _ e _ => e
theorem Keep.trans {W W' V : Addr → Prop} {H H1 H2 : Hp} (k : Keep W H H1) (k' : Keep W' H1 H2) (h : ∀ a, W a → V a) (h' : ∀ a, W' a → V a) : Keep V H H2 :=
  fun a o e n => k' a o (k a o e fun z => n (h a z)) fun z => n (h' a z)
theorem Keep.mono {W V : Addr → Prop} {H H' : Hp} (k : Keep W H H') (h : ∀ a, W a → V a) : Keep V H H' := fun a o e n => k a o e fun z => n (h a z)
theorem keep_new {W : Addr → Prop} {H : Hp} {p : Addr} {o : HO} (n : H p = none) : Keep W H (upd H p o) := fun a x e _ => by
  rw [upd_ne (ne_of_none e n)]; exact e

section
variable {G : Gx} {Om Om' W : Addr → Prop} {H H' : Hp}

theorem Rd.keep {a : Addr} {o : HO} (k : Keep W H H') (n : ¬ W a) (h : Rd H a o) : Rd H' a o := by
  rcases h with h | ⟨ob, h⟩
  · exact .inl (k a _ h n)
  · exact .inr ⟨ob, k a _ h n⟩
theorem SqT.keep' {a : Addr} {vs : List V} (k : Keep W H H') (hw : ∀ b, W b → ∃ o, H b = some o ∧ Own1 o) (h : SqT G.K H a vs) : SqT G.K H' a vs := by
  rcases h with h | h
  · refine .inl (Rd.keep k (fun z => ?_) h)
    obtain ⟨o, e, w⟩ := hw a z
    rcases h with h | ⟨ob, h⟩ <;> rw [e] at h <;> cases h <;> rcases w with ⟨_, q⟩ | ⟨_, q⟩ <;> cases q
  · exact .inr h

mutual
theorem Rep.keep (k : Keep W H H') (hw : ∀ b, W b → ∃ o, H b = some o ∧ Own1 o) (hs : ∀ a, W a → Om a) : ∀ (x : PV) (v : V), Rep G Om H x v → Rep G Om H' x v
  | .non, _, h => h
  | .bl _, _, h => h
  | .int _, _, h => h
  | .str _, _, h => h
  | .tup xs, v, h => by
    obtain ⟨a, vs, e, q, r⟩ := h
    exact ⟨a, vs, e, SqT.keep' k hw q, Reps.keep k hw hs xs vs r⟩
  | .lst xs, v, h => by
    obtain ⟨a, vs, e, n, q, r⟩ := h
    exact ⟨a, vs, e, n, k a _ q (fun z => n (hs a z)), Reps.keep k hw hs xs vs r⟩
  | .dct ks vs, v, h => by
    obtain ⟨a, es, e, n, q, z, y, nd, r, t⟩ := h
    exact ⟨a, es, e, n, k a _ q fun z => n (hs a z), z, y, nd, RepK.keep k hw hs ks es r, RepE.keep k hw hs vs es t⟩
  | .fn _, _, h => h
  | .exn _ _, _, h => h
  | .scr xs, v, h => by
    obtain ⟨a, vs, e, n, r⟩ := h
    exact ⟨a, vs, e, n.imp (fun q => ⟨Rd.keep k (fun z => q.2 (hs a z)) q.1, q.2⟩) id, Reps.keep k hw hs xs vs r⟩
theorem Reps.keep (k : Keep W H H') (hw : ∀ b, W b → ∃ o, H b = some o ∧ Own1 o) (hs : ∀ a, W a → Om a) : ∀ (xs : List PV) (vs : List V), Reps G Om H xs vs → Reps G Om H' xs vs
  | [], _, h => h
  | x :: xs, vs, h => by
    obtain ⟨v, r, e, h1, h2⟩ := h
    exact ⟨v, r, e, Rep.keep k hw hs x v h1, Reps.keep k hw hs xs r h2⟩
theorem RepK.keep (k : Keep W H H') (hw : ∀ b, W b → ∃ o, H b = some o ∧ Own1 o) (hs : ∀ a, W a → Om a) : ∀ (xs : List PV) (es : List DictEntry), RepK G Om H xs es → RepK G Om H' xs es
  | [], _, h => h
  | x :: xs, es, h => by
    obtain ⟨e, r, v, e1, q1, q2, h1, h2⟩ := h
    exact ⟨e, r, v, e1, q1, q2, Rep.keep k hw hs x v h1, RepK.keep k hw hs xs r h2⟩
theorem RepE.keep (k : Keep W H H') (hw : ∀ b, W b → ∃ o, H b = some o ∧ Own1 o) (hs : ∀ a, W a → Om a) : ∀ (xs : List PV) (es : List DictEntry), RepE G Om H xs es → RepE G Om H' xs es
  | [], _, h => h
  | x :: xs, es, h => by
    obtain ⟨e, r, v, e1, q2, h1, h2⟩ := h
    exact ⟨e, r, v, e1, q2, Rep.keep k hw hs x v h1, RepE.keep k hw hs xs r h2⟩
end
mutual
/-- other owners: what is owned now is none of the tree's -/
theorem Rep.own (hs : ∀ a o, H a = some o → Om' a → Om a) : ∀ (x : PV) (v : V), Rep G Om H x v → Rep G Om' H x v
  | .non, _, h => h
  | .bl _, _, h => h
  | .int _, _, h => h
  | .str _, _, h => h
  | .tup xs, v, h => by
    obtain ⟨a, vs, e, q, r⟩ := h
    exact ⟨a, vs, e, q, Reps.own hs xs vs r⟩
  | .lst xs, v, h => by
    obtain ⟨a, vs, e, n, q, r⟩ := h
    exact ⟨a, vs, e, fun z => n (hs a _ q z), q, Reps.own hs xs vs r⟩
  | .dct ks vs, v, h => by
    obtain ⟨a, es, e, n, q, z, y, nd, r, t⟩ := h
    exact ⟨a, es, e, fun z => n (hs a _ q z), q, z, y, nd, RepK.own hs ks es r, RepE.own hs vs es t⟩
  | .fn _, _, h => h
  | .exn _ _, _, h => h
  | .scr xs, v, h => by
    obtain ⟨a, vs, e, n, r⟩ := h
    refine ⟨a, vs, e, n.imp (fun w => ⟨w.1, fun z => w.2 ?_⟩) id, Reps.own hs xs vs r⟩
    rcases w.1 with q | ⟨ob, q⟩
    · exact hs a _ q z
    · exact hs a _ q z
theorem Reps.own (hs : ∀ a o, H a = some o → Om' a → Om a) : ∀ (xs : List PV) (vs : List V), Reps G Om H xs vs → Reps G Om' H xs vs
  | [], _, h => h
  | x :: xs, vs, h => by
    obtain ⟨v, r, e, h1, h2⟩ := h
    exact ⟨v, r, e, Rep.own hs x v h1, Reps.own hs xs r h2⟩
theorem RepK.own (hs : ∀ a o, H a = some o → Om' a → Om a) : ∀ (xs : List PV) (es : List DictEntry), RepK G Om H xs es → RepK G Om' H xs es
  | [], _, h => h
  | x :: xs, es, h => by
    obtain ⟨e, r, v, e1, q1, q2, h1, h2⟩ := h
    exact ⟨e, r, v, e1, q1, q2, Rep.own hs x v h1, RepK.own hs xs r h2⟩
theorem RepE.own (hs : ∀ a o, H a = some o → Om' a → Om a) : ∀ (xs : List PV) (es : List DictEntry), RepE G Om H xs es → RepE G Om' H xs es
  | [], _, h => h
  | x :: xs, es, h => by
    obtain ⟨e, r, v, e1, q2, h1, h2⟩ := h
    exact ⟨e, r, v, e1, q2, Rep.own hs x v h1, RepE.own hs xs r h2⟩
end
mutual
/-- a tree without lists and dicts is nobody's -/
theorem Rep.free : ∀ (x : PV) (v : V), frozen x = true → Rep G Om H x v → Rep G Om' H x v
  | .non, _, _, h => h
  | .bl _, _, _, h => h
  | .int _, _, _, h => h
  | .str _, _, _, h => h
  | .tup xs, v, f, h => by
    obtain ⟨a, vs, e, q, r⟩ := h
    exact ⟨a, vs, e, q, Reps.free xs vs (by simpa [frozen] using f) r⟩
  | .lst xs, v, f, h => by simp [frozen] at f
  | .dct ks vs, v, f, h => by simp [frozen] at f
  | .fn _, _, _, h => h
  | .exn _ _, _, _, h => h
  | .scr _, _, f, _ => by simp [frozen] at f
theorem Reps.free : ∀ (xs : List PV) (vs : List V), frozens xs = true → Reps G Om H xs vs → Reps G Om' H xs vs
  | [], _, _, h => h
  | x :: xs, vs, f, h => by
    obtain ⟨v, r, e, h1, h2⟩ := h
    have f1 : frozen x = true := by
      cases q : frozen x with
      | true => rfl
      | false => simp [frozens, q] at f
    have f2 : frozens xs = true := by simpa [frozens, f1] using f
    exact ⟨v, r, e, Rep.free x v f1 h1, Reps.free xs r f2 h2⟩
end

theorem RepK.free : ∀ (xs : List PV) (es : List DictEntry), frozens xs = true → RepK G Om H xs es → RepK G Om' H xs es
  | [], _, _, h => h
  | x :: xs, es, f, h => by
    obtain ⟨e, r, v, e1, q1, q2, h1, h2⟩ := h
    have f1 : frozen x = true := by
      cases q : frozen x with
      | true => rfl
      | false => simp [frozens, q] at f
    exact ⟨e, r, v, e1, q1, q2, Rep.free x v f1 h1, RepK.free xs r (by simpa [frozens, f1] using f) h2⟩
theorem RepE.free : ∀ (xs : List PV) (es : List DictEntry), frozens xs = true → RepE G Om H xs es → RepE G Om' H xs es
  | [], _, _, h => h
  | x :: xs, es, f, h => by
    obtain ⟨e, r, v, e1, q2, h1, h2⟩ := h
    have f1 : frozen x = true := by
      cases q : frozen x with
      | true => rfl
      | false => simp [frozens, q] at f
    exact ⟨e, r, v, e1, q2, Rep.free x v f1 h1, RepE.free xs r (by simpa [frozens, f1] using f) h2⟩
theorem Reps.length : ∀ {xs : List PV} {vs : List V}, Reps G Om H xs vs → vs.length = xs.length
  | [], _, h => by rw [show _ = [] from h]; rfl
  | x :: xs, vs, h => by
    obtain ⟨v, r, e, _, h2⟩ := h
    rw [e, List.length_cons, List.length_cons, Reps.length h2]
theorem Reps.get : ∀ {xs : List PV} {vs : List V} {i : Nat} {x : PV}, Reps G Om H xs vs → xs[i]? = some x → ∃ v, vs[i]? = some v ∧ Rep G Om H x v
  | [], _, _, _, _, e => by simp at e
  | y :: xs, vs, 0, x, h, e => by
    obtain ⟨v, r, e1, h1, h2⟩ := h
    simp at e; subst e; subst e1
    exact ⟨v, rfl, h1⟩
  | y :: xs, vs, i + 1, x, h, e => by
    obtain ⟨v, r, e1, h1, h2⟩ := h
    subst e1
    obtain ⟨u, q1, q2⟩ := Reps.get (i := i) h2 (by simpa using e)
    exact ⟨u, by simpa using q1, q2⟩
theorem Reps.append : ∀ {xs ys : List PV} {vs ws : List V}, Reps G Om H xs vs → Reps G Om H ys ws → Reps G Om H (xs ++ ys) (vs ++ ws)
  | [], ys, vs, ws, h, h' => by rw [show vs = [] from h]; exact h'
  | x :: xs, ys, vs, ws, h, h' => by
    obtain ⟨v, r, e, h1, h2⟩ := h
    subst e
    exact ⟨v, r ++ ws, rfl, h1, Reps.append h2 h'⟩
theorem Reps.drop : ∀ {xs : List PV} {vs : List V} (n : Nat), Reps G Om H xs vs → Reps G Om H (xs.drop n) (vs.drop n)
  | xs, vs, 0, h => h
  | [], vs, n + 1, h => by rw [show vs = [] from h]; rfl
  | x :: xs, vs, n + 1, h => by
    obtain ⟨v, r, e, h1, h2⟩ := h
    subst e
    exact Reps.drop n h2
theorem Reps.take : ∀ {xs : List PV} {vs : List V} (n : Nat), Reps G Om H xs vs → Reps G Om H (xs.take n) (vs.take n)
  | xs, vs, 0, h => rfl
  | [], vs, n + 1, h => by rw [show vs = [] from h]; rfl
  | x :: xs, vs, n + 1, h => by
    obtain ⟨v, r, e, h1, h2⟩ := h
    subst e
    exact ⟨v, r.take n, rfl, h1, Reps.take n h2⟩
theorem Reps.set : ∀ {xs : List PV} {vs : List V} (n : Nat) {x : PV} {v : V}, Reps G Om H xs vs → Rep G Om H x v → Reps G Om H (xs.set n x) (vs.set n v)
  | [], vs, n, x, v, h, _ => by rw [show vs = [] from h]; rfl
  | y :: xs, vs, 0, x, v, h, q => by
    obtain ⟨u, r, e, h1, h2⟩ := h
    subst e
    exact ⟨v, r, rfl, q, h2⟩
  | y :: xs, vs, n + 1, x, v, h, q => by
    obtain ⟨u, r, e, h1, h2⟩ := h
    subst e
    exact ⟨u, r.set n v, rfl, h1, Reps.set n h2 q⟩
theorem Reps.one {x : PV} {vs : List V} (h : Reps G Om H [x] vs) : ∃ v, vs = [v] ∧ Rep G Om H x v := by
  obtain ⟨v, r, e, h1, h2⟩ := h
  rw [show r = [] from h2] at e
  exact ⟨v, e, h1⟩
theorem Reps.two {x y : PV} {vs : List V} (h : Reps G Om H [x, y] vs) : ∃ v w, vs = [v, w] ∧ Rep G Om H x v ∧ Rep G Om H y w := by
  obtain ⟨v, r, e, h1, h2⟩ := h
  obtain ⟨w, e2, h3⟩ := h2.one
  subst e2
  exact ⟨v, w, e, h1, h3⟩
theorem Reps.cons {x : PV} {xs : List PV} {v : V} {vs : List V} (h : Rep G Om H x v) (h' : Reps G Om H xs vs) : Reps G Om H (x :: xs) (v :: vs) := ⟨v, vs, rfl, h, h'⟩
theorem Reps.nil : Reps G Om H [] [] := rfl
theorem Reps.reverse : ∀ {xs : List PV} {vs : List V}, Reps G Om H xs vs → Reps G Om H xs.reverse vs.reverse
  | [], vs, h => by rw [show vs = [] from h]; rfl
  | x :: xs, vs, h => by
    obtain ⟨v, r, e, h1, h2⟩ := h
    subst e
    rw [List.reverse_cons, List.reverse_cons]
    exact (Reps.reverse h2).append (Reps.cons h1 Reps.nil)
end
end Sl

/-! Ev4: trees as data: == and < of trees are those of the library's data; trees as keys. -/
namespace Sl
open PySem PySem.Spec PyProof.Rows L2
mutual
def dataP : PV → PyData
  | .non => .none
  | .bl b => .bool b
  | .int i => .int i
  | .str x => .str x
  | .tup xs => .tuple (dataPs xs)
  | .lst xs => .list (dataPs xs)
  | .dct _ _ => .none
  | .fn _ => .none
  | .exn _ _ => .none
  | .scr _ => .none
def dataPs : List PV → List PyData
  | [] => []
  | x :: xs => dataP x :: dataPs xs
end
theorem areData_cons {x : PV} {xs : List PV} (h : areData (x :: xs) = true) : isData x = true ∧ areData xs = true := by
  cases q : isData x with
  | true => exact ⟨rfl, by simpa [areData, q] using h⟩
  | false => simp [areData, q] at h
theorem sEq_eq (x y : Str) : sEq x y = decide (x = y) := rfl
theorem bI_eq (b : Bool) : bI b = if b then 1 else 0 := rfl
theorem beqI (i j : Int) : (i == j) = decide (i = j) := by
  by_cases h : i = j <;> simp [h]
theorem beqS (i j : Str) : (i == j) = decide (i = j) := by
  by_cases h : i = j <;> simp [h]
mutual
theorem pyEq_eqv : ∀ x y : PV, isData x = true → isData y = true → pyEq x y = PyData.eqv (dataP x) (dataP y)
  | .non, y, _, hy => by cases y <;> simp_all [pyEq, dataP, PyData.eqv, isData]
  | .bl a, y, _, hy => by
    cases y <;> simp_all [pyEq, dataP, PyData.eqv, isData, bI, iEq_eq, beqI]
  | .int i, y, _, hy => by
    cases y <;> simp_all [pyEq, dataP, PyData.eqv, isData, bI, iEq_eq, beqI]
  | .str a, y, _, hy => by
    cases y <;> simp_all [pyEq, dataP, PyData.eqv, isData, sEq, beqS]
  | .tup xs, y, hx, hy => by
    cases y with
    | tup ys =>
      simp only [pyEq, dataP, PyData.eqv]
      exact pyEqs_eqv xs ys (by simpa [isData] using hx) (by simpa [isData] using hy)
    | _ => simp_all [pyEq, dataP, PyData.eqv, isData]
  | .lst xs, y, hx, hy => by
    cases y with
    | lst ys =>
      simp only [pyEq, dataP, PyData.eqv]
      exact pyEqs_eqv xs ys (by simpa [isData] using hx) (by simpa [isData] using hy)
    | _ => simp_all [pyEq, dataP, PyData.eqv, isData]
  | .dct _ _, _, h, _ => by simp [isData] at h
  | .fn _, _, h, _ => by simp [isData] at h
  | .exn _ _, _, h, _ => by simp [isData] at h
  | .scr _, _, h, _ => by simp [isData] at h
theorem pyEqs_eqv : ∀ xs ys : List PV, areData xs = true → areData ys = true → pyEqs xs ys = PyData.eqvAll (dataPs xs) (dataPs ys)
  | [], ys, _, _ => by cases ys <;> simp [pyEqs, dataPs, PyData.eqvAll]
  | x :: xs, ys, hx, hy => by
    cases ys with
    | nil => simp [pyEqs, dataPs, PyData.eqvAll]
    | cons y ys =>
      obtain ⟨h1, h2⟩ := areData_cons hx
      obtain ⟨k1, k2⟩ := areData_cons hy
      simp only [pyEqs, dataPs, PyData.eqvAll]
      rw [pyEq_eqv x y h1 k1, pyEqs_eqv xs ys h2 k2]
      cases PyData.eqv (dataP x) (dataP y) <;> simp
end
mutual
theorem data_lay : ∀ x : PV, isData x = true → (dataP x).canLay0 = true
  | .non, _ => by simp [dataP, PyData.canLay0]
  | .bl _, _ => by simp [dataP, PyData.canLay0]
  | .int _, _ => by simp [dataP, PyData.canLay0]
  | .str s, h => by
    simp only [dataP, PyData.canLay0, PyData.strOk]
    rw [← Array.all_toList]
    rw [isData, List.all_eq_true] at h
    rw [List.all_eq_true]
    intro c hc
    exact decide_eq_true (Nat.le_of_ble_eq_true (h c hc))
  | .tup xs, h => by
    simp only [dataP, PyData.canLay0]
    exact datas_lay xs (by simpa [isData] using h)
  | .lst xs, h => by
    simp only [dataP, PyData.canLay0]
    exact datas_lay xs (by simpa [isData] using h)
  | .dct _ _, h => by simp [isData] at h
  | .fn _, h => by simp [isData] at h
  | .exn _ _, h => by simp [isData] at h
  | .scr _, h => by simp [isData] at h
theorem datas_lay : ∀ xs : List PV, areData xs = true → PyData.canLayAll0 (dataPs xs) = true
  | [], _ => by simp [dataPs, PyData.canLayAll0]
  | x :: xs, h => by
    obtain ⟨h1, h2⟩ := areData_cons h
    simp [dataPs, PyData.canLayAll0, data_lay x h1, datas_lay xs h2]
end
mutual
theorem data_depth : ∀ x : PV, (dataP x).depth ≤ depth x
  | .non => by simp [dataP, PyData.depth]
  | .bl _ => by simp [dataP, PyData.depth]
  | .int _ => by simp [dataP, PyData.depth]
  | .str _ => by simp [dataP, PyData.depth]
  | .tup xs => by
    simp only [dataP, PyData.depth, depth]
    exact Nat.succ_le_succ (datas_depth xs)
  | .lst xs => by
    simp only [dataP, PyData.depth, depth]
    exact Nat.succ_le_succ (datas_depth xs)
  | .dct _ _ => by simp [dataP, PyData.depth]
  | .fn _ => by simp [dataP, PyData.depth]
  | .exn _ _ => by simp [dataP, PyData.depth]
  | .scr _ => by simp [dataP, PyData.depth]
theorem datas_depth : ∀ xs : List PV, PyData.depthAll (dataPs xs) ≤ depths xs
  | [] => by simp [dataPs, PyData.depthAll]
  | x :: xs => by
    have h1 := data_depth x
    have h2 := datas_depth xs
    simp only [dataPs, PyData.depthAll, depths]
    omega
end
theorem blt_lt {a b : Nat} (h : Nat.blt a b = true) : a < b := Nat.le_of_ble_eq_true h
theorem shaped_of {x : PV} (h : isData x = true) (d : Nat.blt (depth x) 60 = true) : SeqAt.shaped (dataP x) = true := by
  unfold SeqAt.shaped
  rw [data_lay x h, Bool.true_and]
  have := data_depth x
  have := blt_lt d
  exact decide_eq_true (by omega)
section
variable {G : Gx} {Om : Addr → Prop} {H : Hp}
mutual
theorem Rep.dp : ∀ (x : PV) (v : V), isData x = true → Rep G Om H x v → Dp G.K H v (dataP x)
  | .non, v, _, h => by rw [show v = _ from h]; exact .non
  | .bl b, v, _, h => by rw [show v = _ from h]; exact .bl b
  | .int i, v, _, h => by rw [show v = _ from h]; exact .int i
  | .str x, v, _, h => by rw [show v = _ from h]; exact .str x
  | .tup xs, v, d, h => by
    obtain ⟨a, vs, e, q, r⟩ := h
    subst e
    exact .tup q (Reps.dp xs vs (by simpa [isData] using d) r)
  | .lst xs, v, d, h => by
    obtain ⟨a, vs, e, _, q, r⟩ := h
    subst e
    exact .lst (.inl (.inl q)) (Reps.dp xs vs (by simpa [isData] using d) r)
  | .dct _ _, _, d, _ => by simp [isData] at d
  | .fn _, _, d, _ => by simp [isData] at d
  | .exn _ _, _, d, _ => by simp [isData] at d
  | .scr _, _, d, _ => by simp [isData] at d
theorem Reps.dp : ∀ (xs : List PV) (vs : List V), areData xs = true → Reps G Om H xs vs → DpAll G.K H vs (dataPs xs)
  | [], vs, _, h => by rw [show vs = [] from h]; exact .nil
  | x :: xs, vs, d, h => by
    obtain ⟨v, r, e, h1, h2⟩ := h
    obtain ⟨d1, d2⟩ := areData_cons d
    subst e
    exact .cons (Rep.dp x v d1 h1) (Reps.dp xs r d2 h2)
end
end

/-! ### order -/
theorem dataPs_length : ∀ xs : List PV, (dataPs xs).length = xs.length
  | [] => rfl
  | x :: xs => by simp [dataPs, dataPs_length xs]
theorem alikes_cons {x y : PV} {xs ys : List PV} (h : alikes (x :: xs) (y :: ys) = true) : alike x y = true ∧ alikes xs ys = true := by
  cases q : alike x y with
  | true => exact ⟨rfl, by simpa [alikes, q] using h⟩
  | false => simp [alikes, q] at h
mutual
theorem alike_W : ∀ x y : PV, alike x y = true → PySem.W.alike (dataP x) (dataP y) = true
  | .int i, y, h => by cases y <;> simp_all [alike, dataP, PySem.W.alike]
  | .bl i, y, h => by cases y <;> simp_all [alike, dataP, PySem.W.alike]
  | .str i, y, h => by cases y <;> simp_all [alike, dataP, PySem.W.alike]
  | .tup xs, y, h => by
    cases y with
    | tup ys => simpa [dataP, PySem.W.alike] using alikes_W xs ys (by simpa [alike] using h)
    | _ => simp [alike] at h
  | .lst xs, y, h => by
    cases y with
    | lst ys => simpa [dataP, PySem.W.alike] using alikes_W xs ys (by simpa [alike] using h)
    | _ => simp [alike] at h
  | .non, _, h => by simp [alike] at h
  | .dct _ _, _, h => by simp [alike] at h
  | .fn _, _, h => by simp [alike] at h
  | .exn _ _, _, h => by simp [alike] at h
  | .scr _, _, h => by simp [alike] at h
theorem alikes_W : ∀ xs ys : List PV, alikes xs ys = true → PySem.W.alikeAll (dataPs xs) (dataPs ys) = true
  | [], ys, _ => by simp [dataPs, PySem.W.alikeAll]
  | x :: xs, [], _ => by simp [dataPs, PySem.W.alikeAll]
  | x :: xs, y :: ys, h => by
    obtain ⟨h1, h2⟩ := alikes_cons h
    simp [dataPs, PySem.W.alikeAll, alike_W x y h1, alikes_W xs ys h2]
end
mutual
theorem pyEq_alike : ∀ x y : PV, alike x y = true → pyEq x y = PyData.eqv (dataP x) (dataP y)
  | .int i, y, h => by cases y <;> simp_all [alike, pyEq, dataP, PyData.eqv, iEq_eq, beqI]
  | .bl i, y, h => by cases y <;> simp_all [alike, pyEq, dataP, PyData.eqv]
  | .str i, y, h => by cases y <;> simp_all [alike, pyEq, dataP, PyData.eqv, sEq, beqS]
  | .tup xs, y, h => by
    cases y with
    | tup ys => simpa [pyEq, dataP, PyData.eqv] using pyEqs_alike xs ys (by simpa [alike] using h)
    | _ => simp [alike] at h
  | .lst xs, y, h => by
    cases y with
    | lst ys => simpa [pyEq, dataP, PyData.eqv] using pyEqs_alike xs ys (by simpa [alike] using h)
    | _ => simp [alike] at h
  | .non, _, h => by simp [alike] at h
  | .dct _ _, _, h => by simp [alike] at h
  | .fn _, _, h => by simp [alike] at h
  | .exn _ _, _, h => by simp [alike] at h
  | .scr _, _, h => by simp [alike] at h
theorem pyEqs_alike : ∀ xs ys : List PV, alikes xs ys = true → pyEqs xs ys = PyData.eqvAll (dataPs xs) (dataPs ys)
  | [], ys, _ => by cases ys <;> simp [pyEqs, dataPs, PyData.eqvAll]
  | x :: xs, [], _ => by simp [pyEqs, dataPs, PyData.eqvAll]
  | x :: xs, y :: ys, h => by
    obtain ⟨h1, h2⟩ := alikes_cons h
    simp only [pyEqs, dataPs, PyData.eqvAll]
    rw [pyEq_alike x y h1, pyEqs_alike xs ys h2]
    cases PyData.eqv (dataP x) (dataP y) <;> simp
end
theorem natLtL_eq : ∀ xs ys : List Nat, natLtL xs ys = decide (xs < ys)
  | [], [] => by simp [natLtL]
  | [], y :: ys => by simp [natLtL]
  | x :: xs, [] => by simp [natLtL]
  | x :: xs, y :: ys => by
    have ih := natLtL_eq xs ys
    simp only [natLtL]
    cases q : Nat.beq x y with
    | true =>
      have e := Nat.eq_of_beq_eq_true q
      subst e
      simp [ih, List.cons_lt_cons_iff]
    | false =>
      have e := Nat.ne_of_beq_eq_false q
      cases r : Nat.blt x y with
      | true =>
        have := blt_lt r
        simp [List.cons_lt_cons_iff, this]
      | false =>
        have : ¬ x < y := fun z => by
          have : Nat.blt x y = true := Nat.ble_eq_true_of_le z
          rw [r] at this; cases this
        simp [List.cons_lt_cons_iff, this, e]
mutual
theorem pyLt_eq : ∀ x y : PV, alike x y = true → pyLt x y = PySem.W.dataLt (dataP x) (dataP y)
  | .int i, y, h => by
    cases y with
    | int j =>
      simp only [pyLt, dataP, iLt_eq]
      simp [PySem.W.dataLt, PySem.W.keyToks, PyProof.Rows.lexLt, itemLt]
    | _ => simp [alike] at h
  | .bl i, y, h => by
    cases y with
    | bl j => cases i <;> cases j <;> simp [pyLt, dataP, PySem.W.dataLt, PySem.W.keyToks, PyProof.Rows.lexLt, itemLt]
    | _ => simp [alike] at h
  | .str i, y, h => by
    cases y with
    | str j =>
      simp only [pyLt, dataP, natLtL_eq]
      simp [PySem.W.dataLt, PySem.W.keyToks, PyProof.Rows.lexLt, itemLt, PyProof.Rows.strKind]
    | _ => simp [alike] at h
  | .tup xs, y, h => by
    cases y with
    | tup ys =>
      simp only [pyLt, dataP]
      exact pyLts_eq xs ys (by simpa [alike] using h)
    | _ => simp [alike] at h
  | .lst xs, y, h => by
    cases y with
    | lst ys =>
      simp only [pyLt, dataP]
      exact pyLts_eq xs ys (by simpa [alike] using h)
    | _ => simp [alike] at h
  | .non, _, h => by simp [alike] at h
  | .dct _ _, _, h => by simp [alike] at h
  | .fn _, _, h => by simp [alike] at h
  | .exn _ _, _, h => by simp [alike] at h
  | .scr _, _, h => by simp [alike] at h
theorem pyLts_eq : ∀ xs ys : List PV, alikes xs ys = true → pyLts xs ys = PyProof.Rows.lexLt itemOrd (PySem.W.keyToksAll (dataPs xs)) (PySem.W.keyToksAll (dataPs ys))
  | [], [], _ => by simp [pyLts, dataPs, PySem.W.keyToksAll, PyProof.Rows.lexLt, itemLt]
  | [], y :: ys, _ => by simp [pyLts, dataPs, PySem.W.keyToksAll, PyProof.Rows.lexLt, itemLt]
  | x :: xs, [], _ => by simp [pyLts, dataPs, PySem.W.keyToksAll, PyProof.Rows.lexLt, itemLt]
  | x :: xs, y :: ys, h => by
    obtain ⟨h1, h2⟩ := alikes_cons h
    simp only [pyLts, dataPs]
    rw [PySem.W.dataLt_cons (alike_W x y h1), pyEq_alike x y h1, pyLts_eq xs ys h2, pyLt_eq x y h1]
end
end Sl

/-! Ev5: the operations of Ev1 as rules of the hand layer: numbers, lists, tuples. -/
namespace Sl
open PySem PySem.Spec PyProof.Rows L2

/-- a new list or dict -/
def FreshR (H H' : Hp) : PV → V → Prop
  | .lst _ => fun v => ∃ a vs, v = .ref a ∧ H a = none ∧ H' a = some (.lst vs)
  | .dct _ _ => fun v => ∃ a es, v = .ref a ∧ H a = none ∧ H' a = some (dO a es)
  | _ => fun _ => True
/-- the operations whose lists and dicts are new -/
def freshOp : Op → Bool
  | .add => true
  | .mul => true
  | .list => true
  | .dict => true
  | .sorted => true
  | .sset => true
  | .sl => true
  | .slL => true
  | .slH => true
  | .rev => true
  | .items => true
  | .values => true
  | _ => false
/-- what an operation asks: trees, its answer -/
def rP (G : Gx) (o : Op) : List V → Hp → VK → Prop := fun vs H Q => ∃ Om pvs pv, OmOk Om H ∧ Reps G Om H pvs vs ∧ opSem o pvs = some pv ∧
  ∀ v H', Keep none1 H H' → Rep G Om H' pv v → (freshOp o = true → FreshR H H' pv v) → Q v H'

section
variable {G : Gx} {Om : Addr → Prop} {H : Hp}
theorem OmOk.new {p : Addr} (om : OmOk Om H) (n : H p = none) : ¬ Om p := fun z => by
  obtain ⟨o, e, _⟩ := om p z
  rw [n] at e; cases e
theorem hw0 : ∀ b, none1 b → ∃ o, H b = some o ∧ Own1 o := fun _ z => z.elim
theorem Rep.new {W : Addr → Prop} {p : Addr} {o : HO} {x : PV} {v : V} (n : H p = none) (r : Rep G Om H x v) : Rep G Om (upd H p o) x v :=
  Rep.keep (W := none1) (keep_new n) hw0 (fun _ z => z.elim) x v r
theorem Reps.new {p : Addr} {o : HO} {xs : List PV} {vs : List V} (n : H p = none) (r : Reps G Om H xs vs) : Reps G Om (upd H p o) xs vs :=
  Reps.keep (W := none1) (keep_new n) hw0 (fun _ z => z.elim) xs vs r
theorem Rep.lstNew {p : Addr} {xs : List PV} {vs : List V} (om : OmOk Om H) (n : H p = none) (r : Reps G Om H xs vs) : Rep G Om (upd H p (.lst vs)) (.lst xs) (.ref p) :=
  ⟨p, vs, rfl, om.new n, upd_same, Reps.new n r⟩
theorem FreshR.lst {p : Addr} {xs : List PV} {vs : List V} (n : H p = none) : FreshR H (upd H p (.lst vs)) (.lst xs) (.ref p) := ⟨p, vs, rfl, n, upd_same⟩
theorem Rep.tupNew {p : Addr} {xs : List PV} {vs : List V} (n : H p = none) (r : Reps G Om H xs vs) : Rep G Om (upd H p (.tup vs)) (.tup xs) (.ref p) :=
  ⟨p, vs, rfl, .inl (.inl upd_same), Reps.new n r⟩
theorem Reps.one' {pvs : List PV} {v : V} (h : Reps G Om H pvs [v]) : ∃ x, pvs = [x] ∧ Rep G Om H x v := by
  cases pvs with
  | nil => cases (show [v] = [] from h)
  | cons x r =>
    obtain ⟨u, t, e, h1, h2⟩ := h
    cases e
    cases r with
    | nil => exact ⟨x, rfl, h1⟩
    | cons y r' => obtain ⟨_, _, e, _⟩ := h2; cases e
theorem Reps.two' {pvs : List PV} {v w : V} (h : Reps G Om H pvs [v, w]) : ∃ x y, pvs = [x, y] ∧ Rep G Om H x v ∧ Rep G Om H y w := by
  cases pvs with
  | nil => cases (show [v, w] = [] from h)
  | cons x r =>
    obtain ⟨u, t, e, h1, h2⟩ := h
    cases e
    obtain ⟨y, e, h3⟩ := Reps.one' h2
    subst e
    exact ⟨x, y, rfl, h1, h3⟩
theorem Reps.three' {pvs : List PV} {v w u : V} (h : Reps G Om H pvs [v, w, u]) : ∃ x y z, pvs = [x, y, z] ∧ Rep G Om H x v ∧ Rep G Om H y w ∧ Rep G Om H z u := by
  cases pvs with
  | nil => cases (show [v, w, u] = [] from h)
  | cons x r =>
    obtain ⟨_, t, e, h1, h2⟩ := h
    cases e
    obtain ⟨y, z, e, h3, h4⟩ := Reps.two' h2
    subst e
    exact ⟨x, y, z, rfl, h1, h3, h4⟩
theorem Reps.nil' {pvs : List PV} (h : Reps G Om H pvs []) : pvs = [] := by
  cases pvs with
  | nil => rfl
  | cons x r => obtain ⟨_, _, e, _⟩ := h; cases e
theorem fin0 {pins : List (Addr × Obj)} {X : Cx} {σ : L2.St} {s : Shared} {Q : VK} {v : V} {u : Value} {t : Nat} (I : Inv X pins σ H s) (r : RelV v u) (q : Q v H) : EP X pins σ Q u { s with toks := t } := ⟨v, H, I.tok t, r, q⟩
theorem short_lt {xs : List PV} (h : short xs = true) : xs.length < 100000 := blt_lt h
theorem cap_line : (100000 : Nat) ≤ sizeLine := by rw [sizeLine_eq]; decide
end


/-! ### inversions -/
theorem opAdd_inv {a b pv : PV} (h : opAdd [a, b] = some pv) : (∃ i j, a = .int i ∧ b = .int j ∧ pv = .int (i + j)) ∨ (∃ xs ys, a = .tup xs ∧ b = .tup ys ∧ short (xs ++ ys) = true ∧ pv = .tup (xs ++ ys)) ∨
    (∃ xs ys, a = .lst xs ∧ b = .lst ys ∧ short (xs ++ ys) = true ∧ pv = .lst (xs ++ ys)) ∨ (∃ x y : Str, a = .str x ∧ b = .str y ∧ x.cps.size + y.cps.size < cap ∧ pv = .str ⟨x.cps ++ y.cps⟩) := by
  cases a <;> cases b <;> simp [opAdd] at h <;> first | exact .inl ⟨_, _, rfl, rfl, h.symm⟩ | exact .inr (.inl ⟨_, _, rfl, rfl, h.1, h.2.symm⟩) | exact .inr (.inr (.inl ⟨_, _, rfl, rfl, h.1, h.2.symm⟩)) | exact .inr (.inr (.inr ⟨_, _, rfl, rfl, h.1, h.2.symm⟩))
theorem ii_inv {f : Int → Int → Option PV} {a b pv : PV} {g : List PV → Option PV} (hg : ∀ xs, g xs = match xs with
    | [.int i, .int j] => f i j
    | _ => none) (h : g [a, b] = some pv) : ∃ i j, a = .int i ∧ b = .int j ∧ f i j = some pv := by
  rw [hg] at h
  cases a <;> cases b <;> simp at h <;> exact ⟨_, _, rfl, rfl, h⟩

section
variable {G : Gx} {X : Cx}
theorem rdLst {pins : List (Addr × Obj)} {s : Shared} {σ : L2.St} {H : Hp} {a : Addr} {xs : List V} (I : Inv X pins σ H s) (h : Rd H a (.lst xs)) :
    xs.length ≤ sizeLine ∧ ∃ (its : List Value) (n : Nat), Vals xs its ∧ xs.length = its.length ∧ s.heap.get? a = some { cls := .type "list", data := .seq its.toArray n } := by
  obtain ⟨z, its, n, r, e⟩ := h.ok I.hok
  exact ⟨z, its, n, r, r.length, e⟩

theorem or_add (hK : X.K = G.K) : OpR X (binaryOp .Add) (fun x y => rP G .add [x, y]) := by
  intro pins s σ H x y v u Q I rx ry ⟨Om, pvs, pv, om, rp, sem, q⟩
  obtain ⟨a, b, rfl, r1, r2⟩ := rp.two'
  rcases opAdd_inv sem with ⟨i, j, rfl, rfl, rfl⟩ | ⟨xs, ys, rfl, rfl, hs, rfl⟩ | ⟨xs, ys, rfl, rfl, hs, rfl⟩ | ⟨z, z', rfl, rfl, hs, rfl⟩
  · rw [show x = _ from r1] at rx
    rw [show y = _ from r2] at ry
    exact op_add pins s σ H _ _ v u Q I rx ry ⟨i, j, rfl, rfl, q _ _ (Keep.refl H) rfl fun _ => True.intro⟩
  · obtain ⟨p, vs, rfl, qt, ra⟩ := r1
    obtain ⟨p', ws, rfl, qt', rb⟩ := r2
    have hl := short_lt hs
    rw [List.length_append] at hl
    have l1 := ra.length
    have l2 := rb.length
    refine op_catA pins s σ H _ _ v u Q I rx ry ⟨p, p', vs, ws, rfl, rfl, hK ▸ qt, hK ▸ qt', by have := cap_line; omega, fun e => ?_, fun e e' => ?_, fun e e' pp hp => ?_⟩
    · have ea : xs = [] := List.length_eq_zero_iff.mp (by rw [← l1, e]; rfl)
      subst ea
      exact q _ _ (Keep.refl H) ⟨p', ws, rfl, qt', rb⟩ fun _ => True.intro
    · have eb : ys = [] := List.length_eq_zero_iff.mp (by rw [← l2, e']; rfl)
      subst eb
      exact q _ _ (Keep.refl H) ⟨p, vs, rfl, qt, by rw [List.append_nil]; exact ra⟩ fun _ => True.intro
    · exact q _ _ (keep_new hp) (Rep.tupNew hp (ra.append rb)) fun _ => True.intro
  · obtain ⟨p, vs, rfl, n1, qt, ra⟩ := r1
    obtain ⟨p', ws, rfl, n2, qt', rb⟩ := r2
    have hl := short_lt hs
    rw [List.length_append] at hl
    have l1 := ra.length
    have l2 := rb.length
    cases rx
    cases ry
    obtain ⟨z1, its, n, rv, hl1, e⟩ := I.lstM qt
    obtain ⟨z2, its2, n2, rv2, hl2, e2⟩ := I.lstM qt'
    refine PySem.P.add_list e e2 ?_ (by rw [List.size_toArray, List.size_toArray]; have := cap_line; omega)
    have ea : its.toArray ++ its2.toArray = (its ++ its2).toArray := by simp
    rw [ea]
    exact ⟨.ref _, _, I.lnew (t' := s.toks) (rv.append rv2) (by rw [List.length_append]; have := cap_line; omega), rfl, q _ _ (keep_new I.fresh) (Rep.lstNew om I.fresh (ra.append rb)) fun _ => FreshR.lst I.fresh⟩
  · rw [show x = _ from r1] at rx
    rw [show y = _ from r2] at ry
    have hl := hs
    exact op_add_str pins s σ H _ _ v u Q I rx ry ⟨z, z', rfl, rfl, by have := cap_line; show z.cps.size + z'.cps.size ≤ _; unfold cap at hl; omega, q _ _ (Keep.refl H) rfl fun _ => True.intro⟩

theorem or_sub : OpR X (binaryOp .Sub) (fun x y => rP G .sub [x, y]) := by
  intro pins s σ H x y v u Q I rx ry ⟨Om, pvs, pv, om, rp, sem, q⟩
  obtain ⟨a, b, rfl, r1, r2⟩ := rp.two'
  obtain ⟨i, j, rfl, rfl, sem'⟩ := ii_inv (f := fun i j => some (.int (i - j))) (g := opSem .sub) (fun xs => rfl) sem
  cases sem'
  rw [show x = _ from r1] at rx
  rw [show y = _ from r2] at ry
  exact op_sub pins s σ H _ _ v u Q I rx ry ⟨i, j, rfl, rfl, q _ _ (Keep.refl H) rfl fun _ => True.intro⟩
theorem or_mod : OpR X (binaryOp .Mod) (fun x y => rP G .mod [x, y]) := by
  intro pins s σ H x y v u Q I rx ry ⟨Om, pvs, pv, om, rp, sem, q⟩
  obtain ⟨a, b, rfl, r1, r2⟩ := rp.two'
  obtain ⟨i, j, rfl, rfl, sem'⟩ := ii_inv (f := fun i j => if iEq j 0 then none else some (.int (i.fmod j))) (g := opSem .mod) (fun xs => rfl) sem
  rw [iEq_eq] at sem'
  by_cases hj : j = 0
  · simp [hj] at sem'
  · simp [hj] at sem'
    subst sem'
    rw [show x = _ from r1] at rx
    rw [show y = _ from r2] at ry
    exact op_modN pins s σ H _ _ v u Q I rx ry ⟨i, j, rfl, rfl, hj, q _ _ (Keep.refl H) rfl fun _ => True.intro⟩
theorem or_fdiv : OpR X (binaryOp .FloorDiv) (fun x y => rP G .fdiv [x, y]) := by
  intro pins s σ H x y v u Q I rx ry ⟨Om, pvs, pv, om, rp, sem, q⟩
  obtain ⟨a, b, rfl, r1, r2⟩ := rp.two'
  obtain ⟨i, j, rfl, rfl, sem'⟩ := ii_inv (f := fun i j => if iEq j 0 then none else if Nat.blt j.natAbs 1073741824 then some (.int (i.fdiv j)) else none) (g := opSem .fdiv) (fun xs => rfl) sem
  rw [iEq_eq] at sem'
  by_cases hj : j = 0
  · simp [hj] at sem'
  · cases hb : Nat.blt j.natAbs 1073741824 with
    | false => simp [hj, hb] at sem'
    | true =>
      simp [hj, hb] at sem'
      subst sem'
      rw [show x = _ from r1] at rx
      rw [show y = _ from r2] at ry
      exact op_fdivN pins s σ H _ _ v u Q I rx ry ⟨i, j, rfl, rfl, ⟨hj, blt_lt hb⟩, q _ _ (Keep.refl H) rfl fun _ => True.intro⟩
theorem or_pow : OpR X (binaryOp .Pow) (fun x y => rP G .pow [x, y]) := by
  intro pins s σ H x y v u Q I rx ry ⟨Om, pvs, pv, om, rp, sem, q⟩
  obtain ⟨a, b, rfl, r1, r2⟩ := rp.two'
  obtain ⟨i, j, rfl, rfl, sem'⟩ := ii_inv (f := fun i j => if Nat.blt j.natAbs 1000 && iLt (-1) j && big64 i then some (.int (i ^ j.toNat)) else none) (g := opSem .pow) (fun xs => rfl) sem
  split at sem'
  · rename_i hc
    cases sem'
    simp only [Bool.and_eq_true] at hc
    obtain ⟨⟨h1, h2⟩, h3⟩ := hc
    have h1 := blt_lt h1
    rw [iLt_eq] at h2
    have h2 := of_decide_eq_true h2
    have h3 := blt_lt h3
    rw [show x = _ from r1] at rx
    rw [show y = _ from r2] at ry
    exact op_pow pins s σ H _ _ v u Q I rx ry ⟨i, j, rfl, rfl, ⟨by omega, by omega, by omega⟩, q _ _ (Keep.refl H) rfl fun _ => True.intro⟩
  · cases sem'

theorem opMul_inv {a b pv : PV} (h : opMul [a, b] = some pv) : (∃ i j, a = .int i ∧ b = .int j ∧ (big64 i || big64 j) = true ∧ pv = .int (i * j)) ∨ (∃ xs n, a = .tup xs ∧ b = .int n ∧ mulOk xs n = true ∧ pv = .tup (repL xs n.toNat)) ∨
    (∃ xs n, a = .lst xs ∧ b = .int n ∧ (Nat.blt (xs.length * n.toNat) cap && Nat.blt n.natAbs cap) = true ∧ pv = .lst (repL xs n.toNat)) := by
  cases a <;> cases b <;> simp only [opMul] at h <;> first | (split at h <;> first | (rename_i hc; cases h; first | exact .inl ⟨_, _, rfl, rfl, hc, rfl⟩ | exact .inr (.inl ⟨_, _, rfl, rfl, hc, rfl⟩) | exact .inr (.inr ⟨_, _, rfl, rfl, hc, rfl⟩)) | cases h) | cases h
theorem repL_eq {α : Type} (xs : List PV) : ∀ n, repL xs n = (List.replicate n xs).flatten
  | 0 => rfl
  | n + 1 => by simp [repL, repL_eq (α := α) xs n, List.replicate_succ]
theorem Reps.rep {Om : Addr → Prop} {H : Hp} {xs : List PV} {vs : List V} (h : Reps G Om H xs vs) : ∀ n, Reps G Om H (repL xs n) (List.replicate n vs).flatten
  | 0 => rfl
  | n + 1 => by
    rw [List.replicate_succ, List.flatten_cons]
    exact h.append (Reps.rep h n)
theorem or_mul (hK : X.K = G.K) : OpR X (binaryOp .Mult) (fun x y => rP G .mul [x, y]) := by
  intro pins s σ H x y v u Q I rx ry ⟨Om, pvs, pv, om, rp, sem, q⟩
  obtain ⟨a, b, rfl, r1, r2⟩ := rp.two'
  rcases opMul_inv sem with ⟨i, j, rfl, rfl, hb, rfl⟩ | ⟨xs, n, rfl, rfl, hb, rfl⟩ | ⟨xs, n, rfl, rfl, hb, rfl⟩
  · rw [show x = _ from r1] at rx
    rw [show y = _ from r2] at ry
    refine op_mul pins s σ H _ _ v u Q I rx ry ⟨i, j, rfl, rfl, ?_, q _ _ (Keep.refl H) rfl fun _ => True.intro⟩
    rcases Bool.or_eq_true_iff.mp hb with h | h
    · have := blt_lt h
      exact .inl ⟨by omega, by omega⟩
    · have := blt_lt h
      exact .inr ⟨by omega, by omega⟩
  · unfold mulOk at hb
    simp only [Bool.and_eq_true] at hb
    obtain ⟨⟨⟨h1, h2⟩, h3⟩, h4⟩ := hb
    have h1 := blt_lt h1
    have h3 := blt_lt h3
    rw [iLt_eq] at h2
    have h2 := of_decide_eq_true h2
    obtain ⟨p, vs, rfl, qt, ra⟩ := r1
    rw [show y = _ from r2] at ry
    have l1 := ra.length
    refine op_repT pins s σ H _ _ v u Q I rx ry ⟨p, n, vs, rfl, rfl, hK ▸ qt, fun e => ?_, by omega, by omega, by omega, fun pp hp => q _ _ (keep_new hp) (Rep.tupNew hp (ra.rep _)) fun _ => True.intro⟩
    rw [e] at l1
    have : xs = [] := List.length_eq_zero_iff.mp l1.symm
    subst this
    simp at h4
  · simp only [Bool.and_eq_true] at hb
    have h1 := blt_lt hb.1
    have h2 := blt_lt hb.2
    obtain ⟨p, vs, rfl, n1, qt, ra⟩ := r1
    rw [show y = _ from r2] at ry
    have l1 := ra.length
    refine op_rep pins s σ H _ _ v u Q I rx ry ⟨p, n, vs, rfl, rfl, qt, ?_, ?_, ?_, fun pp hp => q _ _ (keep_new hp) (Rep.lstNew om hp (ra.rep _)) fun _ => FreshR.lst hp⟩
    · have : (-(2 ^ 63) : Int) ≤ -100000 := by decide
      unfold cap at h2; omega
    · have : (100000 : Int) < 2 ^ 63 := by decide
      unfold cap at h2; omega
    · have := cap_line
      rw [l1]; unfold cap at h1; omega
end
end Sl

/-! Ev6: comparisons, tests of membership, lengths, items. -/
namespace Sl
open PySem PySem.Spec PyProof.Rows L2
/-! ### keys -/
mutual
theorem keyEq : ∀ x y : PV, partKey x = true → partKey y = true → pyEq x y = NestedKey.beq (keyP x) (keyP y)
  | .non, y, _, hy => by cases y <;> simp_all [pyEq, keyP, NestedKey.beq, partKey]
  | .int i, y, _, hy => by cases y <;> simp_all [pyEq, keyP, NestedKey.beq, partKey, iEq_eq]
  | .str a, y, _, hy => by cases y <;> simp_all [pyEq, keyP, NestedKey.beq, partKey, sEq]
  | .tup xs, y, hx, hy => by
    cases y with
    | tup ys => simpa [pyEq, keyP, NestedKey.beq] using keyEqs xs ys (by simpa [partKey] using hx) (by simpa [partKey] using hy)
    | _ => simp_all [pyEq, keyP, NestedKey.beq, partKey]
  | .bl _, _, h, _ => by simp [partKey] at h
  | .lst _, _, h, _ => by simp [partKey] at h
  | .dct _ _, _, h, _ => by simp [partKey] at h
  | .fn _, _, h, _ => by simp [partKey] at h
  | .exn _ _, _, h, _ => by simp [partKey] at h
  | .scr _, _, h, _ => by simp [partKey] at h
theorem keyEqs : ∀ xs ys : List PV, partKeys xs = true → partKeys ys = true → pyEqs xs ys = NestedKey.beqAll (keyPs xs) (keyPs ys)
  | [], ys, _, _ => by cases ys <;> simp [pyEqs, keyPs, NestedKey.beqAll]
  | x :: xs, [], _, _ => by simp [pyEqs, keyPs, NestedKey.beqAll]
  | x :: xs, y :: ys, hx, hy => by
    have h1 : partKey x = true := by
      cases q : partKey x with
      | true => rfl
      | false => simp [partKeys, q] at hx
    have h2 : partKeys xs = true := by simpa [partKeys, h1] using hx
    have k1 : partKey y = true := by
      cases q : partKey y with
      | true => rfl
      | false => simp [partKeys, q] at hy
    have k2 : partKeys ys = true := by simpa [partKeys, k1] using hy
    simp only [pyEqs, keyPs, NestedKey.beqAll]
    rw [keyEq x y h1 k1, keyEqs xs ys h2 k2]
    cases NestedKey.beq (keyP x) (keyP y) <;> simp
end
theorem keyEq' {x y : PV} (hx : partKey x = true) (hy : partKey y = true) : pyEq x y = decide (keyP x = keyP y) := by rw [keyEq x y hx hy, NestedKey.decide_eq]
theorem flat_part {x : PV} (h : flatKey x = true) : partKey x = true := by cases x <;> simp_all [flatKey, partKey]
theorem tup_part {x : PV} (h : tupKey x = true) : partKey x = true := by
  cases x <;> simp_all [tupKey, partKey]
mutual
theorem key_depth : ∀ x : PV, (keyP x).depth ≤ depth x
  | .non => by simp [keyP, NestedKey.depth]
  | .bl _ => by simp [keyP, NestedKey.depth]
  | .int _ => by simp [keyP, NestedKey.depth]
  | .str _ => by simp [keyP, NestedKey.depth]
  | .tup xs => by
    simp only [keyP, NestedKey.depth, depth]
    exact Nat.succ_le_succ (keys_depth xs)
  | .lst xs => by simp [keyP, NestedKey.depth]
  | .dct _ _ => by simp [keyP, NestedKey.depth]
  | .fn _ => by simp [keyP, NestedKey.depth]
  | .exn _ _ => by simp [keyP, NestedKey.depth]
  | .scr _ => by simp [keyP, NestedKey.depth]
theorem keys_depth : ∀ xs : List PV, NestedKey.depthAll (keyPs xs) ≤ depths xs
  | [] => by simp [keyPs, NestedKey.depthAll]
  | x :: xs => by
    have h1 := key_depth x
    have h2 := keys_depth xs
    simp only [keyPs, NestedKey.depthAll, depths]
    omega
end
theorem tup_depth {x : PV} (h : tupKey x = true) : (keyP x).depth ≤ 8 := by
  have h1 := key_depth x
  cases x with
  | tup xs =>
    simp [tupKey] at h
    simp only [depth] at h1
    omega
  | _ => simp [tupKey] at h

section
variable {G : Gx} {X : Cx} {pins : List (Addr × Obj)} {s : Shared} {σ : L2.St} {H : Hp} {Om : Addr → Prop}
mutual
/-- a tree that may be a key, as the library's key -/
theorem Rep.key (I : Inv X pins σ H s) (hK : X.K = G.K) : ∀ (x : PV) (v : V) (u : Value), partKey x = true → Rep G Om H x v → RelV v u → NestedIs s.heap (keyP x) u
  | .non, v, u, _, h, r => by
    rw [show v = _ from h] at r
    rw [show u = _ from r]
    exact .none
  | .int i, v, u, _, h, r => by
    rw [show v = _ from h] at r
    obtain ⟨t, rfl⟩ := r
    exact .int i t
  | .str x, v, u, _, h, r => by
    rw [show v = _ from h] at r
    obtain ⟨t, rfl⟩ := r
    exact .text x t
  | .tup xs, v, u, p, h, r => by
    obtain ⟨a, vs, e, q, ra⟩ := h
    subst e
    cases r
    obtain ⟨its, rv, ⟨o, ho, hc, n, hd⟩, _⟩ := I.tuple (hK ▸ q)
    exact .tup ho hc hd (Reps.key I hK xs vs its.toArray.toList (by simpa [partKey] using p) ra (by simpa using rv))
  | .bl _, _, _, p, _, _ => by simp [partKey] at p
  | .lst _, _, _, p, _, _ => by simp [partKey] at p
  | .dct _ _, _, _, p, _, _ => by simp [partKey] at p
  | .fn _, _, _, p, _, _ => by simp [partKey] at p
  | .exn _ _, _, _, p, _, _ => by simp [partKey] at p
  | .scr _, _, _, p, _, _ => by simp [partKey] at p
theorem Reps.key (I : Inv X pins σ H s) (hK : X.K = G.K) : ∀ (xs : List PV) (vs : List V) (us : List Value), partKeys xs = true → Reps G Om H xs vs → Vals vs us → NestedAll s.heap (keyPs xs) us
  | [], vs, us, _, h, r => by
    rw [show vs = [] from h] at r
    cases r
    exact .nil
  | x :: xs, vs, us, p, h, r => by
    obtain ⟨v, t, e, h1, h2⟩ := h
    subst e
    have p1 : partKey x = true := by
      cases q : partKey x with
      | true => rfl
      | false => simp [partKeys, q] at p
    have p2 : partKeys xs = true := by simpa [partKeys, p1] using p
    cases r with
    | cons r1 r2 => exact .cons (Rep.key I hK x v _ p1 h1 r1) (Reps.key I hK xs t _ p2 h2 r2)
end
/-- where a tuple stands -/
theorem Rep.tupAt {xs : List PV} {v : V} {u : Value} (h : Rep G Om H (.tup xs) v) (r : RelV v u) : ∃ a, v = .ref a ∧ u = .ref a := by
  obtain ⟨a, vs, e, _⟩ := h
  subst e
  exact ⟨a, rfl, r⟩
theorem RepK.length : ∀ {ks : List PV} {es : List DictEntry}, RepK G Om H ks es → es.length = ks.length
  | [], _, h => by rw [show _ = [] from h]; rfl
  | x :: xs, es, h => by
    obtain ⟨e, r, v, e1, _, _, _, h2⟩ := h
    rw [e1, List.length_cons, List.length_cons, RepK.length h2]
theorem RepE.length : ∀ {ks : List PV} {es : List DictEntry}, RepE G Om H ks es → es.length = ks.length
  | [], _, h => by rw [show _ = [] from h]; rfl
  | x :: xs, es, h => by
    obtain ⟨e, r, v, e1, _, _, h2⟩ := h
    rw [e1, List.length_cons, List.length_cons, RepE.length h2]
/-- the entries of a dict with tuple keys, as the library tells them -/
theorem RepK.nested (I : Inv X pins σ H s) (hK : X.K = G.K) (hw : X.w = G.w) : ∀ {ks : List PV} {es : List DictEntry}, (∀ k ∈ ks, tupKey k = true) → RepK G Om H ks es →
    ∃ xs : List (NestedKey × Addr × Value), es = xs.map (entryOfKey (nestedKind X.prog X.w)) ∧ xs.map (·.1) = keyPs ks ∧ (∀ x ∈ xs, (nestedKind X.prog X.w).is s.heap x.1 x.2.1) ∧ xs.map (·.2.2) = es.map (·.val)
  | [], _, _, h => by rw [show _ = [] from h]; exact ⟨[], rfl, rfl, fun _ z => (by cases z), rfl⟩
  | k :: ks, es, hk, h => by
    obtain ⟨e, r, v, e1, q1, q2, h1, h2⟩ := h
    subst e1
    have tk := hk k List.mem_cons_self
    obtain ⟨xs, e2, e3, e4, e5⟩ := RepK.nested I hK hw (fun x hx => hk x (List.mem_cons_of_mem _ hx)) h2
    have hn := Rep.key I hK k v e.key (tup_part tk) h1 q2
    cases k with
    | tup ts =>
      obtain ⟨a, rfl, ea⟩ := Rep.tupAt h1 q2
      refine ⟨(keyP (.tup ts), a, e.val) :: xs, ?_, ?_, ?_, ?_⟩
      · rw [List.map_cons, ← e2]
        congr 1
        obtain ⟨hh, kk, vv⟩ := e
        simp only at q1 ea
        subst q1 ea
        show _ = DictEntry.mk ((keyP (.tup ts)).hash X.w) _ _
        rw [hw]
      · rw [List.map_cons, e3]; rfl
      · intro x hx
        rcases List.mem_cons.mp hx with rfl | hx
        · exact ⟨ea ▸ hn, tup_depth tk⟩
        · exact e4 x hx
      · rw [List.map_cons, List.map_cons, e5]
    | _ => simp [tupKey] at tk
/-- a dict with tuple keys -/
theorem Rep.dictH (I : Inv X pins σ H s) (hK : X.K = G.K) (hw : X.w = G.w) {ks : List PV} {a : Addr} {es : List DictEntry} (hk : ∀ k ∈ ks, tupKey k = true) (hH : H a = some (dO a es)) (nd : (keyPs ks).Nodup) (rk : RepK G Om H ks es) :
    ∃ xs : List (NestedKey × Addr × Value), es = xs.map (entryOfKey (nestedKind X.prog X.w)) ∧ xs.map (·.1) = keyPs ks ∧ xs.map (·.2.2) = es.map (·.val) ∧ s.heap.DictOfH (nestedKind X.prog X.w) a xs := by
  obtain ⟨xs, e1, e2, e3, e4⟩ := rk.nested I hK hw hk
  obtain ⟨⟨o, ep, ho, hx, hd⟩, _⟩ := I.hok a _ hH
  exact ⟨xs, e1, e2, e4, o, es.toArray, ep, ho, hx, hd, by simpa using e1, e3, by rw [e2]; exact nd⟩
end

section
variable {G : Gx} {X : Cx}
theorem cmp_reads {pins : List (Addr × Obj)} {s : Shared} {σ : L2.St} {H : Hp} {Om : Addr → Prop} (I : Inv X pins σ H s) (hK : X.K = G.K) {x : PV} {v : V} {u : Value} (d : isData x = true) (h : Rep G Om H x v) (r : RelV v u) : ∃ as, Reads s.heap u (dataP x) as :=
  Dp.reads I _ v u (hK ▸ Rep.dp x v d h) r
theorem opEq_inv {a b pv : PV} {g : Bool → Bool} {f : List PV → Option PV} (hf : ∀ a b, f [a, b] = if eqOk a b then some (.bl (g (pyEq a b))) else none) (h : f [a, b] = some pv) : isData a = true ∧ isData b = true ∧ depth a < 60 ∧ depth b < 60 ∧ pv = .bl (g (pyEq a b)) := by
  rw [hf] at h
  split at h
  · rename_i hc
    unfold eqOk at hc
    simp only [Bool.and_eq_true] at hc
    obtain ⟨⟨⟨h1, h2⟩, h3⟩, h4⟩ := hc
    cases h
    exact ⟨h1, h2, blt_lt h3, blt_lt h4, rfl⟩
  · cases h
theorem shaped_lt {x : PV} (h : isData x = true) (d : depth x < 60) : SeqAt.shaped (dataP x) = true := shaped_of h (Nat.ble_eq_true_of_le d)
theorem or_eq (hK : X.K = G.K) (hu : X.A.units + 70 < cLine) : OpR X (compareOp .Eq) (fun x y => rP G .eq [x, y]) := by
  intro pins s σ H x y v u Q I rx ry ⟨Om, pvs, pv, om, rp, sem, q⟩
  obtain ⟨a, b, rfl, r1, r2⟩ := rp.two'
  obtain ⟨d1, d2, l1, l2, rfl⟩ := opEq_inv (g := id) (f := opEq) (fun _ _ => rfl) sem
  refine op_eqD (by omega) pins s σ H x y v u Q I rx ry ⟨dataP a, dataP b, hK ▸ Rep.dp a x d1 r1, hK ▸ Rep.dp b y d2 r2, shaped_lt d1 l1, shaped_lt d2 l2, ?_⟩
  rw [← pyEq_eqv a b d1 d2]
  exact q _ _ (Keep.refl H) rfl fun _ => True.intro
theorem or_ne (hK : X.K = G.K) (hu : X.A.units + 70 < cLine) : OpR X (compareOp .NotEq) (fun x y => rP G .ne [x, y]) := by
  intro pins s σ H x y v u Q I rx ry ⟨Om, pvs, pv, om, rp, sem, q⟩
  obtain ⟨a, b, rfl, r1, r2⟩ := rp.two'
  obtain ⟨d1, d2, l1, l2, rfl⟩ := opEq_inv (g := not) (f := opNe) (fun _ _ => rfl) sem
  refine op_neD (by omega) pins s σ H x y v u Q I rx ry ⟨dataP a, dataP b, hK ▸ Rep.dp a x d1 r1, hK ▸ Rep.dp b y d2 r2, shaped_lt d1 l1, shaped_lt d2 l2, ?_⟩
  rw [← pyEq_eqv a b d1 d2]
  exact q _ _ (Keep.refl H) rfl fun _ => True.intro

theorem cmpI_inv {f : Int → Int → Bool} {g : PV → PV → Bool} {a b pv : PV} (h : cmpI f g [a, b] = some pv) :
    (∃ i j, a = .int i ∧ b = .int j ∧ pv = .bl (f i j)) ∨ ∃ xs ys, a = .tup xs ∧ b = .tup ys ∧ isData a = true ∧ isData b = true ∧ alike a b = true ∧ alike b a = true ∧ depth a < 60 ∧ depth b < 60 ∧ pv = .bl (g a b) := by
  cases a <;> cases b <;> simp only [cmpI] at h <;> first | (cases h; done) | (cases h; exact .inl ⟨_, _, rfl, rfl, rfl⟩) | skip
  split at h
  · rename_i hc
    simp only [Bool.and_eq_true] at hc
    obtain ⟨⟨⟨⟨⟨d1, d2⟩, h1⟩, h2⟩, h3⟩, h4⟩ := hc
    cases h
    have := blt_lt h3
    have := blt_lt h4
    exact .inr ⟨_, _, rfl, rfl, by simpa [isData] using d1, by simpa [isData] using d2, by simpa [alike] using h1, by simpa [alike] using h2, by simp only [depth]; omega, by simp only [depth]; omega, rfl⟩
  · cases h
theorem alike_none {x y : PV} (h : alike x y = true) : dataP x ≠ .none := by cases x <;> simp_all [alike, dataP]
/-- a comparison by the order, of two ints or two tuples -/
theorem or_cmp {op : CmpOp} {o : Op} {f : Int → Int → Bool} {g : PV → PV → Bool} {k : PyData → PyData → Bool} (hK : X.K = G.K) (hu : X.A.units + 70 < cLine) (ho : opSem o = cmpI f g)
    (hi : OpR X (compareOp op) (rI0 fun i j => .bl (f i j)))
    (hd : ∀ {E : Value → Shared → Prop} {s : Shared} {a b : Value} {da db : PyData} {as bs : List Addr} {Q : Value → Shared → Prop}, Reads s.heap a da as → Reads s.heap b db bs → PySem.W.alike da db = true → da ≠ .none → X.A.units + min da.depth db.depth < cLine → Q (.bool (k da db)) s → wpAny (model X.prog X.w) X.A (compareOp op a b) Q E s)
    (hg : ∀ x y, alike x y = true → alike y x = true → g x y = k (dataP x) (dataP y)) (hf : freshOp o = false) : OpR X (compareOp op) (fun x y => rP G o [x, y]) := by
  intro pins s σ H x y v u Q I rx ry ⟨Om, pvs, pv, om, rp, sem, q⟩
  obtain ⟨a, b, rfl, r1, r2⟩ := rp.two'
  rw [ho] at sem
  rcases cmpI_inv sem with ⟨i, j, rfl, rfl, rfl⟩ | ⟨xs, ys, ea, eb, d1, d2, a1, a2, l1, l2, rfl⟩
  · rw [show x = _ from r1] at rx
    rw [show y = _ from r2] at ry
    exact hi pins s σ H _ _ v u Q I rx ry ⟨i, j, rfl, rfl, q _ _ (Keep.refl H) rfl fun z => by rw [hf] at z; cases z⟩
  · obtain ⟨as, ra⟩ := cmp_reads I hK d1 r1 rx
    obtain ⟨bs, rb⟩ := cmp_reads I hK d2 r2 ry
    have := data_depth a
    refine hd ra rb (alike_W a b a1) (alike_none a1) (by have := Nat.min_le_left (dataP a).depth (dataP b).depth; omega) ⟨.bl (g a b), H, I, ?_, q _ _ (Keep.refl H) rfl fun z => by rw [hf] at z; cases z⟩
    rw [← hg a b a1 a2]
    rfl
theorem opI_of {op : CmpOp} {f f' : Int → Int → Bool} (h : OpR X (compareOp op) (rI0 fun i j => .bl (f i j))) (e : ∀ i j, f' i j = f i j) : OpR X (compareOp op) (rI0 fun i j => .bl (f' i j)) := by
  rw [show f' = f from funext fun i => funext fun j => e i j]; exact h
theorem or_lt (hK : X.K = G.K) (hu : X.A.units + 70 < cLine) : OpR X (compareOp .Lt) (fun x y => rP G .lt [x, y]) :=
  or_cmp (k := PySem.W.dataLt) hK hu rfl (opI_of op_lt iLt_eq) (fun ra rb h hn hu q => PySem.W.lt_data ra rb h hn hu q) (fun x y h _ => pyLt_eq x y h) rfl
theorem or_gt (hK : X.K = G.K) (hu : X.A.units + 70 < cLine) : OpR X (compareOp .Gt) (fun x y => rP G .gt [x, y]) :=
  or_cmp (k := fun a b => PySem.W.dataLt b a) hK hu rfl (opI_of op_gt fun i j => iLt_eq j i) (fun ra rb h hn hu q => PySem.W.gt_data ra rb h hn hu q) (fun x y _ h => pyLt_eq y x h) rfl
theorem not_lt_le (i j : Int) : (!iLt j i) = decide (i ≤ j) := by
  rw [iLt_eq]
  by_cases h : j < i
  · rw [decide_eq_true h, decide_eq_false (by omega)]; rfl
  · rw [decide_eq_false h, decide_eq_true (by omega)]; rfl
theorem or_le (hK : X.K = G.K) (hu : X.A.units + 70 < cLine) : OpR X (compareOp .LtE) (fun x y => rP G .le [x, y]) :=
  or_cmp (k := fun a b => !PySem.W.dataLt b a) hK hu rfl (opI_of op_le not_lt_le) (fun ra rb h hn hu q => PySem.W.le_data ra rb h hn hu q) (fun x y _ h => by show (!pyLt y x) = _; rw [pyLt_eq y x h]) rfl
theorem or_ge (hK : X.K = G.K) (hu : X.A.units + 70 < cLine) : OpR X (compareOp .GtE) (fun x y => rP G .ge [x, y]) :=
  or_cmp (k := fun a b => !PySem.W.dataLt a b) hK hu rfl (opI_of op_ge fun i j => not_lt_le j i) (fun ra rb h hn hu q => PySem.W.ge_data ra rb h hn hu q) (fun x y h _ => by show (!pyLt x y) = _; rw [pyLt_eq x y h]) rfl

/-! ### in -/
theorem memP_any (x : PV) (hx : isData x = true) : ∀ ys : List PV, areData ys = true → memP x ys = (dataPs ys).any fun z => PyData.eqv z (dataP x)
  | [], _ => rfl
  | y :: ys, h => by
    obtain ⟨h1, h2⟩ := areData_cons h
    simp only [memP, dataPs, List.any_cons]
    rw [pyEq_eqv y x h1 hx, memP_any x hx ys h2]
    cases PyData.eqv (dataP y) (dataP x) <;> simp
theorem inP_inv {a b : PV} {k : Bool} (h : inP [a, b] = some k) : (∃ ys, b = .tup ys ∧ eqOk a b = true ∧ k = memP a ys) ∨ (∃ ys, b = .lst ys ∧ eqOk a b = true ∧ k = memP a ys) ∨ ∃ ks vs, b = .dct ks vs ∧ goodKeys (a :: ks) = true ∧ k = memP a ks := by
  cases b <;> simp only [inP] at h <;> first | (cases h; done) | skip
  all_goals (split at h <;> first | (cases h; done) | skip)
  · rename_i hc; cases h; exact .inl ⟨_, rfl, hc, rfl⟩
  · rename_i hc; cases h; exact .inr (.inl ⟨_, rfl, hc, rfl⟩)
  · rename_i hc; cases h; exact .inr (.inr ⟨_, _, rfl, hc, rfl⟩)
theorem eqOk_inv {a b : PV} (h : eqOk a b = true) : isData a = true ∧ isData b = true ∧ depth a < 60 ∧ depth b < 60 := by
  unfold eqOk at h
  simp only [Bool.and_eq_true] at h
  obtain ⟨⟨⟨h1, h2⟩, h3⟩, h4⟩ := h
  exact ⟨h1, h2, blt_lt h3, blt_lt h4⟩
theorem goodKeys_inv {ks : List PV} (h : goodKeys ks = true) : ∀ k ∈ ks, tupKey k = true := List.all_eq_true.mp h
theorem memP_key {x : PV} (hx : partKey x = true) : ∀ {ks : List PV}, (∀ k ∈ ks, partKey k = true) → memP x ks = decide (keyP x ∈ keyPs ks)
  | [], _ => by simp [memP, keyPs]
  | k :: ks, h => by
    simp only [memP, keyPs]
    rw [keyEq' (h k List.mem_cons_self) hx, memP_key hx fun y hy => h y (List.mem_cons_of_mem _ hy)]
    by_cases e : keyP k = keyP x
    · simp [e]
    · have e' : ¬ keyP x = keyP k := fun z => e z.symm
      simp [e, e']
theorem atKey_cons {K : Type} [DecidableEq K] {x : K × Addr × Value} {xs : List (K × Addr × Value)} {k : K} : atKey (x :: xs) k = if x.1 = k then some x.2 else atKey xs k := by
  unfold atKey
  rw [List.find?_cons]
  by_cases h : x.1 = k <;> simp [h]
theorem atKey_some {K : Type} [DecidableEq K] {k : K} : ∀ {xs : List (K × Addr × Value)}, (atKey xs k).isSome = decide (k ∈ xs.map (·.1))
  | [] => by simp [atKey]
  | x :: xs => by
    rw [atKey_cons]
    by_cases h : x.1 = k
    · simp [h]
    · have h' : ¬ k = x.1 := fun z => h z.symm
      rw [if_neg h, atKey_some (xs := xs), List.map_cons]
      exact decide_eq_decide.mpr (by simp [h'])
theorem room_nested (hu : X.A.units + 70 < cLine) : (nestedKind X.prog X.w).room X.A.in1 := by
  show X.A.units + 1 + 8 < cLine
  omega
/-- in (f = id), not in (f = not) -/
theorem or_mem {op : CmpOp} {o : Op} {f : Bool → Bool} (hK : X.K = G.K) (hw : X.w = G.w) (hu : X.A.units + 70 < cLine) (ho : ∀ xs, opSem o xs = (inP xs).map fun b => .bl (f b)) (hf : freshOp o = false)
    (hL : ∀ {E : Value → Shared → Prop} {s : Shared} {c x : Value} {xs : List PyData} {d : PyData} {as bs : List Addr} {Q : Value → Shared → Prop}, Reads s.heap c (.list xs) as → Reads s.heap x d bs → PyData.canLayAll0 xs = true → d.canLay0 = true → X.A.units + 1 + min (PyData.depthAll xs) d.depth < cLine → Q (.bool (f (xs.any fun y => PyData.eqv y d))) s → wpAny (model X.prog X.w) X.A (compareOp op x c) Q E s)
    (hT : ∀ {E : Value → Shared → Prop} {s : Shared} {c x : Value} {xs : List PyData} {d : PyData} {as bs : List Addr} {Q : Value → Shared → Prop}, Reads s.heap c (.tuple xs) as → Reads s.heap x d bs → PyData.canLayAll0 xs = true → d.canLay0 = true → X.A.units + 1 + min (PyData.depthAll xs) d.depth < cLine → Q (.bool (f (xs.any fun y => PyData.eqv y d))) s → wpAny (model X.prog X.w) X.A (compareOp op x c) Q E s)
    (hD : ∀ {E : Value → Shared → Prop} {s : Shared} {d a : Addr} {k : NestedKey} {xs : List (NestedKey × Addr × Value)} {Q : Value → Shared → Prop}, (nestedKind X.prog X.w).is s.heap k a → (d == sysModules) = false → s.heap.DictOfH (nestedKind X.prog X.w) d xs → Q (.bool (f (atKey xs k).isSome)) { s with toks := s.toks + (nestedKind X.prog X.w).draws k } → wpAny (model X.prog X.w) X.A (compareOp op (.ref a) (.ref d)) Q E s) :
    OpR X (compareOp op) (fun x y => rP G o [x, y]) := by
  intro pins s σ H x y v u Q I rx ry ⟨Om, pvs, pv, om, rp, sem, q⟩
  obtain ⟨a, b, rfl, r1, r2⟩ := rp.two'
  rw [ho] at sem
  obtain ⟨k, ek, rfl⟩ := Option.map_eq_some_iff.mp sem
  have fin : ∀ t, EP X pins σ Q (.bool (f k)) { s with toks := t } := fun t => ⟨.bl (f k), H, I.tok t, rfl, q _ _ (Keep.refl H) rfl fun z => by rw [hf] at z; cases z⟩
  rcases inP_inv ek with ⟨ys, rfl, hc, rfl⟩ | ⟨ys, rfl, hc, rfl⟩ | ⟨ks, vs, rfl, hc, rfl⟩
  · obtain ⟨d1, d2, l1, l2⟩ := eqOk_inv hc
    obtain ⟨as, ra⟩ := cmp_reads I hK d1 r1 rx
    obtain ⟨bs, rb⟩ := cmp_reads I hK d2 r2 ry
    have sb : SeqAt.shaped (PyData.tuple (dataPs ys)) = true := shaped_lt d2 l2
    refine hT (xs := dataPs ys) rb ra (SeqAt.canLay_of_shaped sb) (SeqAt.canLay_of_shaped (shaped_lt d1 l1)) (room_in_shaped (shaped_lt d1 l1) (by show X.A.units + 65 < cLine; omega)) ?_
    rw [← memP_any a d1 ys (by simpa [isData] using d2)]
    exact fin _
  · obtain ⟨d1, d2, l1, l2⟩ := eqOk_inv hc
    obtain ⟨as, ra⟩ := cmp_reads I hK d1 r1 rx
    obtain ⟨bs, rb⟩ := cmp_reads I hK d2 r2 ry
    have sb : SeqAt.shaped (PyData.list (dataPs ys)) = true := shaped_lt d2 l2
    refine hL (xs := dataPs ys) rb ra (SeqAt.canLay_of_shaped sb) (SeqAt.canLay_of_shaped (shaped_lt d1 l1)) (room_in_shaped (shaped_lt d1 l1) (by show X.A.units + 65 < cLine; omega)) ?_
    rw [← memP_any a d1 ys (by simpa [isData] using d2)]
    exact fin _
  · have hk := goodKeys_inv hc
    have ta := hk a List.mem_cons_self
    have hks : ∀ z ∈ ks, tupKey z = true := fun z hz => hk z (List.mem_cons_of_mem _ hz)
    obtain ⟨d, es, rfl, n, hH, hz, hS, nd, rk, re⟩ := r2
    cases ry
    obtain ⟨xs, e1, e2, e3, hd⟩ := Rep.dictH I hK hw hks hH nd rk
    have hn := Rep.key I hK a x v (tup_part ta) r1 rx
    cases a with
    | tup ts =>
      obtain ⟨p, rfl, rfl⟩ := Rep.tupAt r1 rx
      refine hD ⟨hn, tup_depth ta⟩ hS hd ?_
      rw [atKey_some, e2, ← memP_key (tup_part ta) fun z hz => tup_part (hks z hz)]
      exact fin _
    | _ => simp [tupKey] at ta
theorem or_in (hK : X.K = G.K) (hw : X.w = G.w) (hu : X.A.units + 70 < cLine) : OpR X (compareOp .In) (fun x y => rP G .in_ [x, y]) :=
  or_mem (f := id) hK hw hu (fun xs => rfl) rfl (fun rc rx h1 h2 h3 h => SeqAt.in_list_reads rc rx h1 h2 h3 h) (fun rc rx h1 h2 h3 h => SeqAt.in_tuple_reads rc rx h1 h2 h3 h) fun hn hS hd h => wpAny_in_heap (room_nested hu) hn hS hd h
theorem or_notin (hK : X.K = G.K) (hw : X.w = G.w) (hu : X.A.units + 70 < cLine) : OpR X (compareOp .NotIn) (fun x y => rP G .notin [x, y]) :=
  or_mem (f := not) hK hw hu (fun xs => rfl) rfl (fun rc rx h1 h2 h3 h => SeqAt.notIn_list_reads rc rx h1 h2 h3 h) (fun rc rx h1 h2 h3 h => SeqAt.notIn_tuple_reads rc rx h1 h2 h3 h) fun hn hS hd h => by
    show wpAny _ _ (do return Value.bool (!(← contains (Value.ref _) (Value.ref _)))) _ _ _
    exact wpAny_bind (wpAny_contains_heap (room_nested hu) hn hS hd (wpAny_pure h))
end
end Sl

/-! Ev7: the readings that the evaluator gives: slots and trees, expressions. -/
namespace Sl
open PySem PySem.Spec PyProof.Rows L2

/-! ### which slots an expression may hand out as they are; which it changes -/
mutual
def peeks : E → List Nat
  | .var i => [i]
  | .cst _ => []
  | .op _ es => peekss es
  | .and a b => peeks a ++ peeks b
  | .or a b => peeks a ++ peeks b
  | .ite _ a b => peeks a ++ peeks b
  | .chain _ _ a b c => peeks a ++ (peeks b ++ peeks c)
  | .tup es => peekss es
  | .lst es => peekss es
  | .dnew ks vs => peekss ks ++ peekss vs
  | .lc _ _ _ _ e => peeks e
  | .lc2 _ _ _ _ _ _ _ e => peeks e
  | .dc _ _ _ _ k v => peeks k ++ peeks v
  | .call _ _ wb es => match wb with
    | [] => peekss es
    | _ :: _ => peeksT es
  | .sortk _ e => peeks e
  | .callv _ _ es => peekss es
  | .ck _ => []
  | .ckn _ => []
  | .mv x => [x]
  | .fld _ _ => []
  | .isx _ _ => []
  | .pop _ => []
  | .popi _ _ => []
def peekss : Es → List Nat
  | .nil => []
  | .cons e r => peeks e ++ peekss r
  | .star e r => peeks e ++ peekss r
def peeksT : Es → List Nat
  | .nil => []
  | .cons _ r => peekss r
  | .star _ r => peekss r
end
mutual
def muts : E → List Nat
  | .var _ => []
  | .cst _ => []
  | .op _ es => mutss es
  | .and a b => muts a ++ muts b
  | .or a b => muts a ++ muts b
  | .ite c a b => muts c ++ (muts a ++ muts b)
  | .chain _ _ a b c => muts a ++ (muts b ++ muts c)
  | .tup es => mutss es
  | .lst es => mutss es
  | .dnew ks vs => mutss ks ++ mutss vs
  | .lc _ _ it c e => mutsI it ++ (muts c ++ muts e)
  | .lc2 _ _ it c _ it1 c1 e => mutsI it ++ (muts c ++ (mutsI it1 ++ (muts c1 ++ muts e)))
  | .dc _ _ it c k v => mutsI it ++ (muts c ++ (muts k ++ muts v))
  | .call _ _ wb es => mutsW wb ++ mutss es
  | .sortk _ e => muts e
  | .callv _ f es => muts f ++ mutss es
  | .ck e => muts e
  | .ckn e => muts e
  | .mv _ => []
  | .fld _ _ => []
  | .isx _ _ => []
  | .pop x => [x]
  | .popi x e => x :: muts e
def mutss : Es → List Nat
  | .nil => []
  | .cons e r => muts e ++ mutss r
  | .star e r => muts e ++ mutss r
def mutsI : It → List Nat
  | .seq e => muts e
  | .range es => mutss es
  | .enum e => muts e
  | .zip a b => muts a ++ muts b
  | .items e => muts e
  | .values e => muts e
def mutsW : List (Option Nat) → List Nat
  | [] => []
  | none :: r => mutsW r
  | some x :: r => x :: mutsW r
end
/-- its list or dict is new -/
def freshE (fr : Nat → Bool) : E → Bool
  | .op o _ => freshOp o
  | .lst _ => true
  | .dnew _ _ => true
  | .lc _ _ _ _ _ => true
  | .lc2 _ _ _ _ _ _ _ _ => true
  | .dc _ _ _ _ _ _ => true
  | .sortk _ _ => true
  | .ite _ a b => freshE fr a && freshE fr b
  | .or a b => freshE fr a && freshE fr b
  | .ckn e => freshE fr e
  | .call g _ wb _ => match wb with
    | none :: _ => false
    | _ => fr g
  | _ => false
def disj (ps ms : List Nat) : Bool := ps.all fun i => !ms.any fun j => Nat.beq i j
theorem disj_ne {ps ms : List Nat} (h : disj ps ms = true) {i : Nat} (h1 : i ∈ ps) (h2 : i ∈ ms) : False := by
  have h3 := List.all_eq_true.mp h i h1
  have h4 : (ms.any fun j => Nat.beq i j) = true := List.any_eq_true.mpr ⟨i, h2, Nat.beq_refl i⟩
  rw [h4] at h3
  cases h3

/-! ### owners -/
def rt (hot : List Nat) (Om : Addr → Prop) (σ : L2.St) (ps : List Nat) : Addr → Prop := fun a => Om a ∧ ∃ i, i ∈ ps ∧ i ∈ hot ∧ σ[i]? = some (some (.ref a))
def cutO (Om R : Addr → Prop) : Addr → Prop := fun a => Om a ∧ ¬ R a
/-- a hot slot's own list or dict -/
def Root (G : Gx) (Om : Addr → Prop) (H : Hp) : PV → Addr → Prop
  | .lst xs => fun a => ∃ vs, H a = some (.lst vs) ∧ Reps G Om H xs vs
  | .dct ks vs => fun a => ∃ es, H a = some (dO a es) ∧ es.length ≤ sizeLine ∧ (a == sysModules) = false ∧ (keyPs ks).Nodup ∧ RepK G Om H ks es ∧ RepE G Om H vs es
  | _ => fun _ => False
/-- what holds through a body: who is owned outside, the heap at its entry, what may be written, the slots of what is written, the exception that is held -/
structure Bs where
  Om : Addr → Prop
  H : Hp
  W : Addr → Prop
  io : List (Nat × Addr)
  exc : Option (Nat × Addr × Value × Option Addr)
  fr : Bool
/-- how an own exception lies -/
def ExcRep (G : Gx) (Om : Addr → Prop) (H : Hp) (c : Nat) (pl : List PV) (cls : Value) (d : Option Addr) : Prop :=
  (G.kn c = true ∧ cls = .ref (G.ca c)) ∧ ((pl = [] ∧ d = none) ∨ ∃ x dd v, pl = [x] ∧ d = some dd ∧ H dd = some (.xd [(G.cf c, v)]) ∧ frozen x = true ∧ Rep G Om H x v)
structure RE (G : Gx) (hot : List Nat) (B : Bs) (Om : Addr → Prop) (env : Env) (σ : L2.St) (H : Hp) : Prop where
  len : σ.length = env.length
  om : OmOk Om H
  cold : ∀ i x, getE env i = some x → i ∉ hot → isExn x = false → ∃ v, σ[i]? = some (some v) ∧ Rep G Om H x v
  root : ∀ i x, getE env i = some x → i ∈ hot → ∃ a, σ[i]? = some (some (.ref a)) ∧ Om a ∧ (B.W a ∨ B.H a = none) ∧ Root G Om H x a
  live : ∀ i v, i ∈ hot → σ[i]? = some (some v) → ∃ x, getE env i = some x
  inj : ∀ i j a, i ∈ hot → j ∈ hot → σ[i]? = some (some (.ref a)) → σ[j]? = some (some (.ref a)) → i = j
  exn : ∀ i c pl, getE env i = some (.exn c pl) → ∃ a cls d, B.exc = some (i, a, cls, d) ∧ σ[i]? = some (some (.ref a)) ∧ ExcRep G Om H c pl cls d
  base : ∀ a, B.Om a → Om a
  kept : Keep B.W B.H H
  new : ∀ a, Om a → B.Om a ∨ B.H a = none
  wtr : ∀ a, B.W a → ∃ o, H a = some o
  bom : ∀ a, B.Om a → ∃ o, B.H a = some o
  wio : ∀ a, B.W a → ∃ q ∈ B.io, q.2 = a
  io : ∀ p ∈ B.io, p.1 ∈ hot ∧ σ[p.1]? = some (some (.ref p.2))

section
variable {G : Gx} {hot : List Nat} {B : Bs} {Om Om' W : Addr → Prop} {env env' : Env} {σ : L2.St} {H H' : Hp}
theorem hwR (om : OmOk Om H) {ps : List Nat} : ∀ b, rt hot Om σ ps b → ∃ o, H b = some o ∧ Own1 o := fun b z => om b z.1
theorem rt_mono {ps qs : List Nat} (h : ∀ i ∈ ps, i ∈ qs) {a : Addr} (r : rt hot Om σ ps a) : rt hot Om σ qs a := by
  obtain ⟨o, i, h1, h2⟩ := r
  exact ⟨o, i, h i h1, h2⟩
theorem rt_nil {a : Addr} : ¬ rt hot Om σ [] a := fun ⟨_, i, h, _⟩ => by cases h
theorem Rep.cut {R R' : Addr → Prop} (h : ∀ a, R a → R' a) {x : PV} {v : V} (r : Rep G (cutO Om R) H x v) : Rep G (cutO Om R') H x v :=
  Rep.own (fun a o _ q => ⟨q.1, fun z => q.2 (h a z)⟩) x v r
theorem Reps.cut {R R' : Addr → Prop} (h : ∀ a, R a → R' a) {xs : List PV} {vs : List V} (r : Reps G (cutO Om R) H xs vs) : Reps G (cutO Om R') H xs vs :=
  Reps.own (fun a o _ q => ⟨q.1, fun z => q.2 (h a z)⟩) xs vs r
theorem Rep.toCut {R : Addr → Prop} {x : PV} {v : V} (r : Rep G Om H x v) : Rep G (cutO Om R) H x v := Rep.own (fun a o _ q => q.1) x v r
theorem Reps.toCut {R : Addr → Prop} {xs : List PV} {vs : List V} (r : Reps G Om H xs vs) : Reps G (cutO Om R) H xs vs := Reps.own (fun a o _ q => q.1) xs vs r
theorem Rep.ofCut {R : Addr → Prop} (h : ∀ a, ¬ R a) {x : PV} {v : V} (r : Rep G (cutO Om R) H x v) : Rep G Om H x v := Rep.own (fun a o _ q => ⟨q, h a⟩) x v r
theorem Reps.ofCut {R : Addr → Prop} (h : ∀ a, ¬ R a) {xs : List PV} {vs : List V} (r : Reps G (cutO Om R) H xs vs) : Reps G Om H xs vs := Reps.own (fun a o _ q => ⟨q, h a⟩) xs vs r
theorem ExcRep.keep {c : Nat} {pl : List PV} {cls : Value} {d : Option Addr} (k : Keep W H H') (hw : ∀ b, W b → ∃ o, H b = some o ∧ Own1 o) (hs : ∀ a, W a → Om a) (h : ExcRep G Om H c pl cls d) : ExcRep G Om H' c pl cls d := by
  obtain ⟨e, h | ⟨x, dd, v, e1, e2, e3, fz, r⟩⟩ := h
  · exact ⟨e, .inl h⟩
  · refine ⟨e, .inr ⟨x, dd, v, e1, e2, k dd _ e3 fun z => ?_, fz, Rep.keep k hw hs x v r⟩⟩
    obtain ⟨o, q, w⟩ := hw dd z
    rw [e3] at q
    cases q
    rcases w with ⟨_, w⟩ | ⟨_, w⟩ <;> cases w
theorem ExcRep.own {c : Nat} {pl : List PV} {cls : Value} {d : Option Addr} (h : ExcRep G Om H c pl cls d) : ExcRep G Om' H c pl cls d := by
  obtain ⟨e, h | ⟨x, dd, v, e1, e2, e3, fz, r⟩⟩ := h
  · exact ⟨e, .inl h⟩
  · exact ⟨e, .inr ⟨x, dd, v, e1, e2, e3, fz, Rep.free x v fz r⟩⟩
theorem Root.keep {x : PV} {a : Addr} (k : Keep none1 H H') (h : Root G Om H x a) : Root G Om H' x a := by
  cases x with
  | lst xs =>
    obtain ⟨vs, e, r⟩ := h
    exact ⟨vs, k a _ e fun z => z.elim, Reps.keep k hw0 (fun _ z => z.elim) xs vs r⟩
  | dct ks vs =>
    obtain ⟨es, e, z, y, nd, r, t⟩ := h
    exact ⟨es, k a _ e fun z => z.elim, z, y, nd, RepK.keep k hw0 (fun _ z => z.elim) ks es r, RepE.keep k hw0 (fun _ z => z.elim) vs es t⟩
  | _ => exact h.elim
theorem OmOk.keep (k : Keep none1 H H') (h : OmOk Om H) : OmOk Om H' := fun a q => by
  obtain ⟨o, e, w⟩ := h a q
  exact ⟨o, k a o e fun z => z.elim, w⟩
theorem Root.keepW {x : PV} {a : Addr} (k : Keep W H H') (hw : ∀ b, W b → ∃ o, H b = some o ∧ Own1 o) (hs : ∀ a, W a → Om a) (n : ¬ W a) (h : Root G Om H x a) : Root G Om H' x a := by
  cases x with
  | lst xs =>
    obtain ⟨vs, e, r⟩ := h
    exact ⟨vs, k a _ e n, Reps.keep k hw hs xs vs r⟩
  | dct ks vs =>
    obtain ⟨es, e, z, y, nd, r, t⟩ := h
    exact ⟨es, k a _ e n, z, y, nd, RepK.keep k hw hs ks es r, RepE.keep k hw hs vs es t⟩
  | _ => exact h.elim
theorem Root.own {x : PV} {a : Addr} (hs : ∀ a o, H a = some o → Om' a → Om a) (h : Root G Om H x a) : Root G Om' H x a := by
  cases x with
  | lst xs =>
    obtain ⟨vs, e, r⟩ := h
    exact ⟨vs, e, Reps.own hs xs vs r⟩
  | dct ks vs =>
    obtain ⟨es, e, z, y, nd, r, t⟩ := h
    exact ⟨es, e, z, y, nd, RepK.own hs ks es r, RepE.own hs vs es t⟩
  | _ => exact h.elim
theorem Root.free {x : PV} {a : Addr} (hf : inFrozen x = true) (h : Root G Om H x a) : Root G Om' H x a := by
  cases x with
  | lst xs =>
    obtain ⟨vs, e, r⟩ := h
    exact ⟨vs, e, Reps.free xs vs hf r⟩
  | dct ks vs =>
    obtain ⟨es, e, z, y, nd, r, t⟩ := h
    obtain ⟨h1, h2⟩ := Bool.and_eq_true_iff.mp hf
    exact ⟨es, e, z, y, nd, RepK.free ks es h1 r, RepE.free vs es h2 t⟩
  | _ => exact h.elim
/-- THE STEP: what is in W has changed (hot slots' own lists and dicts), owners have come -/
theorem RE.step (h : RE G hot B Om env σ H) (k : Keep W H H') (hw : ∀ b, W b → Om b) (hW : ∀ b, W b → B.W b ∨ B.H b = none) (sub : ∀ b, Om b → Om' b) (new : ∀ b, Om' b → Om b ∨ H b = none) (om' : OmOk Om' H') (hB : ∀ b, Om' b → B.Om b ∨ B.H b = none)
    (he : ∀ i, i ∉ hot → getE env' i = getE env i) (hl : env'.length = env.length) (hr : ∀ i x, getE env' i = some x → i ∈ hot → ∃ a, σ[i]? = some (some (.ref a)) ∧ Om' a ∧ (B.W a ∨ B.H a = none) ∧ Root G Om' H' x a) (hv : ∀ i x, i ∈ hot → getE env i = some x → ∃ y, getE env' i = some y) :
    RE G hot B Om' env' σ H' := by
  have hwo : ∀ b, W b → ∃ o, H b = some o ∧ Own1 o := fun b z => h.om b (hw b z)
  have own : ∀ a o, H a = some o → Om' a → Om a := fun a o e z => (new a z).elim id fun n => by rw [e] at n; cases n
  refine ⟨h.len.trans hl.symm, om', fun i x e n q => ?_, hr, fun i v hi e => ?_, h.inj, fun i c pl e => ?_, fun a z => sub a (h.base a z), fun a o e n => ?_, hB, fun a z => ?_, h.bom, h.wio, h.io⟩
  · rw [he i n] at e
    obtain ⟨v, e1, r⟩ := h.cold i x e n q
    exact ⟨v, e1, Rep.keep k hwo (fun a z => sub a (hw a z)) x v (Rep.own own x v r)⟩
  · obtain ⟨x, e1⟩ := h.live i v hi e
    exact hv i x hi e1
  · by_cases hi : i ∈ hot
    · obtain ⟨a, e1, _, _, r⟩ := hr i _ e hi
      exact r.elim
    · rw [he i hi] at e
      obtain ⟨a, cls, d, e1, e2, r⟩ := h.exn i c pl e
      exact ⟨a, cls, d, e1, e2, (r.keep k hwo hw).own⟩
  · have e1 := h.kept a o e n
    refine k a o e1 fun z => ?_
    rcases hW a z with w | w
    · exact n w
    · rw [w] at e; cases e
  · obtain ⟨o, e⟩ := h.wtr a z
    by_cases w : W a
    · obtain ⟨o', e', _⟩ := om' a (sub a (hw a w))
      exact ⟨o', e'⟩
    · exact ⟨o, k a o e w⟩
/-- a new list or dict gets an owner -/
theorem RE.adopt (h : RE G hot B Om env σ H) (k : Keep none1 H H') {a : Addr} (n : H a = none) (e : ∃ o, H' a = some o ∧ Own1 o) : RE G hot B (fun b => Om b ∨ b = a) env σ H' := by
  have nb : B.H a = none := by
    cases q : B.H a with
    | none => rfl
    | some o =>
      by_cases w : B.W a
      · obtain ⟨_, e'⟩ := h.wtr a w
        rw [n] at e'; cases e'
      · rw [h.kept a o q w] at n; cases n
  refine h.step k (fun _ z => z.elim) (fun _ z => z.elim) (fun _ z => .inl z) (fun b z => ?_) (fun b z => ?_) (fun b z => ?_) (fun _ _ => rfl) rfl (fun i x q hi => ?_) fun i x hi q => ⟨x, q⟩
  · rcases z with z | z
    · exact .inl z
    · exact .inr (by rw [z]; exact n)
  · rcases z with z | z
    · exact h.om.keep k b z
    · rw [z]; exact e
  · rcases z with z | z
    · exact h.new b z
    · exact .inr (by rw [z]; exact nb)
  · obtain ⟨p, e1, o, w, r⟩ := h.root i x q hi
    refine ⟨p, e1, .inl o, w, Root.keep k (Root.own (fun c o q z => ?_) r)⟩
    rcases z with z | z
    · exact z
    · rw [z, n] at q; cases q
/-- what was handed out stands through changes elsewhere -/
theorem RE.apart (h : RE G hot B Om env σ H) {ps ms : List Nat} (hd : disj ps ms = true) : ∀ a, rt hot Om σ ms a → cutO Om (rt hot Om σ ps) a := fun a ⟨o, i, h1, h2, h3⟩ =>
  ⟨o, fun ⟨_, j, q1, q2, q3⟩ => by
    have e := h.inj i j a h2 q2 h3 q3
    subst e
    exact disj_ne hd q1 h1⟩
/-- things are made beside -/
theorem RE.keep (k : Keep none1 H H') (h : RE G hot B Om env σ H) : RE G hot B Om env σ H' := by
  refine ⟨h.len, h.om.keep k, fun i x e n q => ?_, fun i x e n => ?_, h.live, h.inj, fun i c pl e => ?_, h.base, Keep.trans h.kept k (fun _ z => z) (fun _ z => z.elim), h.new, fun a z => (h.wtr a z).elim fun o e => ⟨o, k a o e fun z => z.elim⟩, h.bom, h.wio, h.io⟩
  · obtain ⟨v, e1, r⟩ := h.cold i x e n q
    exact ⟨v, e1, Rep.keep k hw0 (fun _ z => z.elim) x v r⟩
  · obtain ⟨a, e1, o, w, r⟩ := h.root i x e n
    exact ⟨a, e1, o, w, r.keep k⟩
  · obtain ⟨a, cls, d, e1, e2, r⟩ := h.exn i c pl e
    exact ⟨a, cls, d, e1, e2, r.keep k hw0 fun _ z => z.elim⟩
theorem Root.rep {x : PV} {a : Addr} {ps : List Nat} {i : Nat} (hi : i ∈ ps) (hh : i ∈ hot) (hs : σ[i]? = some (some (.ref a))) (ho : Om a) (h : Root G Om H x a) : Rep G (cutO Om (rt hot Om σ ps)) H x (.ref a) := by
  have na : ¬ cutO Om (rt hot Om σ ps) a := fun z => z.2 ⟨ho, i, hi, hh, hs⟩
  cases x with
  | lst xs =>
    obtain ⟨vs, e, r⟩ := h
    exact ⟨a, vs, rfl, na, e, r.toCut⟩
  | dct ks vs =>
    obtain ⟨es, e, z, y, nd, r, t⟩ := h
    exact ⟨a, es, rfl, na, e, z, y, nd, RepK.own (fun a o _ q => q.1) ks es r, RepE.own (fun a o _ q => q.1) vs es t⟩
  | _ => exact h.elim
theorem FreshR.mono {H0 H1 H2 : Hp} {x : PV} {v : V} (h : FreshR H1 H2 x v) (k : ∀ a, H1 a = none → H0 a = none) : FreshR H0 H2 x v := by
  cases x with
  | lst xs =>
    obtain ⟨a, vs, e, n, q⟩ := h
    exact ⟨a, vs, e, k a n, q⟩
  | dct ks vs =>
    obtain ⟨a, es, e, n, q⟩ := h
    exact ⟨a, es, e, k a n, q⟩
  | _ => trivial
theorem keep_none {ps : List Nat} (om : OmOk Om H') (k : Keep (rt hot Om σ ps) H H') {a : Addr} (n : H' a = none) : H a = none := by
  cases e : H a with
  | none => rfl
  | some o =>
    have hn : ¬ rt hot Om σ ps a := fun z => by
      obtain ⟨o', e', _⟩ := om a z.1
      rw [n] at e'; cases e'
    rw [k a o e hn] at n; cases n
end

theorem Keep.om {hot : List Nat} {Om : Addr → Prop} {σ : L2.St} {ms : List Nat} {H H1 H2 : Hp} (k : Keep (rt hot Om σ ms) H H1) (k' : Keep Om H1 H2) : Keep Om H H2 := Keep.trans k k' (fun _ z => z.1) fun _ z => z
/-! ### readings -/
/-- it is new, and may have an owner -/
def NewE (G : Gx) (hot : List Nat) (B : Bs) (Om : Addr → Prop) (env : Env) (σ : L2.St) (H H' : Hp) : PV → V → Prop
  | .lst _ => fun v => ∃ a, v = .ref a ∧ H a = none ∧ RE G hot B (fun b => Om b ∨ b = a) env σ H'
  | .dct _ _ => fun v => ∃ a, v = .ref a ∧ H a = none ∧ RE G hot B (fun b => Om b ∨ b = a) env σ H'
  | _ => fun _ => True
theorem NewE.of {G : Gx} {hot : List Nat} {B : Bs} {Om : Addr → Prop} {env : Env} {σ : L2.St} {H H1 H' : Hp} {x : PV} {v : V} (re : RE G hot B Om env σ H1) (k : Keep none1 H1 H') (h : FreshR H1 H' x v) (n : ∀ a, H1 a = none → H a = none) : NewE G hot B Om env σ H H' x v := by
  cases x with
  | lst xs =>
    obtain ⟨a, vs, e, q, q'⟩ := h
    exact ⟨a, e, n a q, re.adopt k q ⟨_, q', .inl ⟨_, rfl⟩⟩⟩
  | dct ks vs =>
    obtain ⟨a, es, e, q, q'⟩ := h
    exact ⟨a, e, n a q, re.adopt k q ⟨_, q', .inr ⟨_, rfl⟩⟩⟩
  | _ => trivial
theorem NewE.mono {G : Gx} {hot : List Nat} {B : Bs} {Om : Addr → Prop} {env : Env} {σ : L2.St} {H H1 H' : Hp} {x : PV} {v : V} (h : NewE G hot B Om env σ H1 H' x v) (n : ∀ a, H1 a = none → H a = none) : NewE G hot B Om env σ H H' x v := by
  cases x with
  | lst xs =>
    obtain ⟨a, e, q, r⟩ := h
    exact ⟨a, e, n a q, r⟩
  | dct ks vs =>
    obtain ⟨a, e, q, r⟩ := h
    exact ⟨a, e, n a q, r⟩
  | _ => trivial
section
variable (G : Gx) (F : Fn) (hot : List Nat) (B : Bs) (W : WX)
def tE (e : E) : TE := fun σ H Q => ∃ Om env, RE G hot B Om env σ H ∧ match ev F e env with
  | .ok x env' => ∀ v H', Keep (rt hot Om σ (muts e)) H H' → RE G hot B Om env' σ H' → Rep G (cutO Om (rt hot Om σ (peeks e))) H' x v → (freshE G.fr e = true → NewE G hot B Om env' σ H H' x v) → Q v H'
  | .exc c pl env' => ∀ cls d H', Keep Om H H' → RE G hot B Om env' σ H' → ExcRep G Om H' c pl cls d → W cls d σ H'
  | .stk => False
def tEs (es : Es) : TA := fun σ H Q => ∃ Om env, RE G hot B Om env σ H ∧ match evs F es env with
  | .ok xs env' => ∀ vs H', Keep (rt hot Om σ (mutss es)) H H' → RE G hot B Om env' σ H' → Reps G (cutO Om (rt hot Om σ (peekss es))) H' xs vs → Q vs H'
  | .exc c pl env' => ∀ cls d H', Keep Om H H' → RE G hot B Om env' σ H' → ExcRep G Om H' c pl cls d → W cls d σ H'
  | .stk => False
/-- as a test -/
def tTt (e : E) : TT := fun σ H Q => ∃ Om env, RE G hot B Om env σ H ∧ match ev F e env with
  | .ok x env' => ∃ b, truth x = some b ∧ ∀ H', Keep (rt hot Om σ (muts e)) H H' → RE G hot B Om env' σ H' → Q b H'
  | .exc c pl env' => ∀ cls d H', Keep Om H H' → RE G hot B Om env' σ H' → ExcRep G Om H' c pl cls d → W cls d σ H'
  | .stk => False
end
theorem PE.imp {X : Cx} {e : Expr} {t t' : TE} (h : PE X e t) (i : ∀ σ H Q, t' σ H Q → t σ H Q) : PE X e t' := ⟨fun pins s σ H Q I q => h.run pins s σ H Q I (i σ H Q q)⟩
theorem PA.imp {X : Cx} {es : List Expr} {t t' : TA} (h : PA X es t) (i : ∀ σ H Q, t' σ H Q → t σ H Q) : PA X es t' := ⟨fun pos pins s σ H Q I q => h.run pos pins s σ H Q I (i σ H Q q)⟩
theorem PT.imp {X : Cx} {e : Expr} {t t' : TT} (h : PT X e t) (i : ∀ σ H Q, t' σ H Q → t σ H Q) : PT X e t' := ⟨fun pins s σ H Q I q => h.run pins s σ H Q I (i σ H Q q)⟩

section
variable {G : Gx} {F : Fn} {hot : List Nat} {B : Bs} {W : WX} {σ : L2.St} {H : Hp}
theorem tEs_nil {Q : List V → Hp → Prop} (h : tEs G F hot B W .nil σ H Q) : Q [] H := by
  obtain ⟨Om, env, re, h⟩ := h
  exact h [] H (Keep.refl H) re Reps.nil
/-- one behind the other -/
theorem tEs_cons {i : E} {r : Es} {Q : List V → Hp → Prop} (hd : disj (peeks i) (mutss r) = true) (h : tEs G F hot B W (.cons i r) σ H Q) :
    tE G F hot B W i σ H fun x H1 => tEs G F hot B W r σ H1 fun xs H2 => Q (x :: xs) H2 := by
  obtain ⟨Om, env, re, h⟩ := h
  refine ⟨Om, env, re, ?_⟩
  simp only [evs] at h
  cases e1 : ev F i env with
  | stk => rw [e1] at h; exact h
  | exc c pl env1 => rw [e1] at h; exact h
  | ok x env1 =>
    rw [e1] at h
    simp only [R.bind] at h
    intro v H1 k1 re1 r1 f1
    refine ⟨Om, env1, re1, ?_⟩
    cases e2 : evs F r env1 with
    | stk => rw [e2] at h; exact h
    | exc c pl env2 => rw [e2] at h; exact fun cls d H' k' re' er => h cls d H' (k1.om k') re' er
    | ok xs env2 =>
      rw [e2] at h
      intro vs H2 k2 re2 r2
      refine h (v :: vs) H2 (Keep.trans k1 k2 (fun a z => rt_mono (fun j q => List.mem_append_left _ q) z) fun a z => rt_mono (fun j q => List.mem_append_right _ q) z) re2 (Reps.cons ?_ ?_)
      · exact Rep.cut (fun a z => rt_mono (fun j q => List.mem_append_left _ q) z) (Rep.keep k2 (hwR re1.om) (re1.apart hd) x v r1)
      · exact Reps.cut (fun a z => rt_mono (fun j q => List.mem_append_right _ q) z) r2
theorem tE_mono {i : E} {Q Q' : VK} (hQ : ∀ v H', Q v H' → Q' v H') (h : tE G F hot B W i σ H Q) : tE G F hot B W i σ H Q' := by
  obtain ⟨Om, env, re, h⟩ := h
  refine ⟨Om, env, re, ?_⟩
  cases e1 : ev F i env with
  | stk => rw [e1] at h; exact h
  | exc c pl env1 => rw [e1] at h; exact h
  | ok x env1 => rw [e1] at h; exact fun v H' k re' r f => hQ v H' (h v H' k re' r f)
theorem tE_op {o : Op} {es : Es} {Q : VK} (h : tE G F hot B W (.op o es) σ H Q) : tEs G F hot B W es σ H fun vs H' => rP G o vs H' Q := by
  obtain ⟨Om, env, re, h⟩ := h
  refine ⟨Om, env, re, ?_⟩
  simp only [ev] at h
  cases e1 : evs F es env with
  | stk => rw [e1] at h; exact h
  | exc c pl env1 => rw [e1] at h; exact h
  | ok xs env1 =>
    rw [e1] at h
    simp only [R.bind] at h
    intro vs H1 k1 re1 r1
    cases e2 : opSem o xs with
    | none => rw [e2] at h; exact h.elim
    | some x =>
      rw [e2] at h
      refine ⟨cutO Om (rt hot Om σ (peekss es)), xs, x, fun a z => re1.om a z.1, r1, e2, fun v H' k r f => ?_⟩
      exact h v H' (Keep.trans k1 k (fun _ z => z) fun _ z => z.elim) (re1.keep k) r fun z => NewE.of re1 k (f z) fun a n => keep_none re1.om k1 n
theorem tE_op1 {o : Op} {a : E} {Q : VK} (h : tE G F hot B W (.op o (.cons a .nil)) σ H Q) : tE G F hot B W a σ H fun x H' => rP G o [x] H' Q :=
  tE_mono (fun _ _ h => tEs_nil h) (tEs_cons (by
    show disj (peeks a) [] = true
    exact List.all_eq_true.mpr fun _ _ => rfl) (tE_op h))
theorem tE_op2 {o : Op} {a b : E} {Q : VK} (hd : disj (peeks a) (muts b) = true) (h : tE G F hot B W (.op o (.cons a (.cons b .nil))) σ H Q) :
    tE G F hot B W a σ H fun x H1 => tE G F hot B W b σ H1 fun y H2 => rP G o [x, y] H2 Q :=
  tE_mono (fun _ _ h => tE_mono (fun _ _ h => tEs_nil h) (tEs_cons (List.all_eq_true.mpr fun _ _ => rfl) h)) (tEs_cons (by
    show disj (peeks a) (muts b ++ []) = true
    rw [List.append_nil]
    exact hd) (tE_op h))
end

/-! ### what a context must have -/
structure Sx (X : Cx) (G : Gx) (W : WX) : Prop where
  K : X.K = G.K
  w : X.w = G.w
  un : X.A.units + 80 < cLine
  nd : X.N.Nodup
  tk : Takes X W

section
variable {G : Gx} {F : Fn} {hot : List Nat} {B : Bs} {W : WX} {X : Cx} {a b c : Expr} {ia ib ic : E} {pos : Pos}
theorem pE_var (i : Nat) {x : Str} (hN : X.N[i]? = some x := by rfl) (hv : Vis X.env.scope x := by first | exact Or.inl rfl | exact Or.inr (Or.inl rfl) | exact Or.inr (Or.inr rfl)) (hd : (x == ("__debug__" : Str)) = false := by decide)
    (hcd : (x == ("__classdict__" : Str)) = false := by decide) : PE X (.Name x pos) (tE G F hot B W (.var i)) := by
  refine PE.imp (pe_var hN hv hd hcd) fun σ H Q h => ?_
  obtain ⟨Om, env, re, h⟩ := h
  simp only [ev] at h
  cases e : getE env i with
  | none => rw [e] at h; exact h.elim
  | some y =>
    rw [e] at h
    simp only at h
    cases q : isExn y with
    | true => simp [q] at h
    | false =>
      simp only [q, Bool.false_eq_true, if_false] at h
      by_cases hh : i ∈ hot
      · obtain ⟨p, e1, o, _, r⟩ := re.root i y e hh
        exact ⟨_, e1, h _ H (Keep.refl H) re (r.rep (List.mem_singleton.mpr rfl) hh e1 o) fun z => by cases z⟩
      · obtain ⟨v, e1, r⟩ := re.cold i y e hh q
        exact ⟨v, e1, h v H (Keep.refl H) re r.toCut fun z => by cases z⟩
theorem pE_cst {x : PV} {v : V} (h : PE X a (tC v)) (r : ∀ Om H, Rep G Om H x v) : PE X a (tE G F hot B W (.cst x)) := by
  refine PE.imp h fun σ H Q h => ?_
  obtain ⟨Om, env, re, h⟩ := h
  exact h v H (Keep.refl H) re (r _ _) fun z => by cases z
theorem pE_int {i : Int} {j : Nat} : PE X (.Constant (.int i) j pos) (tE G F hot B W (.cst (.int i))) := pE_cst pe_int fun _ _ => rfl
theorem pE_bl {b : Bool} {j : Nat} : PE X (.Constant (.bool b) j pos) (tE G F hot B W (.cst (.bl b))) := pE_cst pe_bl fun _ _ => rfl
theorem pE_non {j : Nat} : PE X (.Constant .none j pos) (tE G F hot B W (.cst .non)) := pE_cst pe_non fun _ _ => rfl
theorem pE_str {x : Str} {j : Nat} : PE X (.Constant (.str x) j pos) (tE G F hot B W (.cst (.str x))) := pE_cst pe_str fun _ _ => rfl
theorem pE_fn {x : Str} {g : Nat} {f : Addr} (hf : G.fa g = f) (hg : Gl X x) (hm : X.mg x = some (.ref f)) (hd : (x == ("__debug__" : Str)) = false := by decide) : PE X (.Name x pos) (tE G F hot B W (.cst (.fn g))) :=
  pE_cst (v := .ref (G.fa g)) (pe_glob hg hm (by rw [hf]; rfl) hd) fun _ _ => rfl
theorem pE_bin {op : Operator} {o : Op} (ho : OpR X (binaryOp op) (fun x y => rP G o [x, y])) (ha : PE X a (tE G F hot B W ia)) (hb : PE X b (tE G F hot B W ib)) (hd : disj (peeks ia) (muts ib) = true := by rfl) :
    PE X (.BinOp a op b pos) (tE G F hot B W (.op o (.cons ia (.cons ib .nil)))) := PE.imp (pe_op ho ha hb) fun _ _ _ h => tE_op2 hd h
theorem pE_cmp {op : CmpOp} {o : Op} (ho : OpR X (compareOp op) (fun x y => rP G o [x, y])) (ha : PE X a (tE G F hot B W ia)) (hb : PE X b (tE G F hot B W ib)) (hm : behindInMarks op b = false) (hd : disj (peeks ia) (muts ib) = true := by rfl) :
    PE X (.Compare a [op] [b] pos) (tE G F hot B W (.op o (.cons ia (.cons ib .nil)))) := PE.imp (pe_cmpR ho ha hb hm) fun _ _ _ h => tE_op2 hd h
theorem pE_un {op : UnaryOp} {o : Op} (ho : UnR X (unaryOp op) (fun x => rP G o [x])) (ha : PE X a (tE G F hot B W ia)) : PE X (.UnaryOp op a pos) (tE G F hot B W (.op o (.cons ia .nil))) :=
  PE.imp (pe_un ho ha) fun _ _ _ h => tE_op1 h
theorem pE_ix (ho : IxR X (fun x y => rP G .ix [x, y])) (ha : PE X a (tE G F hot B W ia)) (hb : PE X b (tE G F hot B W ib)) (hi : PlainIx b) (hd : disj (peeks ia) (muts ib) = true := by rfl) :
    PE X (.Subscript a b pos) (tE G F hot B W (.op .ix (.cons ia (.cons ib .nil)))) := PE.imp (pe_ix ho ha hb hi) fun _ _ _ h => tE_op2 hd h
theorem pAs_nil : PA X [] (tEs G F hot B W .nil) := PA.imp pa_nil fun _ _ _ h => tEs_nil h
theorem pAs_cons {es : List Expr} {r : Es} (ha : PE X a (tE G F hot B W ia)) (hr : PA X es (tEs G F hot B W r)) (hd : disj (peeks ia) (mutss r) = true := by rfl) (hs : starEach (a :: es) X.env = (false, eval a X.env) :: starEach es X.env := by rfl) :
    PA X (a :: es) (tEs G F hot B W (.cons ia r)) := PA.imp (pa_cons ha hr hs) fun _ _ _ h => tEs_cons hd h
theorem pE_callB {es : List Expr} {r : Es} {o : Op} {x : Str} {id : String} {p : Pos} (hc : CallR X (.builtin id) (rP G o)) (hg : Gl X x) (hm : X.mg x = none) (hv : bootBuiltins x = some (.builtin id)) (ha : PA X (a :: es) (tEs G F hot B W r)) (hn : x ≠ "__name__" := by decide) (hdb : (x == ("__debug__" : Str)) = false := by decide)
    (he : starEach (a :: es) X.env = (false, eval a X.env) :: starEach es X.env := by rfl) (hpl : (backTo pos (starEach es X.env)).any (·.1) = false := by rfl) : PE X (.Call (.Name x p) (a :: es) [] pos) (tE G F hot B W (.op o r)) :=
  PE.imp (pe_callB hc hg hm hv ha hn hdb he hpl) fun _ _ _ h => tE_op h
theorem pE_callTy {es : List Expr} {r : Es} {o : Op} {x : Str} {T : String} {p : Pos} (hc : CallR X (.type T) (rP G o)) (hg : Gl X x) (hm : X.mg x = none) (hv : bootBuiltins x = some (.type T)) (ha : PA X (a :: es) (tEs G F hot B W r)) (hn : x ≠ "__name__" := by decide) (hdb : (x == ("__debug__" : Str)) = false := by decide)
    (he : starEach (a :: es) X.env = (false, eval a X.env) :: starEach es X.env := by rfl) (hpl : (backTo pos (starEach es X.env)).any (·.1) = false := by rfl) : PE X (.Call (.Name x p) (a :: es) [] pos) (tE G F hot B W (.op o r)) :=
  PE.imp (pe_callTy hc hg hm hv ha hn hdb he hpl) fun _ _ _ h => tE_op h
/-- displays -/
theorem pE_tup {es : List Expr} {r : Es} {m : Nat} (h : PA X es (tEs G F hot B W r)) : PE X (.Tuple es m pos) (tE G F hot B W (.tup r)) := by
  refine PE.imp (pe_tup h) fun σ H Q h => ?_
  obtain ⟨Om, env, re, h⟩ := h
  refine ⟨Om, env, re, ?_⟩
  simp only [ev] at h
  cases e1 : evs F r env with
  | stk => rw [e1] at h; exact h
  | exc c pl env1 => rw [e1] at h; exact h
  | ok xs env1 =>
    rw [e1] at h
    simp only [R.bind] at h
    intro vs H1 k1 re1 r1
    cases hs : short xs with
    | false => rw [hs] at h; exact h.elim
    | true =>
      rw [hs] at h
      have hl := r1.length
      have hx := short_lt hs
      have hc := cap_line
      refine ⟨by omega, fun p np => ?_⟩
      exact h (.ref p) _ (Keep.trans k1 (keep_new (W := none1) np) (fun _ z => z) fun _ z => z.elim) (re1.keep (keep_new np)) (Rep.tupNew np r1) fun z => by cases z
theorem pE_lst {es : List Expr} {r : Es} (h : PA X es (tEs G F hot B W r)) : PE X (.List es pos) (tE G F hot B W (.lst r)) := by
  refine PE.imp (pe_lst h) fun σ H Q h => ?_
  obtain ⟨Om, env, re, h⟩ := h
  refine ⟨Om, env, re, ?_⟩
  simp only [ev] at h
  cases e1 : evs F r env with
  | stk => rw [e1] at h; exact h
  | exc c pl env1 => rw [e1] at h; exact h
  | ok xs env1 =>
    rw [e1] at h
    simp only [R.bind] at h
    intro vs H1 k1 re1 r1
    cases hs : short xs with
    | false => rw [hs] at h; exact h.elim
    | true =>
      rw [hs] at h
      have hl := r1.length
      have hx := short_lt hs
      have hc := cap_line
      refine ⟨by omega, fun p np => ?_⟩
      exact h (.ref p) _ (Keep.trans k1 (keep_new (W := none1) np) (fun _ z => z) fun _ z => z.elim) (re1.keep (keep_new np)) (Rep.lstNew (fun a z => re1.om a z.1) np r1) fun _ => NewE.of re1 (keep_new np) (FreshR.lst (xs := xs) np) fun a n => keep_none re1.om k1 n

/-! ### truth, and, or, not -/
theorem truth_V {Om : Addr → Prop} {H : Hp} {x : PV} {v : V} {b : Bool} (hK : X.K = G.K) (r : Rep G Om H x v) (h : truth x = some b) : TruV X.K v H b := by
  have hc := cap_line
  cases x with
  | non => rw [show v = _ from r]; cases h; rfl
  | bl c => rw [show v = _ from r]; cases h; rfl
  | int i =>
    rw [show v = _ from r]
    simp only [truth, Option.some.injEq, iEq_eq] at h
    subst h
    show (!decide (i = 0)) = (i != 0)
    by_cases e : i = 0
    · subst e; rfl
    · rw [decide_eq_false e, bne_iff_ne.mpr e]; rfl
  | str y =>
    rw [show v = _ from r]
    simp only [truth] at h
    split at h
    · rename_i hs
      have hs := blt_lt hs
      cases h
      have hy : y.length = y.cps.size := rfl
      refine ⟨by unfold cap at hs; omega, ?_⟩
      rw [hy]
      cases e : y.cps.size with
      | zero => rfl
      | succ n => exact (bne_iff_ne.mpr (by omega)).symm
    · cases h
  | tup xs =>
    obtain ⟨a, vs, rfl, q, rs⟩ := r
    refine .inr (.inl ⟨vs, hK ▸ q, ?_⟩)
    simp only [truth, Option.some.injEq] at h
    cases xs with
    | nil => rw [show vs = [] from rs]; exact h.symm
    | cons x xs => obtain ⟨_, _, rfl, _⟩ := rs; exact h.symm
  | lst xs =>
    obtain ⟨a, vs, rfl, n, q, rs⟩ := r
    refine .inl ⟨vs, .inl (.inl q), ?_⟩
    simp only [truth, Option.some.injEq] at h
    cases xs with
    | nil => rw [show vs = [] from rs]; exact h.symm
    | cons x xs => obtain ⟨_, _, rfl, _⟩ := rs; exact h.symm
  | dct ks vs => cases h
  | fn g => cases h
  | exn c pl => cases h
  | scr xs =>
    obtain ⟨a, vs, rfl, n, rs⟩ := r
    refine .inl ⟨vs, hK ▸ n.sq, ?_⟩
    simp only [truth, Option.some.injEq] at h
    cases xs with
    | nil => rw [show vs = [] from rs]; exact h.symm
    | cons x xs => obtain ⟨_, _, rfl, _⟩ := rs; exact h.symm
theorem ur_not (hK : X.K = G.K) : UnR X (unaryOp .Not) (fun x => rP G .not_ [x]) := by
  intro pins s σ H x v Q I rx ⟨Om, pvs, pv, om, rp, sem, q⟩
  obtain ⟨y, rfl, r⟩ := rp.one'
  have sem : (truth y).map (fun b => PV.bl (!b)) = some pv := sem
  obtain ⟨b, eb, rfl⟩ := Option.map_eq_some_iff.mp sem
  exact not_of (thn (tru_ok pins s σ H x v (fun k H' => Q (.bl (!k)) H') I rx ⟨b, truth_V hK r eb, q _ _ (Keep.refl H) rfl fun z => by cases z⟩) fun k s1 ⟨H1, I1, q1⟩ => ⟨.bl (!k), H1, I1, rfl, q1⟩)
theorem ur_neg : UnR X (unaryOp .USub) (fun x => rP G .neg [x]) := by
  intro pins s σ H x v Q I rx ⟨Om, pvs, pv, om, rp, sem, q⟩
  obtain ⟨y, rfl, r⟩ := rp.one'
  cases y <;> simp [opSem] at sem
  rename_i i
  subst sem
  exact un_neg pins s σ H x v Q I rx ⟨i, r, q _ _ (Keep.refl H) rfl fun z => by cases z⟩
theorem tE_test {i : E} {σ : L2.St} {H : Hp} {Q : Bool → Hp → Prop} (hK : X.K = G.K) (h : tTt G F hot B W i σ H Q) : tE G F hot B W i σ H fun x H' => ∃ k, TruV X.K x H' k ∧ Q k H' := by
  obtain ⟨Om, env, re, h⟩ := h
  refine ⟨Om, env, re, ?_⟩
  cases e1 : ev F i env with
  | stk => rw [e1] at h; exact h
  | exc c pl env1 => rw [e1] at h; exact h
  | ok x env1 =>
    rw [e1] at h
    obtain ⟨b, eb, h⟩ := h
    exact fun v H' k re' r f => ⟨b, truth_V hK r eb, h H' k re'⟩
/-- a test that is its value's truth -/
theorem pT_val (hK : X.K = G.K) (ha : PE X a (tE G F hot B W ia)) (he : ∀ whole, isTrue a X.env whole = (do let v ← whole; standAt a.pos; holding [v] (truthy v)) := by intro _; rfl) : PT X a (tTt G F hot B W ia) :=
  PT.imp (pt_truth ha he) fun _ _ _ h => tE_test hK h
theorem pT_cmp {op : CmpOp} {o : Op} (hK : X.K = G.K) (hp : ∀ xs v, opSem o xs = some v → ∃ b, v = .bl b) (ho : OpR X (compareOp op) (fun x y => rP G o [x, y])) (ha : PE X a (tE G F hot B W ia)) (hb : PE X b (tE G F hot B W ib)) (hm : behindInMarks op b = false) (hd : disj (peeks ia) (muts ib) = true := by rfl) :
    PT X (.Compare a [op] [b] pos) (tTt G F hot B W (.op o (.cons ia (.cons ib .nil)))) := by
  refine PT.imp (pt_cmpR ho ha hb hm) fun σ H Q h => ?_
  have h2 : tE G F hot B W (.op o (.cons ia (.cons ib .nil))) σ H fun x H' => ∃ k, x = .bl k ∧ Q k H' := by
    obtain ⟨Om, env, re, h⟩ := h
    refine ⟨Om, env, re, ?_⟩
    simp only [ev] at h ⊢
    cases e1 : evs F (.cons ia (.cons ib .nil)) env with
    | stk => rw [e1] at h; exact h
    | exc c pl env1 => rw [e1] at h; exact h
    | ok xs env1 =>
      rw [e1] at h
      simp only [R.bind] at h ⊢
      cases e2 : opSem o xs with
      | none => rw [e2] at h; exact h.elim
      | some x =>
        rw [e2] at h
        obtain ⟨c, rfl⟩ := hp xs x e2
        obtain ⟨b, eb, h⟩ := h
        cases eb
        exact fun v H' k re' r f => ⟨_, r, h H' k re'⟩
  exact tE_op2 hd h2
theorem tT_not {i : E} {σ : L2.St} {H : Hp} {Q : Bool → Hp → Prop} (h : tTt G F hot B W (.op .not_ (.cons i .nil)) σ H Q) : tTt G F hot B W i σ H fun b H' => Q (!b) H' := by
  obtain ⟨Om, env, re, h⟩ := h
  refine ⟨Om, env, re, ?_⟩
  simp only [ev, evs] at h
  cases e1 : ev F i env with
  | stk => rw [e1] at h; exact h
  | exc c pl env1 => rw [e1] at h; exact h
  | ok x env1 =>
    rw [e1] at h
    simp only [R.bind, opSem] at h
    cases e2 : truth x with
    | none => rw [e2] at h; exact h.elim
    | some b =>
      rw [e2] at h
      obtain ⟨c, ec, h⟩ := h
      cases ec
      refine ⟨b, e2, fun H' k re' => h H' ?_ re'⟩
      refine k.mono fun a z => rt_mono (fun j q => ?_) z
      exact List.mem_append_left _ q
theorem pT_not (ha : PT X a (tTt G F hot B W ia)) : PT X (.UnaryOp .Not a pos) (tTt G F hot B W (.op .not_ (.cons ia .nil))) := PT.imp (pt_not ha) fun _ _ _ h => tT_not h
theorem tT_and {i j : E} {σ : L2.St} {H : Hp} {Q : Bool → Hp → Prop} (h : tTt G F hot B W (.and i j) σ H Q) : tTt G F hot B W i σ H fun b H' => if b = true then tTt G F hot B W j σ H' Q else Q false H' := by
  obtain ⟨Om, env, re, h⟩ := h
  refine ⟨Om, env, re, ?_⟩
  simp only [ev] at h
  cases e1 : ev F i env with
  | stk => rw [e1] at h; exact h
  | exc c pl env1 => rw [e1] at h; exact h
  | ok x env1 =>
    rw [e1] at h
    simp only [R.bind] at h
    cases e2 : truth x with
    | none => rw [e2] at h; exact h.elim
    | some b =>
      rw [e2] at h
      refine ⟨b, e2, fun H1 k1 re1 => ?_⟩
      cases b with
      | true =>
        simp only [if_true]
        refine ⟨Om, env1, re1, ?_⟩
        simp only at h
        cases e3 : ev F j env1 with
        | stk => rw [e3] at h; exact h
        | exc c pl env2 => rw [e3] at h; exact fun cls d H' k' re' er => h cls d H' (k1.om k') re' er
        | ok y env2 =>
          rw [e3] at h
          obtain ⟨c, ec, h⟩ := h
          exact ⟨c, ec, fun H2 k2 re2 => h H2 (Keep.trans k1 k2 (fun a z => rt_mono (fun j q => List.mem_append_left _ q) z) fun a z => rt_mono (fun j q => List.mem_append_right _ q) z) re2⟩
      | false =>
        simp only [Bool.false_eq_true, if_false]
        obtain ⟨c, ec, h⟩ := h
        rw [e2] at ec; cases ec
        exact h H1 (k1.mono fun a z => rt_mono (fun j q => List.mem_append_left _ q) z) re1
theorem tT_or {i j : E} {σ : L2.St} {H : Hp} {Q : Bool → Hp → Prop} (h : tTt G F hot B W (.or i j) σ H Q) : tTt G F hot B W i σ H fun b H' => if b = true then Q true H' else tTt G F hot B W j σ H' Q := by
  obtain ⟨Om, env, re, h⟩ := h
  refine ⟨Om, env, re, ?_⟩
  simp only [ev] at h
  cases e1 : ev F i env with
  | stk => rw [e1] at h; exact h
  | exc c pl env1 => rw [e1] at h; exact h
  | ok x env1 =>
    rw [e1] at h
    simp only [R.bind] at h
    cases e2 : truth x with
    | none => rw [e2] at h; exact h.elim
    | some b =>
      rw [e2] at h
      refine ⟨b, e2, fun H1 k1 re1 => ?_⟩
      cases b with
      | false =>
        simp only [Bool.false_eq_true, if_false]
        refine ⟨Om, env1, re1, ?_⟩
        simp only at h
        cases e3 : ev F j env1 with
        | stk => rw [e3] at h; exact h
        | exc c pl env2 => rw [e3] at h; exact fun cls d H' k' re' er => h cls d H' (k1.om k') re' er
        | ok y env2 =>
          rw [e3] at h
          obtain ⟨c, ec, h⟩ := h
          exact ⟨c, ec, fun H2 k2 re2 => h H2 (Keep.trans k1 k2 (fun a z => rt_mono (fun j q => List.mem_append_left _ q) z) fun a z => rt_mono (fun j q => List.mem_append_right _ q) z) re2⟩
      | true =>
        simp only [if_true]
        obtain ⟨c, ec, h⟩ := h
        rw [e2] at ec; cases ec
        exact h H1 (k1.mono fun a z => rt_mono (fun j q => List.mem_append_left _ q) z) re1
theorem PW.imp {t t' : TT} (h : PW X a t) (i : ∀ σ H Q, t' σ H Q → t σ H Q) : PW X a t' := ⟨fun w pins s σ H Q I q => h.run w pins s σ H Q I (i σ H Q q)⟩
variable {rest : List Expr}
theorem pW_and1 (ha : PT X a (tTt G F hot B W ia)) : PW X (.BoolOp .And [a] pos) (tTt G F hot B W ia) := pw_and1 ha
theorem pW_or1 (ha : PT X a (tTt G F hot B W ia)) : PW X (.BoolOp .Or [a] pos) (tTt G F hot B W ia) := pw_or1 ha
theorem pW_and (ha : PT X a (tTt G F hot B W ia)) (hb : PW X (.BoolOp .And (b :: rest) pos) (tTt G F hot B W ib)) : PW X (.BoolOp .And (a :: b :: rest) pos) (tTt G F hot B W (.and ia ib)) := PW.imp (pw_and ha hb) fun _ _ _ h => tT_and h
theorem pW_or (ha : PT X a (tTt G F hot B W ia)) (hb : PW X (.BoolOp .Or (b :: rest) pos) (tTt G F hot B W ib)) : PW X (.BoolOp .Or (a :: b :: rest) pos) (tTt G F hot B W (.or ia ib)) := PW.imp (pw_or ha hb) fun _ _ _ h => tT_or h
end
end Sl

/-! Ev8: and, or, if as values; chains; is None; calls of defs. -/
namespace Sl
open PySem PySem.Spec PyProof.Rows L2
section
variable {G : Gx} {F : Fn} {hot : List Nat} {B : Bs} {W : WX} {X : Cx} {a b c : Expr} {ia ib ic : E} {pos : Pos} {rest : List Expr}
theorem tE_and {i j : E} {σ : L2.St} {H : Hp} {Q : VK} (hK : X.K = G.K) (h : tE G F hot B W (.and i j) σ H Q) :
    tE G F hot B W i σ H fun x H1 => ∃ k, TruV X.K x H1 k ∧ if k = true then tE G F hot B W j σ H1 Q else Q x H1 := by
  obtain ⟨Om, env, re, h⟩ := h
  refine ⟨Om, env, re, ?_⟩
  simp only [ev] at h
  cases e1 : ev F i env with
  | stk => rw [e1] at h; exact h
  | exc c pl env1 => rw [e1] at h; exact h
  | ok x env1 =>
    rw [e1] at h
    simp only [R.bind] at h
    intro v H1 k1 re1 r1 f1
    cases e2 : truth x with
    | none => rw [e2] at h; exact h.elim
    | some b =>
      rw [e2] at h
      refine ⟨b, truth_V hK r1 e2, ?_⟩
      cases b with
      | true =>
        simp only [if_true]
        refine ⟨Om, env1, re1, ?_⟩
        simp only at h
        cases e3 : ev F j env1 with
        | stk => rw [e3] at h; exact h
        | exc c pl env2 => rw [e3] at h; exact fun cls d H' k' re' er => h cls d H' (k1.om k') re' er
        | ok y env2 =>
          rw [e3] at h
          exact fun v H2 k2 re2 r2 f2 => h v H2 (Keep.trans k1 k2 (fun a z => rt_mono (fun j q => List.mem_append_left _ q) z) fun a z => rt_mono (fun j q => List.mem_append_right _ q) z) re2 (r2.cut fun a z => rt_mono (fun j q => List.mem_append_right _ q) z) fun z => by cases z
      | false =>
        simp only [Bool.false_eq_true, if_false]
        exact h v H1 (k1.mono fun a z => rt_mono (fun j q => List.mem_append_left _ q) z) re1 (r1.cut fun a z => rt_mono (fun j q => List.mem_append_left _ q) z) fun z => by cases z
theorem tE_or {i j : E} {σ : L2.St} {H : Hp} {Q : VK} (hK : X.K = G.K) (h : tE G F hot B W (.or i j) σ H Q) :
    tE G F hot B W i σ H fun x H1 => ∃ k, TruV X.K x H1 k ∧ if k = true then Q x H1 else tE G F hot B W j σ H1 Q := by
  obtain ⟨Om, env, re, h⟩ := h
  refine ⟨Om, env, re, ?_⟩
  simp only [ev] at h
  cases e1 : ev F i env with
  | stk => rw [e1] at h; exact h
  | exc c pl env1 => rw [e1] at h; exact h
  | ok x env1 =>
    rw [e1] at h
    simp only [R.bind] at h
    intro v H1 k1 re1 r1 f1
    cases e2 : truth x with
    | none => rw [e2] at h; exact h.elim
    | some b =>
      rw [e2] at h
      refine ⟨b, truth_V hK r1 e2, ?_⟩
      cases b with
      | false =>
        simp only [Bool.false_eq_true, if_false]
        refine ⟨Om, env1, re1, ?_⟩
        simp only at h
        cases e3 : ev F j env1 with
        | stk => rw [e3] at h; exact h
        | exc c pl env2 => rw [e3] at h; exact fun cls d H' k' re' er => h cls d H' (k1.om k') re' er
        | ok y env2 =>
          rw [e3] at h
          exact fun v H2 k2 re2 r2 f2 => h v H2 (Keep.trans k1 k2 (fun a z => rt_mono (fun j q => List.mem_append_left _ q) z) fun a z => rt_mono (fun j q => List.mem_append_right _ q) z) re2 (r2.cut fun a z => rt_mono (fun j q => List.mem_append_right _ q) z) fun z => (f2 (Bool.and_eq_true_iff.mp z).2).mono fun a n => keep_none re1.om k1 n
      | true =>
        simp only [if_true]
        exact h v H1 (k1.mono fun a z => rt_mono (fun j q => List.mem_append_left _ q) z) re1 (r1.cut fun a z => rt_mono (fun j q => List.mem_append_left _ q) z) fun z => f1 (Bool.and_eq_true_iff.mp z).1
theorem pE_one {op : BoolOp} (ha : PE X a (tE G F hot B W ia)) : PE X (.BoolOp op [a] pos) (tE G F hot B W ia) := pe_one ha
theorem pE_and (hK : X.K = G.K) (ha : PE X a (tE G F hot B W ia)) (hb : PE X (.BoolOp .And (b :: rest) pos) (tE G F hot B W ib)) : PE X (.BoolOp .And (a :: b :: rest) pos) (tE G F hot B W (.and ia ib)) := by
  refine ⟨fun pins s σ H Q I h => BoolOp_and (thn (ha.run pins s σ H _ I (tE_and hK h)) fun v s1 ⟨x, H1, I1, r1, k, tk, q⟩ => ?_)⟩
  refine thn (tru_ok pins s1 σ H1 x v (fun k' H' => k' = k ∧ H' = H1) I1 r1 ⟨k, tk, rfl, rfl⟩) fun k' s2 ⟨H2, I2, e1, e2⟩ => ?_
  subst e1; subst e2
  cases k' with
  | true => simp only [if_true] at q ⊢; exact hb.run pins s2 σ H2 Q I2 q
  | false => simp only [Bool.false_eq_true, if_false] at q ⊢; exact ⟨x, H2, I2, r1, q⟩
theorem pE_or (hK : X.K = G.K) (ha : PE X a (tE G F hot B W ia)) (hb : PE X (.BoolOp .Or (b :: rest) pos) (tE G F hot B W ib)) : PE X (.BoolOp .Or (a :: b :: rest) pos) (tE G F hot B W (.or ia ib)) := by
  refine ⟨fun pins s σ H Q I h => BoolOp_or (thn (ha.run pins s σ H _ I (tE_or hK h)) fun v s1 ⟨x, H1, I1, r1, k, tk, q⟩ => ?_)⟩
  refine thn (tru_ok pins s1 σ H1 x v (fun k' H' => k' = k ∧ H' = H1) I1 r1 ⟨k, tk, rfl, rfl⟩) fun k' s2 ⟨H2, I2, e1, e2⟩ => ?_
  subst e1; subst e2
  cases k' with
  | false => simp only [Bool.false_eq_true, if_false] at q ⊢; exact hb.run pins s2 σ H2 Q I2 q
  | true => simp only [if_true] at q ⊢; exact ⟨x, H2, I2, r1, q⟩
theorem pE_ite (hc : PT X c (tTt G F hot B W ic)) (ha : PE X a (tE G F hot B W ia)) (hb : PE X b (tE G F hot B W ib)) : PE X (.IfExp c a b pos) (tE G F hot B W (.ite ic ia ib)) := by
  refine PE.imp (pe_ifExp hc ha hb) fun σ H Q h => ?_
  obtain ⟨Om, env, re, h⟩ := h
  refine ⟨Om, env, re, ?_⟩
  simp only [ev] at h
  cases e1 : ev F ic env with
  | stk => rw [e1] at h; exact h
  | exc c pl env1 => rw [e1] at h; exact h
  | ok x env1 =>
    rw [e1] at h
    simp only [R.bind] at h
    cases e2 : truth x with
    | none => rw [e2] at h; exact h.elim
    | some k =>
      rw [e2] at h
      refine ⟨k, e2, fun H1 k1 re1 => ?_⟩
      have kk : ∀ {H2 : Hp} {ms : List Nat}, Keep (rt hot Om σ ms) H1 H2 → (∀ j ∈ ms, j ∈ muts ia ++ muts ib) → Keep (rt hot Om σ (muts (.ite ic ia ib))) H H2 := fun k2 hm =>
        Keep.trans k1 k2 (fun a z => rt_mono (fun j q => List.mem_append_left _ q) z) fun a z => rt_mono (fun j q => List.mem_append_right _ (hm j q)) z
      cases k with
      | true =>
        simp only [if_true] at h ⊢
        refine ⟨Om, env1, re1, ?_⟩
        cases e3 : ev F ia env1 with
        | stk => rw [e3] at h; exact h
        | exc c pl env2 => rw [e3] at h; exact fun cls d H' k' re' er => h cls d H' (k1.om k') re' er
        | ok y env2 =>
          rw [e3] at h
          exact fun v H2 k2 re2 r2 f2 => h v H2 (kk k2 fun j q => List.mem_append_left _ q) re2 (r2.cut fun a z => rt_mono (fun j q => List.mem_append_left _ q) z) fun z => (f2 (Bool.and_eq_true_iff.mp z).1).mono fun a n => keep_none re1.om k1 n
      | false =>
        simp only [Bool.false_eq_true, if_false] at h ⊢
        refine ⟨Om, env1, re1, ?_⟩
        cases e3 : ev F ib env1 with
        | stk => rw [e3] at h; exact h
        | exc c pl env2 => rw [e3] at h; exact fun cls d H' k' re' er => h cls d H' (k1.om k') re' er
        | ok y env2 =>
          rw [e3] at h
          exact fun v H2 k2 re2 r2 f2 => h v H2 (kk k2 fun j q => List.mem_append_right _ q) re2 (r2.cut fun a z => rt_mono (fun j q => List.mem_append_right _ q) z) fun z => (f2 (Bool.and_eq_true_iff.mp z).2).mono fun a n => keep_none re1.om k1 n
/-- a chain of two comparisons -/
theorem tE_chain {o p : Op} {i j l : E} {σ : L2.St} {H : Hp} {Q : VK} (hd : disj (peeks i) (muts j) = true) (hd2 : disj (peeks j) (muts l) = true) (h : tE G F hot B W (.chain o p i j l) σ H Q) :
    tChain (fun x y => rP G o [x, y]) (fun x y => rP G p [x, y]) (tE G F hot B W i) (tE G F hot B W j) (tE G F hot B W l) σ H Q := by
  obtain ⟨Om, env, re, h⟩ := h
  refine ⟨Om, env, re, ?_⟩
  simp only [ev] at h
  cases e1 : ev F i env with
  | stk => rw [e1] at h; exact h
  | exc c pl env1 => rw [e1] at h; exact h
  | ok x env1 =>
    rw [e1] at h
    simp only [R.bind] at h
    intro v H1 k1 re1 r1 f1
    refine ⟨Om, env1, re1, ?_⟩
    cases e2 : ev F j env1 with
    | stk => rw [e2] at h; exact h
    | exc c pl env1 => rw [e2] at h; exact fun cls d H' k' re' er => h cls d H' (k1.om k') re' er
    | ok y env2 =>
      rw [e2] at h
      simp only [R.bind] at h
      intro u H2 k2 re2 r2 f2
      have r1' : Rep G (cutO Om (rt hot Om σ (peeks i ++ (peeks j ++ peeks l)))) H2 x v := Rep.cut (fun a z => rt_mono (fun j q => List.mem_append_left _ q) z) (Rep.keep k2 (hwR re1.om) (re1.apart hd) x v r1)
      have r2' : Rep G (cutO Om (rt hot Om σ (peeks i ++ (peeks j ++ peeks l)))) H2 y u := Rep.cut (fun a z => rt_mono (fun j q => List.mem_append_right _ (List.mem_append_left _ q)) z) r2
      have k12 : Keep (rt hot Om σ (muts i ++ (muts j ++ muts l))) H H2 := Keep.trans k1 k2 (fun a z => rt_mono (fun j q => List.mem_append_left _ q) z) fun a z => rt_mono (fun j q => List.mem_append_right _ (List.mem_append_left _ q)) z
      cases e3 : opSem o [x, y] with
      | none => rw [e3] at h; exact h.elim
      | some z =>
        rw [e3] at h
        refine ⟨_, [x, y], z, fun a q => re2.om a q.1, Reps.cons r1' (Reps.cons r2' Reps.nil), e3, fun w H3 k3 r3 f3 => ?_⟩
        have re3 := re2.keep k3
        cases z with
        | bl k =>
          refine ⟨k, r3, ?_⟩
          cases k with
          | true =>
            simp only [if_true]
            refine ⟨Om, env2, re3, ?_⟩
            simp only at h
            cases e4 : ev F l env2 with
            | stk => rw [e4] at h; exact h
            | exc c pl env1 => rw [e4] at h; exact fun cls d H' k' re' er => h cls d H' (k12.om (Keep.trans k3 k' (fun _ z => z.elim) fun _ z => z)) re' er
            | ok t env3 =>
              rw [e4] at h
              simp only [R.bind] at h
              intro u3 H4 k4 re4 r4 f4
              cases e5 : opSem p [y, t] with
              | none => rw [e5] at h; exact h.elim
              | some q =>
                rw [e5] at h
                have r2'' : Rep G (cutO Om (rt hot Om σ (peeks j))) H4 y u := Rep.keep k4 (hwR re3.om) (re3.apart hd2) y u (Rep.keep k3 hw0 (fun _ z => z.elim) y u r2)
                refine ⟨_, [y, t], q, fun a q => re4.om a q.1, Reps.cons (Rep.cut (R' := rt hot Om σ (peeks i ++ (peeks j ++ peeks l))) (fun a z => rt_mono (fun j q => List.mem_append_right _ (List.mem_append_left _ q)) z) r2'') (Reps.cons (Rep.cut (fun a z => rt_mono (fun j q => List.mem_append_right _ (List.mem_append_right _ q)) z) r4) Reps.nil), e5, fun w2 H5 k5 r5 f5 => ?_⟩
                refine h w2 H5 (Keep.trans (Keep.trans k12 k3 (fun _ z => z) fun _ z => z.elim) (Keep.trans k4 k5 (V := rt hot Om σ (muts l)) (fun _ z => z) fun _ z => z.elim) (fun _ z => z) fun a z => rt_mono (fun j q => List.mem_append_right _ (List.mem_append_right _ q)) z) (re4.keep k5) r5 fun z => by cases z
          | false =>
            simp only [Bool.false_eq_true, if_false]
            exact h (.bl false) H3 (Keep.trans k12 k3 (fun _ z => z) fun _ z => z.elim) re3 rfl fun z => by cases z
        | _ => exact h.elim
theorem pE_chain {op op' : CmpOp} {o p : Op} (ho : OpR X (compareOp op) (fun x y => rP G o [x, y])) (ho' : OpR X (compareOp op') (fun x y => rP G p [x, y])) (ha : PE X a (tE G F hot B W ia)) (hb : PE X b (tE G F hot B W ib)) (hc : PE X c (tE G F hot B W ic))
    (hm : lastMarks [op, op'] [b, c] = false := by with_unfolding_all rfl) (hd : disj (peeks ia) (muts ib) = true := by rfl) (hd2 : disj (peeks ib) (muts ic) = true := by rfl) : PE X (.Compare a [op, op'] [b, c] pos) (tE G F hot B W (.chain o p ia ib ic)) :=
  PE.imp (pe_chain ho ho' ha hb hc hm) fun _ _ _ h => tE_chain hd hd2 h
/-- is None, is not None -/
def isNon : PV → Bool
  | .non => true
  | _ => false
theorem Rep.non_iff {Om : Addr → Prop} {H : Hp} {x : PV} {v : V} (r : Rep G Om H x v) : decide (v = .non) = isNon x := by
  cases x with
  | non => rw [show v = _ from r]; rfl
  | bl _ => rw [show v = _ from r]; rfl
  | int _ => rw [show v = _ from r]; rfl
  | str _ => rw [show v = _ from r]; rfl
  | tup _ => obtain ⟨a, vs, rfl, _⟩ := r; rfl
  | lst _ => obtain ⟨a, vs, rfl, _⟩ := r; rfl
  | dct _ _ => obtain ⟨a, vs, rfl, _⟩ := r; rfl
  | fn _ => rw [show v = _ from r]; rfl
  | exn _ _ => exact r.elim
  | scr _ => obtain ⟨a, vs, rfl, _⟩ := r; rfl
theorem tE_isN {i : E} {σ : L2.St} {H : Hp} {Q : VK} (h : tE G F hot B W (.op .isN (.cons i .nil)) σ H Q) : tIsN (tE G F hot B W i) σ H Q := by
  refine tE_mono (fun x H' q => ?_) (tE_op1 h)
  obtain ⟨Om, pvs, pv, om, rp, sem, q⟩ := q
  obtain ⟨y, rfl, r⟩ := rp.one'
  rw [r.non_iff]
  cases y <;> (cases sem; exact q _ _ (Keep.refl H') rfl fun z => by cases z)
theorem tE_notN {i : E} {σ : L2.St} {H : Hp} {Q : VK} (h : tE G F hot B W (.op .notN (.cons i .nil)) σ H Q) : tNotN (tE G F hot B W i) σ H Q := by
  refine tE_mono (fun x H' q => ?_) (tE_op1 h)
  obtain ⟨Om, pvs, pv, om, rp, sem, q⟩ := q
  obtain ⟨y, rfl, r⟩ := rp.one'
  rw [r.non_iff]
  cases y <;> (cases sem; exact q _ _ (Keep.refl H') rfl fun z => by cases z)
theorem pE_isN {j : Nat} {p : Pos} (ha : PE X a (tE G F hot B W ia)) : PE X (.Compare a [.Is] [.Constant .none j p] pos) (tE G F hot B W (.op .isN (.cons ia .nil))) := PE.imp (pe_cmp (pc_isN ha)) fun _ _ _ h => tE_isN h
theorem pE_notN {j : Nat} {p : Pos} (ha : PE X a (tE G F hot B W ia)) : PE X (.Compare a [.IsNot] [.Constant .none j p] pos) (tE G F hot B W (.op .notN (.cons ia .nil))) := PE.imp (pe_cmp (pc_notN ha)) fun _ _ _ h => tE_notN h
/-- a value that is a bool, as a test -/
def boolE : E → Bool
  | .op o _ => match o with
    | .eq => true | .ne => true | .lt => true | .le => true | .gt => true | .ge => true | .in_ => true | .notin => true | .isN => true | .notN => true
    | _ => false
  | .chain _ p _ _ _ => match p with
    | .eq => true | .ne => true | .lt => true | .le => true | .gt => true | .ge => true | .in_ => true | .notin => true
    | _ => false
  | _ => false
theorem cmp_bl {o : Op} {xs : List PV} {v : PV} (hb : boolE (.op o .nil) = true) (h : opSem o xs = some v) : ∃ b, v = .bl b := by
  have cI : ∀ {f : Int → Int → Bool} {g : PV → PV → Bool}, cmpI f g xs = some v → ∃ b, v = .bl b := fun {f g} h => by
    unfold cmpI at h
    split at h
    · exact ⟨_, (Option.some.inj h).symm⟩
    · split at h
      · exact ⟨_, (Option.some.inj h).symm⟩
      · cases h
    · cases h
  cases o <;> simp only [boolE] at hb <;> first | (cases hb; done) | skip
  · simp only [opSem, opEq] at h
    split at h
    · split at h
      · exact ⟨_, (Option.some.inj h).symm⟩
      · cases h
    · cases h
  · simp only [opSem, opNe] at h
    split at h
    · split at h
      · exact ⟨_, (Option.some.inj h).symm⟩
      · cases h
    · cases h
  · simp only [opSem] at h; exact cI h
  · simp only [opSem] at h; exact cI h
  · simp only [opSem] at h; exact cI h
  · simp only [opSem] at h; exact cI h
  · simp only [opSem] at h
    obtain ⟨k, _, e⟩ := Option.map_eq_some_iff.mp h
    exact ⟨_, e.symm⟩
  · simp only [opSem] at h
    obtain ⟨k, _, e⟩ := Option.map_eq_some_iff.mp h
    exact ⟨_, e.symm⟩
  · simp only [opSem] at h
    split at h
    · exact ⟨_, (Option.some.inj h).symm⟩
    · exact ⟨_, (Option.some.inj h).symm⟩
    · cases h
  · simp only [opSem] at h
    split at h
    · exact ⟨_, (Option.some.inj h).symm⟩
    · exact ⟨_, (Option.some.inj h).symm⟩
    · cases h
theorem ev_bl {i : E} {env env' : Env} {v : PV} (hb : boolE i = true) (h : ev F i env = .ok v env') : ∃ b, v = .bl b := by
  have ob : ∀ {α : Type} {r : R α} {f : α → Env → R PV}, r.bind f = .ok v env' → ∃ a e, r = .ok a e ∧ f a e = .ok v env' := fun {α r f} h => by
    cases r with
    | ok a e => exact ⟨a, e, rfl, h⟩
    | exc c pl e => cases h
    | stk => cases h
  have oo : ∀ {o : Option PV} {e : Env}, R.opt o e = .ok v env' → o = some v := fun {o e} h => by
    cases o with
    | none => cases h
    | some w => cases h; rfl
  cases i with
  | op o es =>
    simp only [ev] at h
    obtain ⟨xs, e, e1, h⟩ := ob h
    exact cmp_bl (o := o) (by cases o <;> first | rfl | (exact hb)) (oo h)
  | chain o p x y z =>
    simp only [ev] at h
    obtain ⟨x1, e, e1, h⟩ := ob h
    obtain ⟨y1, e, e1, h⟩ := ob h
    split at h
    · obtain ⟨z1, e, e1, h⟩ := ob h
      exact cmp_bl (o := p) (by cases p <;> first | rfl | (exact hb)) (oo h)
    · cases h; exact ⟨_, rfl⟩
    · cases h
  | _ => cases hb
theorem tTt_bl {i : E} {σ : L2.St} {H : Hp} {Q : Bool → Hp → Prop} (hb : boolE i = true) (h : tTt G F hot B W i σ H Q) : tE G F hot B W i σ H fun x H' => ∃ k, x = .bl k ∧ Q k H' := by
  obtain ⟨Om, env, re, h⟩ := h
  refine ⟨Om, env, re, ?_⟩
  cases e1 : ev F i env with
  | stk => rw [e1] at h; exact h
  | exc c pl env1 => rw [e1] at h; exact h
  | ok x env1 =>
    rw [e1] at h
    obtain ⟨b, eb, h⟩ := h
    obtain ⟨c, rfl⟩ := ev_bl hb e1
    cases eb
    exact fun v H' k re' r f => ⟨_, r, h H' k re'⟩
theorem pT_isN {j : Nat} {p : Pos} (ha : PE X a (tE G F hot B W ia)) : PT X (.Compare a [.Is] [.Constant .none j p] pos) (tTt G F hot B W (.op .isN (.cons ia .nil))) := PT.imp (pt_cmp (pc_isN ha)) fun _ _ _ h => tE_isN (tTt_bl rfl h)
theorem pT_notN {j : Nat} {p : Pos} (ha : PE X a (tE G F hot B W ia)) : PT X (.Compare a [.IsNot] [.Constant .none j p] pos) (tTt G F hot B W (.op .notN (.cons ia .nil))) := PT.imp (pt_cmp (pc_notN ha)) fun _ _ _ h => tE_notN (tTt_bl rfl h)
theorem pT_chain {op op' : CmpOp} {o p : Op} (ho : OpR X (compareOp op) (fun x y => rP G o [x, y])) (ho' : OpR X (compareOp op') (fun x y => rP G p [x, y])) (ha : PE X a (tE G F hot B W ia)) (hb : PE X b (tE G F hot B W ib)) (hc : PE X c (tE G F hot B W ic))
    (hm : lastMarks [op, op'] [b, c] = false := by with_unfolding_all rfl) (hd : disj (peeks ia) (muts ib) = true := by rfl) (hd2 : disj (peeks ib) (muts ic) = true := by rfl) (hbl : boolE (.chain o p ia ib ic) = true := by rfl) :
    PT X (.Compare a [op, op'] [b, c] pos) (tTt G F hot B W (.chain o p ia ib ic)) := PT.imp (pt_chain ho ho' ha hb hc hm) fun _ _ _ h => tE_chain hd hd2 (tTt_bl hbl h)
theorem pT_cmp' {op : CmpOp} {o : Op} (ho : OpR X (compareOp op) (fun x y => rP G o [x, y])) (ha : PE X a (tE G F hot B W ia)) (hb : PE X b (tE G F hot B W ib)) (hm : behindInMarks op b = false) (hd : disj (peeks ia) (muts ib) = true := by rfl) (hbl : boolE (.op o .nil) = true := by rfl) :
    PT X (.Compare a [op] [b] pos) (tTt G F hot B W (.op o (.cons ia (.cons ib .nil)))) := PT.imp (pt_cmpR ho ha hb hm) fun _ _ _ h => tE_op2 hd (tTt_bl (by cases o <;> first | rfl | exact hbl) h)
end
end Sl

/-! Ev9: what a def promises; calls. -/
namespace Sl
open PySem PySem.Spec PyProof.Rows L2
/-- the address that is written -/
def wIo (io : Option Nat) (vs : List V) : Addr → Prop := fun b => ∃ p, io = some p ∧ vs[p]? = some (.ref b)
structure ArgOk (G : Gx) (io : Option Nat) (Om : Addr → Prop) (H : Hp) (pvs : List PV) (vs : List V) : Prop where
  len : vs.length = pvs.length
  rep : ∀ i x v, io ≠ some i → pvs[i]? = some x → vs[i]? = some v → Rep G Om H x v
  root : ∀ p, io = some p → ∃ x a, pvs[p]? = some x ∧ vs[p]? = some (.ref a) ∧ Om a ∧ Root G Om H x a
def OutOk (G : Gx) (io : Option Nat) (Om : Addr → Prop) (H : Hp) (outs : List PV) (vs : List V) : Prop := match io with
  | none => outs = []
  | some p => ∃ a x, vs[p]? = some (.ref a) ∧ outs = [x] ∧ Root G Om H x a
/-- a def's promise: what the evaluator tells -/
def spF (G : Gx) (F : Fn) (g : Nat) (io : Option Nat) : Sp := fun vs H Q E => ∃ Om pvs, OmOk Om H ∧ ArgOk G io Om H pvs vs ∧ match F g pvs with
  | .ret x outs => ∀ v H', Keep (wIo io vs) H H' → OmOk Om H' → OutOk G io Om H' outs vs → Rep G Om H' x v → (G.fr g = true → FreshR H H' x v) → Q v H'
  | .exc c pl outs => ∀ cls d H', Keep (wIo io vs) H H' → OmOk Om H' → OutOk G io Om H' outs vs → ExcRep G Om H' c pl cls d → E cls d H'
  | .stk => False
theorem Reps.all {G : Gx} {Om : Addr → Prop} {H : Hp} {xs : List PV} {vs : List V} (r : Reps G Om H xs vs) {i : Nat} {x : PV} {v : V} (h1 : xs[i]? = some x) (h2 : vs[i]? = some v) : Rep G Om H x v := by
  obtain ⟨u, e, q⟩ := r.get h1
  rw [h2] at e; cases e; exact q
theorem ArgOk.of {G : Gx} {Om : Addr → Prop} {H : Hp} {pvs : List PV} {vs : List V} (r : Reps G Om H pvs vs) : ArgOk G none Om H pvs vs :=
  ⟨r.length, fun i x v _ h1 h2 => r.all h1 h2, fun p e => by cases e⟩
theorem wIo_none {vs : List V} : ∀ b, wIo none vs b → none1 b := fun b ⟨_, e, _⟩ => by cases e
section
variable {G : Gx} {F : Fn} {hot : List Nat} {B : Bs} {W : WX} {X : Cx} {a b c : Expr} {ia ib ic : E} {pos : Pos}
theorem writeBack_nil {outs : List PV} {env e : Env} (h : writeBack [] outs env = some e) : outs = [] ∧ e = env := by
  cases outs with
  | nil => cases h; exact ⟨rfl, rfl⟩
  | cons x r => cases h
/-- what a call with nothing to write comes to -/
theorem call_none {g : Nat} {xs : List PV} {vs : List V} {H H1 : Hp} {σ : L2.St} {Om : Addr → Prop} {ps ms : List Nat} {env1 : Env} {Q : VK} (re1 : RE G hot B Om env1 σ H1) (r1 : Reps G (cutO Om (rt hot Om σ ps)) H1 xs vs) (n : ∀ a, H1 a = none → H a = none) (k1 : Keep (rt hot Om σ ms) H H1)
    (h : match fromFR [] env1 (F g xs) with
      | .ok x env' => ∀ v H', Keep (rt hot Om σ ms) H H' → RE G hot B Om env' σ H' → Rep G (cutO Om (rt hot Om σ ps)) H' x v → (G.fr g = true → NewE G hot B Om env' σ H H' x v) → Q v H'
      | .exc c pl env' => ∀ cls d H', Keep Om H H' → RE G hot B Om env' σ H' → ExcRep G Om H' c pl cls d → W cls d σ H'
      | .stk => False) : spF G F g none vs H1 Q (fun cls d H' => W cls d σ H') := by
  refine ⟨cutO Om (rt hot Om σ ps), xs, fun a z => re1.om a z.1, ArgOk.of r1, ?_⟩
  cases e : F g xs with
  | stk => rw [e] at h; exact h
  | exc c pl outs =>
    rw [e] at h
    simp only [fromFR] at h
    intro cls d H' k om out er
    cases hf : outs.all inFrozen with
    | false => simp [hf] at h
    | true =>
      simp only [hf, if_true] at h
      cases e2 : writeBack [] outs env1 with
      | none => rw [e2] at h; exact h.elim
      | some env2 =>
        obtain ⟨rfl, rfl⟩ := writeBack_nil e2
        rw [e2] at h
        exact h cls d H' (k1.om (k.mono fun b z => (wIo_none b z).elim)) (re1.keep (k.mono wIo_none)) er.own
  | ret x outs =>
    rw [e] at h
    simp only [fromFR] at h
    intro v H' k om out r f
    cases hf : outs.all inFrozen with
    | false => simp [hf] at h
    | true =>
      simp only [hf, if_true] at h
      cases e2 : writeBack [] outs env1 with
      | none => rw [e2] at h; exact h.elim
      | some env2 =>
        obtain ⟨rfl, rfl⟩ := writeBack_nil e2
        rw [e2] at h
        have k' := k.mono wIo_none
        exact h v H' (Keep.trans k1 k' (fun _ z => z) fun _ z => z.elim) (re1.keep k') r fun z => NewE.of re1 k' (f z) n
theorem tE_call {g : Nat} {es : Es} {σ : L2.St} {H : Hp} {Q : VK} (h : tE G F hot B W (.call g [] [] es) σ H Q) : tEs G F hot B W es σ H fun vs H1 => spF G F g none vs H1 Q (fun cls d H' => W cls d σ H') := by
  obtain ⟨Om, env, re, h⟩ := h
  refine ⟨Om, env, re, ?_⟩
  simp only [ev] at h
  cases e1 : evs F es env with
  | stk => rw [e1] at h; exact h
  | exc c pl env1 => rw [e1] at h; exact h
  | ok xs env1 =>
    rw [e1] at h
    simp only [R.bind, tempOk, if_true] at h
    intro vs H1 k1 re1 r1
    exact call_none re1 r1 (fun a z => keep_none re1.om k1 z) k1 h
/-- a def, as a caller knows it -/
structure Kn (P : Program) (w : World) (K : PySem.W.Frag) (mg : Str → Option Value) (base : Heap) (G : Gx) (F : Fn) (k : Nat) (g : Nat) (io : Option Nat) (x : Str) (st : Stmt) (ps : List Str) : Prop where
  ex : ∃ (f : Addr) (fd : FuncData), FnOk P w K mg base (CX P w) k f fd ps (spF G F g io) ∧ mg x = some (.ref f) ∧ PySem.W.keepIn K (.ref f) = true ∧ Binds K fd ps [] ∧ G.fa g = f ∧ Fun K x x st f fd
theorem passAt (sx : Sx X G W) (σ : L2.St) : PassesAt (CX X.prog X.w) X σ (fun cls d H' => W cls d σ H') := fun pins H s e s' I c => sx.tk e s' (XE.of_call I (fun _ _ _ h => h) c)
theorem pE_call {es : List Expr} {r : Es} {k g : Nat} {x : Str} {p : Pos} {sd : Stmt} {ps : List Str} (sx : Sx X G W) (hr : Room k X.A) (N : Kn X.prog X.w X.K X.mg X.base G F k g none x sd ps) (hg : Gl X x) (ha : PA X (a :: es) (tEs G F hot B W r)) (hdb : (x == ("__debug__" : Str)) = false := by decide)
    (he : starEach (a :: es) X.env = (false, eval a X.env) :: starEach es X.env := by rfl) (hpl : (backTo pos (starEach es X.env)).any (·.1) = false := by rfl) : PE X (.Call (.Name x p) (a :: es) [] pos) (tE G F hot B W (.call g [] [] r)) := by
  obtain ⟨f, fd, Fk, hm, hk, hb, _⟩ := N.ex
  exact PE.imp (pe_callS Fk hr hg hm hk hb (E := fun σ cls d H' => W cls d σ H') (fun σ => passAt sx σ) ha hdb he hpl) fun _ _ _ h => tE_call h
theorem pE_call0 {k g : Nat} {x : Str} {p : Pos} {sd : Stmt} {ps : List Str} (sx : Sx X G W) (hr : Room k X.A) (N : Kn X.prog X.w X.K X.mg X.base G F k g none x sd ps) (hg : Gl X x) (hdb : (x == ("__debug__" : Str)) = false := by decide) : PE X (.Call (.Name x p) [] [] pos) (tE G F hot B W (.call g [] [] .nil)) := by
  obtain ⟨f, fd, Fk, hm, hk, hb, _⟩ := N.ex
  refine ⟨fun pins s σ H Q I h => ?_⟩
  refine wpAny_Call_Name_kw (ld_glob I hg hm ?_ hdb)
  have h2 := tEs_nil (tE_call h)
  exact PySem.W.callWith_K0 I.kIn hk (run_fnS (us := []) (E := fun σ cls d H' => W cls d σ H') Fk hr hb (passAt sx σ) I .nil h2)

theorem rt_cold {Om : Addr → Prop} {σ : L2.St} {ps : List Nat} (hd : disj ps hot = true) : ∀ a, ¬ rt hot Om σ ps a := fun a ⟨_, i, h1, h2, _⟩ => disj_ne hd h1 h2
theorem getE_setE {env : Env} {i : Nat} {x : Option PV} : ∀ {j : Nat}, getE (setE env i x) j = if j = i then (if i < env.length then x else none) else getE env j := by
  induction env generalizing i with
  | nil => intro j; cases i <;> cases j <;> simp [setE, getE]
  | cons v r ih =>
    intro j
    cases i with
    | zero => cases j with
      | zero => simp [setE, getE]
      | succ j => simp [setE, getE]
    | succ i => cases j with
      | zero => simp [setE, getE]
      | succ j => simp [setE, getE, ih]
theorem len_setE {env : Env} {i : Nat} {x : Option PV} : (setE env i x).length = env.length := by
  induction env generalizing i with
  | nil => rfl
  | cons v r ih => cases i with
    | zero => rfl
    | succ i => simp [setE, ih]
theorem getE_lt {env : Env} {i : Nat} {x : PV} : getE env i = some x → i < env.length := by
  induction env generalizing i with
  | nil => intro h; cases h
  | cons v r ih => cases i with
    | zero => intro _; simp
    | succ i => intro h; simp; exact ih h
/-- a hot slot's own list or dict has changed -/
theorem RE.put {Om Om' : Addr → Prop} {env : Env} {σ : L2.St} {H H' : Hp} {i : Nat} {x y : PV} {a : Addr} (h : RE G hot B Om env σ H) (hi : i ∈ hot) (hx : getE env i = some x) (ha : σ[i]? = some (some (.ref a))) (k : Keep (fun b => b = a) H H') (sub : ∀ b, Om b → Om' b) (new : ∀ b, Om' b → Om b ∨ H b = none)
    (hB : ∀ b, Om' b → B.Om b ∨ B.H b = none) (om' : OmOk Om' H') (r : Root G Om' H' y a) : RE G hot B Om' (setE env i (some y)) σ H' := by
  obtain ⟨a', e1, o, w, _⟩ := h.root i x hx hi
  rw [ha] at e1; cases e1
  refine h.step (W := fun b => b = a) k (fun b z => by rw [z]; exact o) (fun b z => by rw [z]; exact w) sub new om' hB (fun j hj => ?_) len_setE (fun j z hz hj => ?_) fun j z hj hz => ?_
  · rw [getE_setE, if_neg fun z => hj (by rw [z]; exact hi)]
  · rw [getE_setE] at hz
    by_cases hji : j = i
    · subst hji
      rw [if_pos rfl, if_pos (getE_lt hx)] at hz
      cases hz
      exact ⟨a, ha, sub a o, w, r⟩
    · rw [if_neg hji] at hz
      obtain ⟨b, e1, o1, w1, r1⟩ := h.root j z hz hj
      refine ⟨b, e1, sub b o1, w1, ?_⟩
      have nb : ¬ b = a := fun e => hji (h.inj j i a hj hi (by rw [← e]; exact e1) ha)
      exact Root.keepW k (fun c q => by
        have q : c = a := q
        rw [q]; exact h.om a o) (fun c q => by
        have q : c = a := q
        rw [q]; exact sub a o) nb (Root.own (fun c o' q z => (new c z).elim id fun n => by rw [q] at n; cases n) r1)
  · rw [getE_setE]
    by_cases hji : j = i
    · rw [if_pos hji, if_pos (getE_lt hx)]; exact ⟨y, rfl⟩
    · rw [if_neg hji]; exact ⟨z, hz⟩
theorem writeBack_one {i : Nat} {outs : List PV} {env e : Env} (h : writeBack [some i] outs env = some e) : ∃ y, outs = [y] ∧ e = setE env i (some y) := by
  cases outs with
  | nil => cases h
  | cons x r => cases r with
    | nil => cases h; exact ⟨x, rfl, rfl⟩
    | cons y r => cases h
/-- f(x, ..), f changes x -/
theorem tE_callio {g i : Nat} {r : Es} {σ : L2.St} {H : Hp} {Q : VK} (hi : i ∈ hot) (hd : disj [i] (mutss r) = true) (hc : disj (peekss r) hot = true) (h : tE G F hot B W (.call g [] [some i] (.cons (.var i) r)) σ H Q) :
    tCons (tVar i) (tEs G F hot B W r) σ H fun vs H1 => spF G F g (some 0) vs H1 Q (fun cls d H' => W cls d σ H') := by
  obtain ⟨Om, env, re, h⟩ := h
  simp only [ev, evs] at h
  cases e0 : getE env i with
  | none => rw [e0] at h; exact h.elim
  | some o =>
    rw [e0] at h
    cases ex : isExn o with
    | true => simp [ex, R.bind] at h
    | false =>
    simp only [ex, Bool.false_eq_true, if_false, R.bind] at h
    obtain ⟨a, ea, oa, wa, ra⟩ := re.root i o e0 hi
    refine ⟨.ref a, ea, Om, env, re, ?_⟩
    cases e1 : evs F r env with
    | stk => rw [e1] at h; exact h
    | exc c pl env1 => rw [e1] at h; exact h
    | ok xs env1 =>
      rw [e1] at h
      intro vs H1 k1 re1 r1
      simp only [permute, tempOk, if_true] at h
      have na : ¬ rt hot Om σ (mutss r) a := fun ⟨_, j, h1, h2, h3⟩ => by
        have e := re.inj j i a h2 hi h3 ea
        subst e
        exact disj_ne hd (List.mem_singleton.mpr rfl) h1
      have ra1 : Root G Om H1 o a := Root.keepW k1 (hwR re.om) (fun b z => z.1) na ra
      have r1' : Reps G Om H1 xs vs := r1.ofCut (rt_cold hc)
      obtain ⟨o1, ho1⟩ : ∃ o1, getE env1 i = some o1 := re1.live i _ hi ea
      have kk : ∀ {H' : Hp}, Keep (wIo (some 0) (.ref a :: vs)) H1 H' → Keep (fun b => b = a) H1 H' := fun k => k.mono fun b ⟨p, e, q⟩ => by
        cases e
        have q : some (V.ref a) = some (V.ref b) := q
        cases q; rfl
      have kf : ∀ {H' : Hp}, Keep (fun b => b = a) H1 H' → Keep (rt hot Om σ (muts (.call g [] [some i] (.cons (.var i) r)))) H H' := fun k => by
        refine Keep.trans k1 k (fun b z => rt_mono (fun j q => ?_) z) fun b z => ?_
        · show j ∈ mutsW [some i] ++ (muts (.var i) ++ mutss r)
          exact List.mem_append_right _ (List.mem_append_right _ q)
        · have z : b = a := z
          subst z
          exact ⟨oa, i, List.mem_append_left _ (List.mem_singleton.mpr rfl), hi, ea⟩
      refine ⟨Om, o :: xs, re1.om, ⟨by rw [List.length_cons, List.length_cons, r1'.length], fun j x v hj h1 h2 => ?_, fun p e => ?_⟩, ?_⟩
      · cases j with
        | zero => exact absurd rfl hj
        | succ j => exact r1'.all (by simpa using h1) (by simpa using h2)
      · cases e
        exact ⟨o, a, rfl, rfl, oa, ra1⟩
      cases e : F g (o :: xs) with
      | stk => rw [e] at h; exact h
      | exc c pl outs =>
        rw [e] at h
        simp only [fromFR] at h
        intro cls d H' k om out er
        cases hf : outs.all inFrozen with
        | false => simp [hf] at h
        | true =>
          simp only [hf, if_true] at h
          cases e2 : writeBack [some i] outs env1 with
          | none => rw [e2] at h; exact h.elim
          | some env2 =>
            obtain ⟨y, rfl, rfl⟩ := writeBack_one e2
            rw [e2] at h
            obtain ⟨a', x', ea', eo, rr⟩ := out
            cases eo
            cases (show some (V.ref a) = some (V.ref a') from ea')
            exact h cls d H' (k1.om ((kk k).mono fun b z => by rw [show b = a from z]; exact oa)) (re1.put hi ho1 ea (kk k) (fun _ z => z) (fun _ z => .inl z) re1.new om rr) er
      | ret x outs =>
        rw [e] at h
        simp only [fromFR] at h
        intro v H' k om out rx fx
        cases hf : outs.all inFrozen with
        | false => simp [hf] at h
        | true =>
          simp only [hf, if_true] at h
          cases e2 : writeBack [some i] outs env1 with
          | none => rw [e2] at h; exact h.elim
          | some env2 =>
            obtain ⟨y, rfl, rfl⟩ := writeBack_one e2
            rw [e2] at h
            obtain ⟨a', x', ea', eo, rr⟩ := out
            cases eo
            cases (show some (V.ref a) = some (V.ref a') from ea')
            refine h v H' (kf (kk k)) (re1.put hi ho1 ea (kk k) (fun _ z => z) (fun _ z => .inl z) re1.new om rr) rx.toCut fun z => ?_
            have fz : inFrozen y = true := by
              have := List.all_eq_true.mp hf y (List.mem_singleton.mpr rfl)
              exact this
            have ad : ∀ p, H1 p = none → (∃ o, H' p = some o ∧ Own1 o) → H p = none ∧ RE G hot B (fun b => Om b ∨ b = p) (setE env1 i (some y)) σ H' := fun p n q => by
              have nb : B.H p = none := by
                cases q' : B.H p with
                | none => rfl
                | some o =>
                  by_cases w : B.W p
                  · obtain ⟨_, e'⟩ := re1.wtr p w
                    rw [n] at e'; cases e'
                  · rw [re1.kept p o q' w] at n; cases n
              refine ⟨keep_none re1.om k1 n, re1.put hi ho1 ea (kk k) (fun _ z => .inl z) (fun b z => z.elim .inl fun e => .inr (by rw [e]; exact n)) (fun b z => z.elim (re1.new b) fun e => .inr (by rw [e]; exact nb)) (fun b z => z.elim (om b) fun e => by rw [e]; exact q) (rr.free fz)⟩
            have fx := fx z
            cases x with
            | lst us =>
              obtain ⟨p, ws, e1, q1, q2⟩ := fx
              obtain ⟨h1, h2⟩ := ad p q1 ⟨_, q2, .inl ⟨_, rfl⟩⟩
              exact ⟨p, e1, h1, h2⟩
            | dct us us' =>
              obtain ⟨p, ws, e1, q1, q2⟩ := fx
              obtain ⟨h1, h2⟩ := ad p q1 ⟨_, q2, .inr ⟨_, rfl⟩⟩
              exact ⟨p, e1, h1, h2⟩
            | _ => trivial
theorem pE_callio {es : List Expr} {r : Es} {k g i : Nat} {x y : Str} {p py : Pos} {sd : Stmt} {ps : List Str} (sx : Sx X G W) (hr : Room k X.A) (N : Kn X.prog X.w X.K X.mg X.base G F k g (some 0) x sd ps) (hg : Gl X x) (ha : PA X es (tEs G F hot B W r)) (hi : i ∈ hot) (hd : disj [i] (mutss r) = true := by rfl) (hc : disj (peekss r) hot = true := by rfl) (hN : X.N[i]? = some y := by rfl)
    (hv : Vis X.env.scope y := by first | exact Or.inl rfl | exact Or.inr (Or.inl rfl) | exact Or.inr (Or.inr rfl)) (hy : (y == ("__debug__" : Str)) = false := by decide) (hcd : (y == ("__classdict__" : Str)) = false := by decide) (hdb : (x == ("__debug__" : Str)) = false := by decide)
    (he : starEach (.Name y py :: es) X.env = (false, eval (.Name y py) X.env) :: starEach es X.env := by rfl) (hpl : (backTo pos (starEach es X.env)).any (·.1) = false := by rfl) :
    PE X (.Call (.Name x p) (.Name y py :: es) [] pos) (tE G F hot B W (.call g [] [some i] (.cons (.var i) r))) := by
  obtain ⟨f, fd, Fk, hm, hk, hb, _⟩ := N.ex
  exact PE.imp (pe_callS Fk hr hg hm hk hb (E := fun σ cls d H' => W cls d σ H') (fun σ => passAt sx σ) (pa_cons (pe_var hN hv hy hcd) ha he) hdb he hpl) fun _ _ _ h => tE_callio hi hd hc h

/-- fewer owners -/
theorem RE.shrink {Om Om' : Addr → Prop} {env : Env} {σ : L2.St} {H : Hp} (h : RE G hot B Om' env σ H) (sub : ∀ b, Om b → Om' b) (om : OmOk Om H) (hr : ∀ i x a, i ∈ hot → getE env i = some x → σ[i]? = some (some (.ref a)) → Om a) (hb : ∀ a, B.Om a → Om a) : RE G hot B Om env σ H := by
  refine ⟨h.len, om, fun i x e n q => ?_, fun i x e n => ?_, h.live, h.inj, fun i c pl e => ?_, hb, h.kept, fun a z => h.new a (sub a z), h.wtr, h.bom, h.wio, h.io⟩
  · obtain ⟨v, e1, r⟩ := h.cold i x e n q
    exact ⟨v, e1, Rep.own (fun a _ _ z => sub a z) x v r⟩
  · obtain ⟨a, e1, o, w, r⟩ := h.root i x e n
    exact ⟨a, e1, hr i x a n e e1, w, Root.own (fun a _ _ z => sub a z) r⟩
  · obtain ⟨a, cls, d, e1, e2, r⟩ := h.exn i c pl e
    exact ⟨a, cls, d, e1, e2, r.own⟩
theorem writeBack_tmp {outs : List PV} {env e : Env} (h : writeBack [none] outs env = some e) : ∃ y, outs = [y] ∧ e = env := by
  cases outs with
  | nil => cases h
  | cons x r => cases r with
    | nil => cases h; exact ⟨x, rfl, rfl⟩
    | cons y r => cases h
/-- f(e, ..), f changes what e has made -/
theorem tE_callt {g : Nat} {i : E} {r : Es} {σ : L2.St} {H : Hp} {Q : VK} (hf : freshE G.fr i = true) (hp : disj (peeks i) (mutss r) = true) (hc : disj (peekss r) hot = true) (h : tE G F hot B W (.call g [] [none] (.cons i r)) σ H Q) :
    tCons (tE G F hot B W i) (tEs G F hot B W r) σ H fun vs H1 => spF G F g (some 0) vs H1 Q (fun cls d H' => W cls d σ H') := by
  obtain ⟨Om, env, re, h⟩ := h
  refine ⟨Om, env, re, ?_⟩
  simp only [ev, evs] at h
  cases e0 : ev F i env with
  | stk => rw [e0] at h; exact h
  | exc c pl env1 => rw [e0] at h; exact h
  | ok o env0 =>
    rw [e0] at h
    simp only [R.bind] at h
    intro v0 H0 k0 re0 r0 f0
    have f0 := f0 hf
    cases e1 : evs F r env0 with
    | stk =>
      rw [e1] at h
      exact h.elim
    | exc c pl env1 =>
      rw [e1] at h
      refine ⟨Om, env0, re0, ?_⟩
      rw [e1]
      exact fun cls d H' k' re' er => h cls d H' (k0.om k') re' er
    | ok xs env1 =>
      rw [e1] at h
      simp only [permute, tempOk] at h
      cases hfo : inFrozen o with
      | false => simp [hfo] at h
      | true =>
      simp only [hfo, if_true] at h
      -- the new list, its owner
      obtain ⟨a, ev0, nH, re0', ra⟩ : ∃ a, v0 = .ref a ∧ H a = none ∧ RE G hot B (fun b => Om b ∨ b = a) env0 σ H0 ∧ Root G (fun b => Om b ∨ b = a) H0 o a := by
        cases o with
        | lst us =>
          obtain ⟨a, e, n, q⟩ := f0
          obtain ⟨a', ws, e', _, q1, q2⟩ := r0
          rw [e] at e'; cases e'
          exact ⟨a, e, n, q, ws, q1, Reps.free us ws hfo q2⟩
        | dct us us' =>
          obtain ⟨a, e, n, q⟩ := f0
          obtain ⟨a', es, e', _, q1, z, y, nd, q2, q3⟩ := r0
          rw [e] at e'; cases e'
          obtain ⟨h1, h2⟩ := Bool.and_eq_true_iff.mp hfo
          exact ⟨a, e, n, q, es, q1, z, y, nd, RepK.free us es h1 q2, RepE.free us' es h2 q3⟩
        | _ => cases hfo
      subst ev0
      have nOm : ¬ Om a := fun z => by
        obtain ⟨_, e', _⟩ := re.om a z
        rw [nH] at e'; cases e'
      refine ⟨fun b => Om b ∨ b = a, env0, re0', ?_⟩
      rw [e1]
      intro vs H1 k1 re1 r1
      have r1' : Reps G (fun b => Om b ∨ b = a) H1 xs vs := r1.ofCut (rt_cold hc)
      have slot : ∀ (j : Nat) (b : Addr), j ∈ hot → σ[j]? = some (some (.ref b)) → Om b := fun j b h1 h2 => by
        obtain ⟨x, e⟩ := re0.live j _ h1 h2
        obtain ⟨b', e2, ob, _⟩ := re0.root j x e h1
        rw [h2] at e2; cases e2; exact ob
      have na : ¬ rt hot (fun b => Om b ∨ b = a) σ (mutss r) a := fun ⟨_, j, _, h2, h3⟩ => nOm (slot j a h2 h3)
      have ra1 : Root G (fun b => Om b ∨ b = a) H1 o a := Root.keepW k1 (hwR re0'.om) (fun b z => z.1) na ra
      have nbB : B.H a = none := by
        rcases re0'.new a (.inr rfl) with z | z
        · exact absurd (re.base a z) nOm
        · exact z
      have rtO : ∀ {ms : List Nat} (b : Addr), rt hot (fun b => Om b ∨ b = a) σ ms b → rt hot Om σ ms b := fun b ⟨_, j, h1, h2, h3⟩ => ⟨slot j b h2 h3, j, h1, h2, h3⟩
      have kk : ∀ {H' : Hp}, Keep (wIo (some 0) (.ref a :: vs)) H1 H' → Keep (fun b => b = a) H1 H' := fun k => k.mono fun b ⟨p, e, q⟩ => by
        cases e
        have q : some (V.ref a) = some (V.ref b) := q
        cases q; rfl
      have kf : ∀ {H' : Hp}, Keep (fun b => b = a) H1 H' → Keep (rt hot Om σ (muts (.call g [] [none] (.cons i r)))) H H' := fun k b ob q n => by
        have nb : ¬ b = a := fun e => by rw [e, nH] at q; cases q
        have q1 := k0 b ob q fun z => n (rt_mono (fun j q => List.mem_append_right _ (List.mem_append_left _ q)) z)
        have q2 := k1 b ob q1 fun z => n (rt_mono (fun j q => List.mem_append_right _ (List.mem_append_right _ q)) (rtO b z))
        exact k b ob q2 nb
      -- behind the call
      have fin : ∀ {H' : Hp}, Keep (fun b => b = a) H1 H' → OmOk (fun b => Om b ∨ b = a) H' → RE G hot B Om env1 σ H' := fun {H'} k om => by
        have s1 : RE G hot B (fun b => Om b ∨ b = a) env1 σ H' := by
          refine re1.step (W := fun b => b = a) k (fun b z => .inr z) (fun b z => .inr (by rw [z]; exact nbB)) (fun _ z => z) (fun _ z => .inl z) om re1.new (fun _ _ => rfl) rfl (fun j x hx hj => ?_) fun j x hj hx => ⟨x, hx⟩
          obtain ⟨b, e2, o2, w2, r2⟩ := re1.root j x hx hj
          have nb : ¬ b = a := fun e => nOm (by rw [← e]; exact slot j b hj e2)
          exact ⟨b, e2, o2, w2, Root.keepW k (fun c q => by
            have q : c = a := q
            rw [q]; exact re1.om a (.inr rfl)) (fun c q => .inr q) nb r2⟩
        exact s1.shrink (fun _ z => .inl z) (fun b z => om b (.inl z)) (fun j x b h1 _ h3 => slot j b h1 h3) re.base
      refine ⟨fun b => Om b ∨ b = a, o :: xs, re1.om, ⟨by rw [List.length_cons, List.length_cons, r1'.length], fun j x v hj h1 h2 => ?_, fun p e => ?_⟩, ?_⟩
      · cases j with
        | zero => exact absurd rfl hj
        | succ j => exact r1'.all (by simpa using h1) (by simpa using h2)
      · cases e
        exact ⟨o, a, rfl, rfl, .inr rfl, ra1⟩
      cases e : F g (o :: xs) with
      | stk => rw [e] at h; exact h
      | exc c pl outs =>
        rw [e] at h
        simp only [fromFR] at h
        intro cls d H' k om out er
        cases hf : outs.all inFrozen with
        | false => simp [hf] at h
        | true =>
          simp only [hf, if_true] at h
          cases e2 : writeBack [none] outs env1 with
          | none => rw [e2] at h; exact h.elim
          | some env2 =>
            obtain ⟨y, rfl, rfl⟩ := writeBack_tmp e2
            rw [e2] at h
            exact h cls d H' ((kf (kk k)).mono fun b z => z.1) (fin (kk k) om) er.own
      | ret x outs =>
        rw [e] at h
        simp only [fromFR] at h
        intro v H' k om out rx fx
        cases hf : outs.all inFrozen with
        | false => simp [hf] at h
        | true =>
          simp only [hf, if_true] at h
          cases e2 : writeBack [none] outs env1 with
          | none => rw [e2] at h; exact h.elim
          | some env2 =>
            obtain ⟨y, rfl, rfl⟩ := writeBack_tmp e2
            rw [e2] at h
            exact h v H' (kf (kk k)) (fin (kk k) om) (Rep.toCut (Rep.own (fun _ _ _ z => .inl z) x v rx)) fun z => by cases z
theorem pE_callt {es : List Expr} {r : Es} {k g : Nat} {x : Str} {p : Pos} {sd : Stmt} {ps : List Str} (sx : Sx X G W) (hr : Room k X.A) (N : Kn X.prog X.w X.K X.mg X.base G F k g (some 0) x sd ps) (hg : Gl X x) (ha : PE X a (tE G F hot B W ia)) (has : PA X es (tEs G F hot B W r)) (hf : freshE G.fr ia = true) (hp : disj (peeks ia) (mutss r) = true := by rfl) (hc : disj (peekss r) hot = true := by rfl)
    (hdb : (x == ("__debug__" : Str)) = false := by decide) (he : starEach (a :: es) X.env = (false, eval a X.env) :: starEach es X.env := by rfl) (hpl : (backTo pos (starEach es X.env)).any (·.1) = false := by rfl) :
    PE X (.Call (.Name x p) (a :: es) [] pos) (tE G F hot B W (.call g [] [none] (.cons ia r))) := by
  obtain ⟨f, fd, Fk, hm, hk, hb, _⟩ := N.ex
  exact PE.imp (pe_callS Fk hr hg hm hk hb (E := fun σ cls d H' => W cls d σ H') (fun σ => passAt sx σ) (pa_cons ha has he) hdb he hpl) fun _ _ _ h => tE_callt hf hp hc h
end
end Sl

/-! Ev10: statements. -/
namespace Sl
open PySem PySem.Spec PyProof.Rows L2
/-- what stands behind statements: what was nobody's is kept, new owners are of new things -/
structure Ext (Om : Addr → Prop) (H : Hp) (Om' : Addr → Prop) (H' : Hp) : Prop where
  keep : Keep Om H H'
  new : ∀ a, Om' a → Om a ∨ H a = none
theorem Ext.refl {Om : Addr → Prop} {H : Hp} : Ext Om H Om H := ⟨Keep.refl H, fun _ z => .inl z⟩
theorem Ext.trans {Om Om1 Om2 : Addr → Prop} {H H1 H2 : Hp} (a : Ext Om H Om1 H1) (b : Ext Om1 H1 Om2 H2) : Ext Om H Om2 H2 := by
  refine ⟨fun p o e n => b.keep p o (a.keep p o e n) fun z => ?_, fun p z => ?_⟩
  · rcases a.new p z with w | w
    · exact n w
    · rw [w] at e; cases e
  · rcases b.new p z with w | w
    · exact a.new p w
    · by_cases q : Om p
      · exact .inl q
      · refine .inr ?_
        cases e : H p with
        | none => rfl
        | some o => rw [a.keep p o e q] at w; cases w
section
variable (G : Gx) (F : Fn) (wn : Nat) (hot : List Nat) (B : Bs) (W : WX)
def Pst (D : Ends) (Om : Addr → Prop) (H : Hp) : R Fl → Prop
  | .ok .next env' => ∀ Om' σ' H', RE G hot B Om' env' σ' H' → Ext Om H Om' H' → D.nx σ' H'
  | .ok .cont env' => ∀ Om' σ' H', RE G hot B Om' env' σ' H' → Ext Om H Om' H' → D.ct σ' H'
  | .ok (.ret x) env' => ∀ Om' v σ' H', RE G hot B Om' env' σ' H' → Ext Om H Om' H' → Rep G B.Om H' x v → (B.fr = true → FreshR B.H H' x v) → D.rt v H'
  | .exc c pl env' => ∀ Om' cls d σ' H', RE G hot B Om' env' σ' H' → Ext Om H Om' H' → ExcRep G Om' H' c pl cls d → W cls d σ' H'
  | .stk => False
def tS (s : S) : TS := fun D σ H => ∃ Om env, RE G hot B Om env σ H ∧ Pst G hot B W D Om H (ex F wn s env)
def tSs (ss : Ss) : TS := fun D σ H => ∃ Om env, RE G hot B Om env σ H ∧ Pst G hot B W D Om H (exs F wn ss env)
end
theorem PS.imp {X : Cx} {st : Stmt} {t t' : TS} (h : PS X st t) (i : ∀ D σ H, t' D σ H → t D σ H) : PS X st t' := ⟨fun pins s σ H D I q => h.run pins s σ H D I (i D σ H q)⟩
theorem PSs.imp {X : Cx} {st : List Stmt} {t t' : TS} (h : PSs X st t) (i : ∀ D σ H, t' D σ H → t D σ H) : PSs X st t' := ⟨fun pins s σ H D I q => h.run pins s σ H D I (i D σ H q)⟩
section
variable {G : Gx} {F : Fn} {wn : Nat} {hot : List Nat} {B : Bs} {W : WX} {X : Cx} {a b c : Expr} {ia ib ic : E} {pos : Pos} {st : Stmt} {rest : List Stmt}
/-- the same ends, seen from further back -/
theorem Pst.back {D : Ends} {Om Om1 : Addr → Prop} {H H1 : Hp} {r : R Fl} (e : Ext Om H Om1 H1) (h : Pst G hot B W D Om H r) : Pst G hot B W D Om1 H1 r := by
  cases r with
  | stk => exact h
  | exc c pl env => exact fun Om' cls d σ' H' re x er => h Om' cls d σ' H' re (e.trans x) er
  | ok f env => cases f with
    | next => exact fun Om' σ' H' re x => h Om' σ' H' re (e.trans x)
    | cont => exact fun Om' σ' H' re x => h Om' σ' H' re (e.trans x)
    | ret y => exact fun Om' v σ' H' re x => h Om' v σ' H' re (e.trans x)
theorem pSs_nil : PSs X [] (tSs G F wn hot B W .nil) := PSs.imp pss_nil fun D σ H ⟨Om, env, re, h⟩ => h Om σ H re Ext.refl
theorem tSs_cons {s : S} {r : Ss} {D : Ends} {σ : L2.St} {H : Hp} (h : tSs G F wn hot B W (.cons s r) D σ H) : tS G F wn hot B W s { D with nx := tSs G F wn hot B W r D } σ H := by
  obtain ⟨Om, env, re, h⟩ := h
  refine ⟨Om, env, re, ?_⟩
  simp only [exs] at h
  cases e1 : ex F wn s env with
  | stk => rw [e1] at h; exact h
  | exc c pl env1 => rw [e1] at h; exact h
  | ok f env1 =>
    rw [e1] at h
    cases f with
    | next => exact fun Om' σ' H' re' x => ⟨Om', env1, re', Pst.back x h⟩
    | cont => exact h
    | ret y => exact h
theorem pSs_cons {s : S} {r : Ss} (h1 : PS X st (tS G F wn hot B W s)) (h2 : PSs X rest (tSs G F wn hot B W r)) : PSs X (st :: rest) (tSs G F wn hot B W (.cons s r)) :=
  PSs.imp (pss_cons h1 h2) fun D σ H h => tSs_cons h
theorem keepExt {Om : Addr → Prop} {σ : L2.St} {H H' : Hp} {ms : List Nat} (k : Keep (rt hot Om σ ms) H H') : Ext Om H Om H' := ⟨k.mono fun a z => z.1, fun _ z => .inl z⟩
/-- an expression ahead of the rest of a statement -/
theorem tS_bind {e : E} {f : PV → Env → R Fl} {D : Ends} {Om : Addr → Prop} {σ : L2.St} {H : Hp} {env : Env} {Q : VK} (re : RE G hot B Om env σ H) (h : Pst G hot B W D Om H ((ev F e env).bind f))
    (q : ∀ x env' v H', RE G hot B Om env' σ H' → Keep (rt hot Om σ (muts e)) H H' → Rep G (cutO Om (rt hot Om σ (peeks e))) H' x v → (freshE G.fr e = true → NewE G hot B Om env' σ H H' x v) → Pst G hot B W D Om H' (f x env') → Q v H') : tE G F hot B W e σ H Q := by
  refine ⟨Om, env, re, ?_⟩
  cases e1 : ev F e env with
  | stk => rw [e1] at h; exact h
  | exc c pl env1 =>
    rw [e1] at h
    exact fun cls d H' k' re' er => h Om cls d σ H' re' ⟨k', fun _ z => .inl z⟩ er
  | ok x env1 =>
    rw [e1] at h
    exact fun v H' k re' r fr => q x env1 v H' re' k r fr (Pst.back (keepExt k) h)

/-- a slot that nobody owns is set -/
theorem RE.set {Om : Addr → Prop} {env : Env} {σ : L2.St} {H : Hp} {i : Nat} {x : PV} {v : V} (h : RE G hot B Om env σ H) (hi : i ∉ hot) (r : Rep G Om H x v) : RE G hot B Om (setE env i (some x)) (σ.set i (some v)) H := by
  have ne : ∀ {j : Nat}, j ∈ hot → j ≠ i := fun hj e => hi (by rw [← e]; exact hj)
  have gs : ∀ {j : Nat}, j ≠ i → (σ.set i (some v))[j]? = σ[j]? := fun n => List.getElem?_set_ne (Ne.symm n)
  have ge : ∀ {j : Nat}, j ≠ i → getE (setE env i (some x)) j = getE env j := fun n => by rw [getE_setE, if_neg n]
  have gi : ∀ {y : PV}, getE (setE env i (some x)) i = some y → y = x ∧ (σ.set i (some v))[i]? = some (some v) := fun {y} e => by
    rw [getE_setE, if_pos rfl] at e
    split at e
    · rename_i hl
      cases e
      exact ⟨rfl, List.getElem?_set_self (by rw [h.len]; exact hl)⟩
    · cases e
  refine ⟨by rw [List.length_set, len_setE]; exact h.len, h.om, fun j y e n q => ?_, fun j y e hj => ?_, fun j y hj e => ?_, fun j l a h1 h2 e1 e2 => ?_, fun j c pl e => ?_, h.base, h.kept, h.new, h.wtr, h.bom, h.wio, fun p hp => ?_⟩
  · by_cases hji : j = i
    · subst hji
      obtain ⟨rfl, e2⟩ := gi e
      exact ⟨v, e2, r⟩
    · rw [ge hji] at e
      rw [gs hji]
      exact h.cold j y e n q
  · rw [ge (ne hj)] at e
    rw [gs (ne hj)]
    exact h.root j y e hj
  · rw [gs (ne hj)] at e
    rw [ge (ne hj)]
    exact h.live j y hj e
  · rw [gs (ne h1)] at e1
    rw [gs (ne h2)] at e2
    exact h.inj j l a h1 h2 e1 e2
  · by_cases hji : j = i
    · subst hji
      obtain ⟨e1, _⟩ := gi e
      subst e1
      exact r.elim
    · rw [ge hji] at e
      rw [gs hji]
      exact h.exn j c pl e
  · obtain ⟨h1, h2⟩ := h.io p hp
    exact ⟨h1, by rw [gs (ne h1)]; exact h2⟩
/-- a slot gets an own list or dict -/
theorem RE.setNew {Om : Addr → Prop} {env : Env} {σ : L2.St} {H0 H : Hp} {i : Nat} {x : PV} {v : V} {R : Addr → Prop} (h0 : OmOk Om H0) (hi : i ∈ hot) (hio : ∀ q ∈ B.io, q.1 ≠ i) (h : RE G hot B Om env σ H) (hn : NewE G hot B Om env σ H0 H x v) (hf : inFrozen x = true) (r : Rep G (cutO Om R) H x v) :
    ∃ Om', RE G hot B Om' (setE env i (some x)) (σ.set i (some v)) H ∧ ∀ a, Om' a → Om a ∨ H0 a = none := by
  obtain ⟨a, ev, nH, re, ra⟩ : ∃ a, v = .ref a ∧ H0 a = none ∧ RE G hot B (fun b => Om b ∨ b = a) env σ H ∧ Root G (fun b => Om b ∨ b = a) H x a := by
    cases x with
    | lst us =>
      obtain ⟨a, e, n, q⟩ := hn
      obtain ⟨a', ws, e', _, q1, q2⟩ := r
      rw [e] at e'; cases e'
      exact ⟨a, e, n, q, ws, q1, Reps.free us ws hf q2⟩
    | dct us us' =>
      obtain ⟨a, e, n, q⟩ := hn
      obtain ⟨a', es, e', _, q1, z, y, nd, q2, q3⟩ := r
      rw [e] at e'; cases e'
      obtain ⟨h1, h2⟩ := Bool.and_eq_true_iff.mp hf
      exact ⟨a, e, n, q, es, q1, z, y, nd, RepK.free us es h1 q2, RepE.free us' es h2 q3⟩
    | _ => cases hf
  subst ev
  have nOm : ¬ Om a := fun z => by
    obtain ⟨_, e', _⟩ := h0 a z
    rw [nH] at e'; cases e'
  have nB : B.H a = none := by
    rcases re.new a (.inr rfl) with z | z
    · exact absurd (h.base a z) nOm
    · exact z
  have slot : ∀ {j : Nat} {b : Addr}, j ∈ hot → σ[j]? = some (some (.ref b)) → b ≠ a := fun {j b} h1 h2 e => by
    obtain ⟨y, e1⟩ := h.live j _ h1 h2
    obtain ⟨b', e2, ob, _⟩ := h.root j y e1 h1
    rw [h2] at e2; cases e2
    exact nOm (by rw [← e]; exact ob)
  have gs : ∀ {j : Nat}, j ≠ i → (σ.set i (some (.ref a)))[j]? = σ[j]? := fun n => List.getElem?_set_ne (Ne.symm n)
  have ge : ∀ {j : Nat}, j ≠ i → getE (setE env i (some x)) j = getE env j := fun n => by rw [getE_setE, if_neg n]
  have gi : ∀ {y : PV}, getE (setE env i (some x)) i = some y → y = x ∧ (σ.set i (some (.ref a)))[i]? = some (some (.ref a)) := fun {y} e => by
    rw [getE_setE, if_pos rfl] at e
    split at e
    · rename_i hl
      cases e
      exact ⟨rfl, List.getElem?_set_self (by rw [h.len]; exact hl)⟩
    · cases e
  refine ⟨fun b => Om b ∨ b = a, ⟨by rw [List.length_set, len_setE]; exact h.len, re.om, fun j y e n q => ?_, fun j y e hj => ?_, fun j y hj e => ?_, fun j l b h1 h2 e1 e2 => ?_, fun j c pl e => ?_, re.base, re.kept, re.new, re.wtr, re.bom, re.wio, fun p hp => ?_⟩, fun b z => z.elim .inl fun e => .inr (by rw [e]; exact nH)⟩
  · have hji : j ≠ i := fun e => n (by rw [e]; exact hi)
    rw [ge hji] at e
    rw [gs hji]
    exact re.cold j y e n q
  · by_cases hji : j = i
    · subst hji
      obtain ⟨rfl, e2⟩ := gi e
      exact ⟨a, e2, .inr rfl, .inr nB, ra⟩
    · rw [ge hji] at e
      rw [gs hji]
      exact re.root j y e hj
  · by_cases hji : j = i
    · subst hji
      rw [getE_setE, if_pos rfl]
      have hl : j < env.length := by
        rw [← h.len]
        rcases Nat.lt_or_ge j σ.length with q | q
        · exact q
        · rw [List.getElem?_eq_none (by rw [List.length_set]; exact q)] at e; cases e
      exact ⟨x, by rw [if_pos hl]⟩
    · rw [gs hji] at e
      rw [ge hji]
      exact h.live j y hj e
  · by_cases hji : j = i
    · by_cases hli : l = i
      · rw [hji, hli]
      · subst hji
        rw [gs hli] at e2
        have e3 : b = a := by
          have hl : j < σ.length := by
            rcases Nat.lt_or_ge j σ.length with q | q
            · exact q
            · rw [List.getElem?_eq_none (by rw [List.length_set]; exact q)] at e1; cases e1
          rw [List.getElem?_set_self hl] at e1
          cases e1; rfl
        exact absurd e3 (slot h2 e2)
    · by_cases hli : l = i
      · subst hli
        rw [gs hji] at e1
        have e3 : b = a := by
          have hl : l < σ.length := by
            rcases Nat.lt_or_ge l σ.length with q | q
            · exact q
            · rw [List.getElem?_eq_none (by rw [List.length_set]; exact q)] at e2; cases e2
          rw [List.getElem?_set_self hl] at e2
          cases e2; rfl
        exact absurd e3 (slot h1 e1)
      · rw [gs hji] at e1
        rw [gs hli] at e2
        exact h.inj j l b h1 h2 e1 e2
  · by_cases hji : j = i
    · subst hji
      obtain ⟨e1, _⟩ := gi e
      subst e1
      cases hf
    · rw [ge hji] at e
      rw [gs hji]
      exact re.exn j c pl e
  · obtain ⟨h1, h2⟩ := h.io p hp
    exact ⟨h1, by rw [gs (hio p hp)]; exact h2⟩
theorem Rep.of_cold {Om : Addr → Prop} {σ : L2.St} {H : Hp} {ps : List Nat} {x : PV} {v : V} (hd : disj ps hot = true) (r : Rep G (cutO Om (rt hot Om σ ps)) H x v) : Rep G Om H x v := r.ofCut (rt_cold hd)
/-- what is wished of the plain targets: they are no slots that are handed in -/
def Away (B : Bs) (i : Nat) : Prop := ∀ q ∈ B.io, q.1 ≠ i
/-- e; -/
theorem tS_expr {e : E} {D : Ends} {σ : L2.St} {H : Hp} (h : tS G F wn hot B W (.expr e) D σ H) : tDrop (tE G F hot B W e) D σ H := by
  obtain ⟨Om, env, re, h⟩ := h
  refine tS_bind re h fun x env' v H' re' k r fr h => ?_
  exact h Om σ H' re' Ext.refl
theorem pS_expr (ha : PE X a (tE G F hot B W ia)) (hs : swapsWith a none pos.line X.env = pure false := by rfl) : PS X (.Expr a pos) (tS G F wn hot B W (.expr ia)) := PS.imp (ps_expr ha hs) fun _ _ _ h => tS_expr h
/-- x = e -/
theorem tS_set {i : Nat} {e : E} {D : Ends} {σ : L2.St} {H : Hp} (hi : i ∉ hot) (hp : disj (peeks e) hot = true) (h : tS G F wn hot B W (.asg (.name i) e) D σ H) : tAsg (tE G F hot B W e) (gName i) D σ H := by
  obtain ⟨Om, env, re, h⟩ := h
  simp only [ex] at h
  refine tS_bind re h fun x env' v H' re' k r fr h => ?_
  simp only [asgT, R.bind] at h
  exact h Om _ H' (re'.set hi (r.of_cold hp)) Ext.refl
theorem pS_set {x : Str} {pos' : Pos} (i : Nat) (nd : X.N.Nodup) (hN : X.N[i]? = some x) (hx : Loc X.env.scope x) (ha : PE X a (tE G F hot B W ia)) (hi : i ∉ hot := by decide) (hp : disj (peeks ia) hot = true := by rfl) (hs : swapsWith a (some (.Name x pos')) pos.line X.env = pure false := by rfl)
    (hf : X.fn x = true ∨ X.env.scope.names.lookup x = some .local := by first | exact .inl rfl | exact .inr rfl) : PS X (.Assign [.Name x pos'] a pos) (tS G F wn hot B W (.asg (.name i) ia)) :=
  PS.imp (ps_set nd hN hx ha hs hf) fun _ _ _ h => tS_set hi hp h
theorem Pst.new {D : Ends} {Om Om' : Addr → Prop} {H H' : Hp} {env : Env} {σ : L2.St} (h : Pst G hot B W D Om H (.ok .next env)) (k : Keep Om H H') (n : ∀ a, Om' a → Om a ∨ H a = none) (re : RE G hot B Om' env σ H') : D.nx σ H' := h Om' σ H' re ⟨k, n⟩
/-- x = e, e new -/
theorem tS_new {i : Nat} {e : E} {D : Ends} {σ : L2.St} {H : Hp} (hi : i ∈ hot) (hio : Away B i) (hfr : freshE G.fr e = true) (h : tS G F wn hot B W (.asg (.new i) e) D σ H) : tAsg (tE G F hot B W e) (gName i) D σ H := by
  obtain ⟨Om, env, re, h⟩ := h
  simp only [ex] at h
  refine ⟨Om, env, re, ?_⟩
  cases e1 : ev F e env with
  | stk => rw [e1] at h; exact h
  | exc c pl env1 =>
    rw [e1] at h
    exact fun cls d H' k' re' er => h Om cls d σ H' re' ⟨k', fun _ z => .inl z⟩ er
  | ok x env1 =>
    rw [e1] at h
    intro v H' k re' r fr
    simp only [R.bind, asgT] at h
    cases hz : inFrozen x with
    | false => simp only [hz, Bool.false_eq_true, if_false] at h; exact h.elim
    | true =>
      simp only [hz, if_true] at h
      obtain ⟨Om', re2, n⟩ := RE.setNew re.om hi hio re' (fr hfr) hz r
      exact h Om' _ H' re2 ⟨k.mono fun a z => z.1, n⟩
theorem pS_new {x : Str} {pos' : Pos} (i : Nat) (nd : X.N.Nodup) (hio : Away B i) (hN : X.N[i]? = some x) (hx : Loc X.env.scope x) (ha : PE X a (tE G F hot B W ia)) (hfr : freshE G.fr ia = true) (hi : i ∈ hot := by decide) (hs : swapsWith a (some (.Name x pos')) pos.line X.env = pure false := by rfl)
    (hf : X.fn x = true ∨ X.env.scope.names.lookup x = some .local := by first | exact .inl rfl | exact .inr rfl) : PS X (.Assign [.Name x pos'] a pos) (tS G F wn hot B W (.asg (.new i) ia)) :=
  PS.imp (ps_set nd hN hx ha hs hf) fun _ _ _ h => tS_new hi hio hfr h
/-- return e -/
theorem keepB {Om : Addr → Prop} {env : Env} {σ : L2.St} {H : Hp} (re : RE G hot B Om env σ H) {a : Addr} (n : H a = none) : B.H a = none := by
  cases q : B.H a with
  | none => rfl
  | some o =>
    by_cases w : B.W a
    · obtain ⟨_, e'⟩ := re.wtr a w
      rw [n] at e'; cases e'
    · rw [re.kept a o q w] at n; cases n
theorem Rep.newOf {x : PV} {v : V} {Om : Addr → Prop} {H0 H' : Hp} {env : Env} {σ : L2.St} {R : Addr → Prop} (h : NewE G hot B Om env σ H0 H' x v) (r : Rep G R H' x v) : FreshR H0 H' x v := by
  cases x with
  | lst us =>
    obtain ⟨a, e, n, q⟩ := h
    obtain ⟨a', ws, e', _, q1, q2⟩ := r
    rw [e] at e'; cases e'
    exact ⟨a, ws, e, n, q1⟩
  | dct us us' =>
    obtain ⟨a, e, n, q⟩ := h
    obtain ⟨a', es, e', _, q1, z, y, nd, q2, q3⟩ := r
    rw [e] at e'; cases e'
    exact ⟨a, es, e, n, q1⟩
  | _ => trivial
theorem tS_ret {e : E} {D : Ends} {σ : L2.St} {H : Hp} (hp : disj (peeks e) hot = true) (hfr : (!B.fr || freshE G.fr e) = true) (h : tS G F wn hot B W (.ret e) D σ H) : tRet (tE G F hot B W e) D σ H := by
  obtain ⟨Om, env, re, h⟩ := h
  simp only [ex] at h
  refine ⟨Om, env, re, ?_⟩
  cases e1 : ev F e env with
  | stk => rw [e1] at h; exact h
  | exc c pl env1 =>
    rw [e1] at h
    exact fun cls d H' k' re' er => h Om cls d σ H' re' ⟨k', fun _ z => .inl z⟩ er
  | ok x env1 =>
    rw [e1] at h
    intro v H' k re' r fr
    simp only [R.bind] at h
    have r' := r.of_cold hp
    refine h Om v σ H' re' ⟨k.mono fun a z => z.1, fun _ z => .inl z⟩ (Rep.own (fun a _ _ z => re'.base a z) x v r') fun hb => ?_
    have hfe : freshE G.fr e = true := by rw [hb] at hfr; simpa using hfr
    exact (Rep.newOf (fr hfe) r).mono fun a n => keepB re n
theorem pS_ret (ha : PE X a (tE G F hot B W ia)) (hfr : (!B.fr || freshE G.fr ia) = true) (hp : disj (peeks ia) hot = true := by rfl) : PS X (.Return (some a) pos) (tS G F wn hot B W (.ret ia)) := PS.imp (ps_ret ha) fun _ _ _ h => tS_ret hp hfr h
/-- return x, x an own list or dict -/
theorem tS_retH {i : Nat} {D : Ends} {σ : L2.St} {H : Hp} (hi : i ∈ hot) (hio : Away B i) (h : tS G F wn hot B W (.ret (.var i)) D σ H) : tRet (tVar i) D σ H := by
  obtain ⟨Om, env, re, h⟩ := h
  simp only [ex, ev] at h
  cases e : getE env i with
  | none => rw [e] at h; exact h.elim
  | some y =>
    rw [e] at h
    cases q : isExn y with
    | true => simp [q, R.bind] at h; exact h.elim
    | false =>
      simp only [q, Bool.false_eq_true, if_false, R.bind] at h
      obtain ⟨a, ea, oa, wa, ra⟩ := re.root i y e hi
      have nw : ¬ B.W a := fun z => by
        obtain ⟨p, hp, e1⟩ := re.wio a z
        obtain ⟨h1, h2⟩ := re.io p hp
        exact hio p hp (re.inj p.1 i a h1 hi (by rw [h2, e1]) ea)
      have nb : B.H a = none := wa.elim (fun z => absurd z nw) id
      have nO : ¬ B.Om a := fun z => by
        obtain ⟨o, e'⟩ := re.bom a z
        rw [nb] at e'; cases e'
      refine ⟨.ref a, ea, h Om (.ref a) σ H re Ext.refl ?_ fun _ => ?_⟩
      · cases y with
        | lst us =>
          obtain ⟨ws, q1, q2⟩ := ra
          exact ⟨a, ws, rfl, nO, q1, Reps.own (fun a _ _ z => re.base a z) us ws q2⟩
        | dct us us' =>
          obtain ⟨es, q1, z, y, nd, q2, q3⟩ := ra
          exact ⟨a, es, rfl, nO, q1, z, y, nd, RepK.own (fun a _ _ z => re.base a z) us es q2, RepE.own (fun a _ _ z => re.base a z) us' es q3⟩
        | _ => exact ra.elim
      · cases y with
        | lst us =>
          obtain ⟨ws, q1, q2⟩ := ra
          exact ⟨a, ws, rfl, nb, q1⟩
        | dct us us' =>
          obtain ⟨es, q1, _⟩ := ra
          exact ⟨a, es, rfl, nb, q1⟩
        | _ => trivial
theorem pS_retH {x : Str} {p : Pos} (i : Nat) (hio : Away B i) (hi : i ∈ hot := by decide) (hN : X.N[i]? = some x := by rfl) (hv : Vis X.env.scope x := by first | exact Or.inl rfl | exact Or.inr (Or.inl rfl) | exact Or.inr (Or.inr rfl)) (hd : (x == ("__debug__" : Str)) = false := by decide)
    (hcd : (x == ("__classdict__" : Str)) = false := by decide) : PS X (.Return (some (.Name x p)) pos) (tS G F wn hot B W (.ret (.var i))) := PS.imp (ps_ret (pe_var hN hv hd hcd)) fun _ _ _ h => tS_retH hi hio h
theorem pS_retn : PS X (.Return none pos) (tS G F wn hot B W .retn) := PS.imp ps_retN fun D σ H ⟨Om, env, re, h⟩ => h Om .non σ H re Ext.refl rfl fun _ => trivial
theorem pS_pass : PS X (.Pass pos) (tS G F wn hot B W .pass) := PS.imp ps_pass fun D σ H ⟨Om, env, re, h⟩ => h Om σ H re Ext.refl
theorem pS_cont : PS X (.Continue pos) (tS G F wn hot B W .cont) := PS.imp ps_continue fun D σ H ⟨Om, env, re, h⟩ => h Om σ H re Ext.refl
/-- if -/
theorem tS_if {i : E} {p q : Ss} {D : Ends} {σ : L2.St} {H : Hp} (h : tS G F wn hot B W (.ifs i p q) D σ H) : tIfS (tTt G F hot B W i) (tSs G F wn hot B W p) (tSs G F wn hot B W q) D σ H := by
  obtain ⟨Om, env, re, h⟩ := h
  simp only [ex] at h
  refine ⟨Om, env, re, ?_⟩
  cases e1 : ev F i env with
  | stk => rw [e1] at h; exact h
  | exc c pl env1 =>
    rw [e1] at h
    exact fun cls d H' k' re' er => h Om cls d σ H' re' ⟨k', fun _ z => .inl z⟩ er
  | ok x env1 =>
    rw [e1] at h
    simp only [R.bind] at h
    cases e2 : truth x with
    | none => rw [e2] at h; exact h.elim
    | some k =>
      rw [e2] at h
      refine ⟨k, e2, fun H' kp re' => ?_⟩
      cases k with
      | true =>
        simp only [if_true]
        exact ⟨Om, env1, re', Pst.back (keepExt kp) h⟩
      | false =>
        simp only [Bool.false_eq_true, if_false]
        exact ⟨Om, env1, re', Pst.back (keepExt kp) h⟩
theorem pS_if {sa sb : List Stmt} {p q : Ss} (hc : PT X c (tTt G F hot B W ic)) (ha : PSs X sa (tSs G F wn hot B W p)) (hb : PSs X sb (tSs G F wn hot B W q)) : PS X (.If c sa sb pos) (tS G F wn hot B W (.ifs ic p q)) := PS.imp (ps_if hc ha hb) fun _ _ _ h => tS_if h
/-- while -/
theorem tS_while {i : E} {p : Ss} {D : Ends} {σ : L2.St} {H : Hp} (h : tS G F wn hot B W (.whl i p) D σ H) : tWhile (tTt G F hot B W i) (tSs G F wn hot B W p) D σ H := by
  obtain ⟨Om, env, re, h⟩ := h
  simp only [ex] at h
  refine ⟨fun m σ H => ∃ Om env, RE G hot B Om env σ H ∧ Pst G hot B W D Om H (whileLoop (ev F i) (exs F wn p) m env), ⟨wn, Om, env, re, h⟩, ?_⟩
  rintro m σ H ⟨Om, env, re, h⟩
  cases m with
  | zero => exact h.elim
  | succ m =>
    simp only [whileLoop] at h
    refine ⟨Om, env, re, ?_⟩
    cases e1 : ev F i env with
    | stk => rw [e1] at h; exact h
    | exc c pl env1 =>
      rw [e1] at h
      exact fun cls d H' k' re' er => h Om cls d σ H' re' ⟨k', fun _ z => .inl z⟩ er
    | ok x env1 =>
      rw [e1] at h
      simp only [R.bind] at h
      cases e2 : truth x with
      | none => rw [e2] at h; exact h.elim
      | some k =>
        rw [e2] at h
        refine ⟨k, e2, fun H' kp re' => ?_⟩
        have h := Pst.back (keepExt kp) h
        cases k with
        | false =>
          simp only [Bool.false_eq_true, if_false]
          exact h Om σ H' re' Ext.refl
        | true =>
          simp only [if_true]
          refine ⟨fun σ' H' => ∃ Om env, RE G hot B Om env σ' H' ∧ Pst G hot B W D Om H' (whileLoop (ev F i) (exs F wn p) m env), fun σ' H' z => ⟨m, Nat.lt_succ_self m, z⟩, Om, env1, re', ?_⟩
          simp only at h
          cases e3 : exs F wn p env1 with
          | stk => rw [e3] at h; exact h
          | exc c pl env2 => rw [e3] at h; exact h
          | ok f env2 =>
            rw [e3] at h
            cases f with
            | next => exact fun Om' σ' H2 re2 x2 => ⟨Om', env2, re2, Pst.back x2 h⟩
            | cont => exact fun Om' σ' H2 re2 x2 => ⟨Om', env2, re2, Pst.back x2 h⟩
            | ret y => exact h
theorem pS_while {sa : List Stmt} {p : Ss} (hp : PassesOwn (model X.prog X.w) X.A X.env X.xe) (hc : PT X c (tTt G F hot B W ic)) (ha : PSs X sa (tSs G F wn hot B W p)) : PS X (.While c sa [] pos) (tS G F wn hot B W (.whl ic p)) := PS.imp (ps_while hp hc ha) fun _ _ _ h => tS_while h
end
end Sl

/-! Ev11: own lists changed; pairs of names; += ; for. -/
namespace Sl
open PySem PySem.Spec PyProof.Rows L2
section
variable {G : Gx} {F : Fn} {wn : Nat} {hot : List Nat} {B : Bs} {W : WX} {X : Cx} {a b c : Expr} {ia ib ic : E} {pos : Pos} {st : Stmt} {rest : List Stmt}
theorem keep_upd {H : Hp} {p : Addr} {o : HO} : Keep (fun b => b = p) H (upd H p o) := fun b x e n => by rw [upd_ne n]; exact e
theorem om_upd {Om : Addr → Prop} {H : Hp} {p : Addr} {o : HO} (h : OmOk Om H) (w : Own1 o) : OmOk Om (upd H p o) := fun b z => by
  by_cases e : b = p
  · subst e
    exact ⟨o, upd_same, w⟩
  · obtain ⟨x, e1, w1⟩ := h b z
    exact ⟨x, by rw [upd_ne e]; exact e1, w1⟩
theorem hwA {Om : Addr → Prop} {H : Hp} {p : Addr} (om : OmOk Om H) (o : Om p) : ∀ b, (fun b => b = p) b → ∃ o, H b = some o ∧ Own1 o := fun b z => by
  have z : b = p := z
  rw [z]; exact om p o
theorem subA {Om : Addr → Prop} {p : Addr} (o : Om p) : ∀ b, (fun b => b = p) b → Om b := fun b z => by
  have z : b = p := z
  rw [z]; exact o
theorem Rep.upd1 {Om : Addr → Prop} {H : Hp} {p : Addr} {o : HO} {x : PV} {v : V} (om : OmOk Om H) (hp : Om p) (r : Rep G Om H x v) : Rep G Om (upd H p o) x v := Rep.keep keep_upd (hwA om hp) (subA hp) x v r
theorem Reps.upd1 {Om : Addr → Prop} {H : Hp} {p : Addr} {o : HO} {xs : List PV} {vs : List V} (om : OmOk Om H) (hp : Om p) (r : Reps G Om H xs vs) : Reps G Om (upd H p o) xs vs := Reps.keep keep_upd (hwA om hp) (subA hp) xs vs r
/-- an own list has become another -/
theorem RE.putL {Om : Addr → Prop} {env : Env} {σ : L2.St} {H : Hp} {i : Nat} {x : PV} {ys : List PV} {ws : List V} {p : Addr} (h : RE G hot B Om env σ H) (hi : i ∈ hot) (hx : getE env i = some x) (ha : σ[i]? = some (some (.ref p))) (hp : Om p) (r : Reps G Om H ys ws) :
    RE G hot B Om (setE env i (some (.lst ys))) σ (upd H p (.lst ws)) :=
  h.put hi hx ha keep_upd (fun _ z => z) (fun _ z => .inl z) h.new (om_upd h.om (.inl ⟨_, rfl⟩)) ⟨ws, upd_same, r.upd1 h.om hp⟩
theorem lastOut_eq : ∀ {xs : List PV} {v : PV} {r : List PV}, lastOut xs = some (v, r) → xs = r ++ [v]
  | [], _, _, h => by cases h
  | [x], v, r, h => by cases h; rfl
  | x :: y :: xs, v, r, h => by
    simp only [lastOut] at h
    cases e : lastOut (y :: xs) with
    | none => rw [e] at h; cases h
    | some p =>
      obtain ⟨u, t⟩ := p
      rw [e] at h
      cases h
      rw [lastOut_eq e]
      rfl
theorem Reps.snoc {Om : Addr → Prop} {H : Hp} : ∀ {xs : List PV} {x : PV} {ws : List V}, Reps G Om H (xs ++ [x]) ws → ∃ rs w, ws = rs ++ [w] ∧ Reps G Om H xs rs ∧ Rep G Om H x w
  | [], x, ws, h => by
    obtain ⟨v, r, e, h1, h2⟩ := h
    rw [show r = [] from h2] at e
    exact ⟨[], v, e, rfl, h1⟩
  | y :: xs, x, ws, h => by
    obtain ⟨v, r, e, h1, h2⟩ := h
    obtain ⟨rs, w, e2, h3, h4⟩ := Reps.snoc h2
    exact ⟨v :: rs, w, by rw [e, e2]; rfl, ⟨v, rs, rfl, h1, h3⟩, h4⟩
/-- x.pop() -/
theorem tE_pop {i : Nat} {σ : L2.St} {H : Hp} {Q : VK} (hi : i ∈ hot) (h : tE G F hot B W (.pop i) σ H Q) : tBM0 X.K "list" rPop (tVar i) σ H Q := by
  obtain ⟨Om, env, re, h⟩ := h
  simp only [ev] at h
  cases e : getE env i with
  | none => rw [e] at h; exact h.elim
  | some o =>
    rw [e] at h
    obtain ⟨p, ep, hp, wp, r⟩ := re.root i o e hi
    cases o with
    | lst xs =>
      simp only at h
      cases e2 : lastOut xs with
      | none => rw [e2] at h; exact h.elim
      | some q =>
        obtain ⟨y, t⟩ := q
        rw [e2] at h
        obtain ⟨ws, hH, rs⟩ := r
        have ex := lastOut_eq e2
        subst ex
        obtain ⟨ts, w, rfl, r1, r2⟩ := rs.snoc
        refine ⟨.ref p, ep, .inl ⟨rfl, _, .inl (.inl hH)⟩, p, _, w, rfl, rfl, hH, by simp, ?_⟩
        rw [List.dropLast_concat]
        refine h w _ (keep_upd.mono fun b z => ?_) (re.putL hi e ep hp r1) (Rep.toCut (r2.upd1 re.om hp)) fun z => by cases z
        have z : b = p := z
        rw [z]
        exact ⟨hp, i, List.mem_singleton.mpr rfl, hi, ep⟩
    | _ => exact h.elim
theorem pE_pop {x : Str} {p apos : Pos} (i : Nat) (hi : i ∈ hot := by decide) (hN : X.N[i]? = some x := by rfl) (hv : Vis X.env.scope x := by first | exact Or.inl rfl | exact Or.inr (Or.inl rfl) | exact Or.inr (Or.inr rfl)) (hd : (x == ("__debug__" : Str)) = false := by decide)
    (hcd : (x == ("__classdict__" : Str)) = false := by decide) (hbase : attributeBase (.Name x p) "pop" X.env (eval (.Name x p) X.env) = eval (.Name x p) X.env := by rfl) (hline : (apos.endLine == pos.line) = true := by rfl) :
    PE X (.Call (.Attribute (.Name x p) "pop" apos) [] [] pos) (tE G F hot B W (.pop i)) := PE.imp (pe_bm0 PySem.F.plainAttrs_list PySem.F.slot_list_pop PySem.F.type_list_pop mt_pop (pe_var hN hv hd hcd) hbase hline) fun _ _ _ h => tE_pop hi h
theorem hot_lst {Om : Addr → Prop} {env : Env} {σ : L2.St} {H : Hp} {i : Nat} (re : RE G hot B Om env σ H) (hi : i ∈ hot) (h : isL (getE env i) = true) : ∃ p xs ws, getE env i = some (.lst xs) ∧ σ[i]? = some (some (.ref p)) ∧ Om p ∧ H p = some (.lst ws) ∧ Reps G Om H xs ws := by
  cases e : getE env i with
  | none => rw [e] at h; cases h
  | some o =>
    rw [e] at h
    obtain ⟨p, ep, hp, wp, r⟩ := re.root i o e hi
    cases o with
    | lst xs =>
      obtain ⟨ws, q1, q2⟩ := r
      exact ⟨p, xs, ws, rfl, ep, hp, q1, q2⟩
    | _ => cases h
theorem isL_of {f : PV → Option PV} {i : Nat} {env : Env} {D : Ends} {Om : Addr → Prop} {H : Hp} (hf : ∀ o y, f o = some y → ∃ xs, o = .lst xs) (h : Pst G hot B W D Om H (onSlot i f env)) : ∃ xs y, getE env i = some (.lst xs) ∧ f (.lst xs) = some y ∧ Pst G hot B W D Om H (.ok .next (setE env i (some y))) := by
  unfold onSlot at h
  cases e : getE env i with
  | none => rw [e] at h; exact h.elim
  | some o =>
    rw [e] at h
    simp only at h
    cases e2 : f o with
    | none => rw [e2] at h; exact h.elim
    | some y =>
      rw [e2] at h
      obtain ⟨xs, rfl⟩ := hf o y e2
      exact ⟨xs, y, rfl, e2, h⟩
/-- x.append(e) -/
theorem tS_app {i : Nat} {e : E} {D : Ends} {σ : L2.St} {H : Hp} (hi : i ∈ hot) (hp : disj (peeks e) hot = true) (h : tS G F wn hot B W (.app i e) D σ H) : tDrop (tBM X.K "list" rAppend (tVar i) (tCons (tE G F hot B W e) tNil)) D σ H := by
  obtain ⟨Om, env, re, h⟩ := h
  simp only [ex] at h
  cases hl : isL (getE env i) with
  | false => simp only [hl, Bool.false_eq_true, if_false] at h; exact h.elim
  | true =>
    simp only [hl, if_true] at h
    obtain ⟨p, xs, ws, e1, e2, op, e3, r1⟩ := hot_lst re hi hl
    refine ⟨.ref p, e2, .inl ⟨rfl, _, .inl (.inl e3)⟩, tS_bind re h fun x env' v H' re' k r fr h => ?_⟩
    obtain ⟨ys, z, g1, g2, h⟩ := isL_of (f := appTo x) (fun o y q => by
      cases o with
      | lst xs => exact ⟨xs, rfl⟩
      | _ => cases q) h
    simp only [appTo] at g2
    cases hs : short ys with
    | false => simp [hs] at g2
    | true =>
      simp only [hs, if_true, Option.some.injEq] at g2
      subst g2
      obtain ⟨p', ep', op', _, ws', hw', rw'⟩ := re'.root i _ g1 hi
      rw [e2] at ep'; cases ep'
      have hz := short_lt hs
      have hc := cap_line
      refine ⟨p, ws', v, rfl, rfl, hw', by rw [rw'.length]; omega, ?_⟩
      exact Pst.new h (keep_upd.mono (subA op')) (fun _ z => .inl z) (re'.putL hi g1 e2 op' (rw'.append (Reps.cons (r.of_cold hp) Reps.nil)))
theorem pS_app {x : Str} {p apos cpos : Pos} (i : Nat) (ha : PE X a (tE G F hot B W ia)) (hi : i ∈ hot := by decide) (hp : disj (peeks ia) hot = true := by rfl) (hN : X.N[i]? = some x := by rfl) (hv : Vis X.env.scope x := by first | exact Or.inl rfl | exact Or.inr (Or.inl rfl) | exact Or.inr (Or.inr rfl)) (hd : (x == ("__debug__" : Str)) = false := by decide)
    (hcd : (x == ("__classdict__" : Str)) = false := by decide) (hbase : attributeBase (.Name x p) "append" X.env (eval (.Name x p) X.env) = eval (.Name x p) X.env := by rfl)
    (hfew : ((backTo cpos (starEach [a] X.env)).all (fun x => !x.1) && (backToKw cpos (keywordEach [] X.env)).all (fun x => x.1.isSome) && decide ([a].length + ([] : List Keyword).length + (if ([] : List Keyword).isEmpty then 0 else 1) < 30)) = true := by rfl) (hline : (apos.endLine == cpos.line) = true := by rfl)
    (hs : starEach [a] X.env = [(false, eval a X.env)] := by rfl) (hsw : swapsWith (.Call (.Attribute (.Name x p) "append" apos) [a] [] cpos) none pos.line X.env = pure false := by rfl) :
    PS X (.Expr (.Call (.Attribute (.Name x p) "append" apos) [a] [] cpos) pos) (tS G F wn hot B W (.app i ia)) :=
  PS.imp (ps_expr (pe_bm PySem.F.plainAttrs_list PySem.F.slot_list_append PySem.F.type_list_append mt_append (pe_var hN hv hd hcd) (pa_cons ha pa_nil hs) hbase hfew hline hs rfl) hsw) fun _ _ _ h => tS_app hi hp h
theorem ext_tuple (l : Addr) (its : Array Value) (n : Nat) (b : Addr) (its2 : Array Value) (n2 : Nat) (dc : Option Addr) (sl : Array (Option Value)) (hs0 : ¬(!its.isEmpty && Builtin.List.listTooLong (its.size + its2.size)) = true) (hs1 : its.size ≤ sizeLine) (hs2 : its.size + its2.size ≤ sizeLine + 1) :
    Meets (Builtin.«list.extend» ⟨[.ref l, .ref b], []⟩) (fun _ R s => s.heap.get? l = some { cls := .type "list", dict := none, data := .seq its n, slots := #[] } ∧ s.heap.get? b = some { cls := .type "tuple", dict := dc, data := .seq its2 n2, slots := sl } ∧
      R (.ok (.ret Value.none)) { s with heap := s.heap.update l (Obj.mapSeq fun x => x ++ its2), toks := s.toks }) :=
  .of_wp fun prog w A R s h => by
    obtain ⟨hp, g, d, tk, os⟩ := s
    obtain ⟨hl, hb, h⟩ := h
    have g1 := sub_tuple_tuple
    have g2 := sub_list_list
    have g3 := sub_tuple_list
    have g4 := sub_list_tuple
    have hz' : (its ++ its2).size ≤ sizeLine + 1 := by rw [Array.size_append]; exact hs2
    wp_walk using (wpAny_updateSeq hl rfl (hz := hs1) (_hz' := hz')), wpAny_loadPart' hl, wpAny_loadPart' hb
    exact ⟨_, rfl, h⟩
/-- extend by a list or a tuple -/
def rExt (K : PySem.W.Frag) : V → List V → Hp → VK → Prop := fun x vs H Q => ∃ l b xs zs, x = .ref l ∧ vs = [.ref b] ∧ H l = some (.lst xs) ∧ (H b = some (.lst zs) ∨ SqT K H b zs) ∧ xs.length + zs.length ≤ sizeLine ∧ Q .non (upd H l (.lst (xs ++ zs)))
theorem mt_ext : MtM X "list.extend" (rExt X.K) := by
  intro pins s σ H x vs v us Q I rx rv ⟨l, b, xs, zs, ex, ev, hl, hb, hz, q⟩
  rcases hb with hb | hb
  · exact mt_extend pins s σ H x vs v us Q I rx rv ⟨l, b, xs, zs, ex, ev, hl, hb, hz, q⟩
  · subst ex; subst ev
    cases rx
    obtain ⟨u, rfl, ru⟩ := rv.one
    cases ru
    obtain ⟨z, its, n, r, hn, e⟩ := I.lstM hl
    obtain ⟨its2, r2, t, hz2⟩ := I.tuple hb
    obtain ⟨ob, e2, c2, n2, d2⟩ := t
    have l1 := r.length
    have l2 := r2.length
    have hsz : its.toArray.size + its2.toArray.size ≤ sizeLine := by rw [List.size_toArray, List.size_toArray]; omega
    have hlong : ¬ (!its.toArray.isEmpty && Builtin.List.listTooLong (its.toArray.size + its2.toArray.size)) = true := by
      rw [notLongL hsz, Bool.and_false]
      exact Bool.false_ne_true
    obtain ⟨cl2, dc, dt, sl⟩ := ob
    obtain rfl : cl2 = .type "tuple" := c2
    obtain rfl : dt = .seq its2.toArray n2 := d2
    refine call_meets F.slot_list_extend ⟨_, e, rfl⟩ F.entry_list_extend (F.args_list_extend_2 _ _) (ext_tuple l its.toArray n b its2.toArray n2 dc sl hlong (by rw [List.size_toArray]; omega) (by omega)) ⟨e, e2, ?_⟩
    refine ⟨.non, _, I.lset (its' := its ++ its2) hl e (by simp) (r.append r2) ?_, rfl, q⟩
    rw [List.length_append]
    omega
/-- x.extend(e) -/
theorem tS_ext {i : Nat} {e : E} {D : Ends} {σ : L2.St} {H : Hp} (hK : X.K = G.K) (hi : i ∈ hot) (hp : disj (peeks e) hot = true) (h : tS G F wn hot B W (.ext i e) D σ H) : tDrop (tBM X.K "list" (rExt X.K) (tVar i) (tCons (tE G F hot B W e) tNil)) D σ H := by
  obtain ⟨Om, env, re, h⟩ := h
  simp only [ex] at h
  cases hl : isL (getE env i) with
  | false => simp only [hl, Bool.false_eq_true, if_false] at h; exact h.elim
  | true =>
    simp only [hl, if_true] at h
    obtain ⟨p, xs, ws, e1, e2, op, e3, r1⟩ := hot_lst re hi hl
    refine ⟨.ref p, e2, .inl ⟨rfl, _, .inl (.inl e3)⟩, tS_bind re h fun x env' v H' re' k r fr h => ?_⟩
    obtain ⟨ys, z, g1, g2, h⟩ := isL_of (f := extBy x) (fun o y q => by
      cases o with
      | lst xs => exact ⟨xs, rfl⟩
      | _ => cases q) h
    simp only [extBy] at g2
    cases hit : items x with
    | none => rw [hit] at g2; cases g2
    | some zs =>
      rw [hit] at g2
      simp only at g2
      cases hs : short (ys ++ zs) with
      | false => simp [hs] at g2
      | true =>
        simp only [hs, if_true, Option.some.injEq] at g2
        subst g2
        obtain ⟨p', ep', op', _, ws', hw', rw'⟩ := re'.root i _ g1 hi
        rw [e2] at ep'; cases ep'
        have hz := short_lt hs
        have hc := cap_line
        rw [List.length_append] at hz
        obtain ⟨b, bs, eb, hb, rb⟩ : ∃ b bs, v = .ref b ∧ (H' b = some (.lst bs) ∨ SqT X.K H' b bs) ∧ Reps G Om H' zs bs := by
          have r := r.of_cold hp
          cases x with
          | tup us =>
            cases hit
            obtain ⟨b, bs, eb, q1, q2⟩ := r
            exact ⟨b, bs, eb, .inr (hK ▸ q1), q2⟩
          | lst us =>
            cases hit
            obtain ⟨b, bs, eb, _, q1, q2⟩ := r
            exact ⟨b, bs, eb, .inl q1, q2⟩
          | _ => cases hit
        subst eb
        refine ⟨p, b, ws', bs, rfl, rfl, hw', hb, by rw [rw'.length, rb.length]; omega, ?_⟩
        exact Pst.new h (keep_upd.mono (subA op')) (fun _ z => .inl z) (re'.putL hi g1 e2 op' (rw'.append rb))
theorem pS_ext {x : Str} {p apos cpos : Pos} (i : Nat) (hK : X.K = G.K) (ha : PE X a (tE G F hot B W ia)) (hi : i ∈ hot := by decide) (hp : disj (peeks ia) hot = true := by rfl) (hN : X.N[i]? = some x := by rfl) (hv : Vis X.env.scope x := by first | exact Or.inl rfl | exact Or.inr (Or.inl rfl) | exact Or.inr (Or.inr rfl)) (hd : (x == ("__debug__" : Str)) = false := by decide)
    (hcd : (x == ("__classdict__" : Str)) = false := by decide) (hbase : attributeBase (.Name x p) "extend" X.env (eval (.Name x p) X.env) = eval (.Name x p) X.env := by rfl)
    (hfew : ((backTo cpos (starEach [a] X.env)).all (fun x => !x.1) && (backToKw cpos (keywordEach [] X.env)).all (fun x => x.1.isSome) && decide ([a].length + ([] : List Keyword).length + (if ([] : List Keyword).isEmpty then 0 else 1) < 30)) = true := by rfl) (hline : (apos.endLine == cpos.line) = true := by rfl)
    (hs : starEach [a] X.env = [(false, eval a X.env)] := by rfl) (hsw : swapsWith (.Call (.Attribute (.Name x p) "extend" apos) [a] [] cpos) none pos.line X.env = pure false := by rfl) :
    PS X (.Expr (.Call (.Attribute (.Name x p) "extend" apos) [a] [] cpos) pos) (tS G F wn hot B W (.ext i ia)) :=
  PS.imp (ps_expr (pe_bm PySem.F.plainAttrs_list PySem.F.slot_list_extend PySem.F.type_list_extend mt_ext (pe_var hN hv hd hcd) (pa_cons ha pa_nil hs) hbase hfew hline hs rfl) hsw) fun _ _ _ h => tS_ext hK hi hp h

/-! ### x, y = e, f -/
/-- a slot gets a list or dict that has an owner already -/
theorem RE.setOwn {Om : Addr → Prop} {env : Env} {σ : L2.St} {H : Hp} {i : Nat} {x : PV} {p : Addr} (re : RE G hot B Om env σ H) (hi : i ∈ hot) (hio : Away B i) (hp : Om p) (nB : B.H p = none) (slot : ∀ j, j ∈ hot → σ[j]? ≠ some (some (.ref p))) (ra : Root G Om H x p) :
    RE G hot B Om (setE env i (some x)) (σ.set i (some (.ref p))) H := by
  have gs : ∀ {j : Nat}, j ≠ i → (σ.set i (some (.ref p)))[j]? = σ[j]? := fun n => List.getElem?_set_ne (Ne.symm n)
  have ge : ∀ {j : Nat}, j ≠ i → getE (setE env i (some x)) j = getE env j := fun n => by rw [getE_setE, if_neg n]
  have gi : ∀ {y : PV}, getE (setE env i (some x)) i = some y → y = x ∧ (σ.set i (some (.ref p)))[i]? = some (some (.ref p)) := fun {y} e => by
    rw [getE_setE, if_pos rfl] at e
    split at e
    · rename_i hl
      cases e
      exact ⟨rfl, List.getElem?_set_self (by rw [re.len]; exact hl)⟩
    · cases e
  have gself : ∀ {v : Option V}, (σ.set i (some (.ref p)))[i]? = some v → i < σ.length ∧ v = some (.ref p) := fun {v} e => by
    rcases Nat.lt_or_ge i σ.length with q | q
    · rw [List.getElem?_set_self q] at e
      cases e; exact ⟨q, rfl⟩
    · rw [List.getElem?_eq_none (by rw [List.length_set]; exact q)] at e; cases e
  refine ⟨by rw [List.length_set, len_setE]; exact re.len, re.om, fun j y e n q => ?_, fun j y e hj => ?_, fun j y hj e => ?_, fun j l b h1 h2 e1 e2 => ?_, fun j c pl e => ?_, re.base, re.kept, re.new, re.wtr, re.bom, re.wio, fun q hq => ?_⟩
  · have hji : j ≠ i := fun e => n (by rw [e]; exact hi)
    rw [ge hji] at e
    rw [gs hji]
    exact re.cold j y e n q
  · by_cases hji : j = i
    · subst hji
      obtain ⟨rfl, e2⟩ := gi e
      exact ⟨p, e2, hp, .inr nB, ra⟩
    · rw [ge hji] at e
      rw [gs hji]
      exact re.root j y e hj
  · by_cases hji : j = i
    · subst hji
      obtain ⟨hl, _⟩ := gself e
      rw [getE_setE, if_pos rfl, if_pos (by rw [← re.len]; exact hl)]
      exact ⟨x, rfl⟩
    · rw [gs hji] at e
      rw [ge hji]
      exact re.live j y hj e
  · by_cases hji : j = i
    · by_cases hli : l = i
      · rw [hji, hli]
      · subst hji
        rw [gs hli] at e2
        obtain ⟨_, e3⟩ := gself e1
        cases e3
        exact absurd e2 (slot l h2)
    · by_cases hli : l = i
      · subst hli
        rw [gs hji] at e1
        obtain ⟨_, e3⟩ := gself e2
        cases e3
        exact absurd e1 (slot j h1)
      · rw [gs hji] at e1
        rw [gs hli] at e2
        exact re.inj j l b h1 h2 e1 e2
  · by_cases hji : j = i
    · subst hji
      obtain ⟨e1, _⟩ := gi e
      subst e1
      exact ra.elim
    · rw [ge hji] at e
      rw [gs hji]
      exact re.exn j c pl e
  · obtain ⟨h1, h2⟩ := re.io q hq
    exact ⟨h1, by rw [gs (hio q hq)]; exact h2⟩
def TgtOk (G : Gx) (hot : List Nat) (B : Bs) (t : T) (i : Nat) (e : E) : Prop := (t = .name i ∧ i ∉ hot ∧ disj (peeks e) hot = true) ∨ (t = .new i ∧ i ∈ hot ∧ Away B i ∧ freshE G.fr e = true)
theorem TgtOk.name {i : Nat} {e : E} (hi : i ∉ hot := by decide) (hp : disj (peeks e) hot = true := by rfl) : TgtOk G hot B (.name i) i e := .inl ⟨rfl, hi, hp⟩
theorem TgtOk.new {i : Nat} {e : E} (hio : Away B i) (hf : freshE G.fr e = true) (hi : i ∈ hot := by decide) : TgtOk G hot B (.new i) i e := .inr ⟨rfl, hi, hio, hf⟩
/-- a value for a target stands ready -/
structure Rdy (G : Gx) (hot : List Nat) (B : Bs) (t : T) (i : Nat) (x : PV) (v : V) (Om : Addr → Prop) (σ : L2.St) (H : Hp) : Prop where
  name : t = .name i → i ∉ hot ∧ Rep G Om H x v
  new : t = .new i → i ∈ hot ∧ Away B i ∧ ∃ p, v = .ref p ∧ Om p ∧ B.H p = none ∧ (∀ j, j ∈ hot → σ[j]? ≠ some (some (.ref p))) ∧ Root G Om H x p
def tgtFr (t : T) (x : PV) : Bool := match t with
  | .new _ => inFrozen x
  | _ => true
theorem rdy_of {t : T} {i : Nat} {e : E} {x : PV} {v : V} {Om : Addr → Prop} {env : Env} {σ : L2.St} {H0 H : Hp} (om0 : OmOk Om H0) (tk : TgtOk G hot B t i e) (re : RE G hot B Om env σ H) (r : Rep G (cutO Om (rt hot Om σ (peeks e))) H x v) (fr : freshE G.fr e = true → NewE G hot B Om env σ H0 H x v) (hf : tgtFr t x = true) :
    ∃ Om1, RE G hot B Om1 env σ H ∧ Rdy G hot B t i x v Om1 σ H ∧ (∀ b, Om b → Om1 b) ∧ ∀ b, Om1 b → Om b ∨ H0 b = none := by
  rcases tk with ⟨rfl, hi, hp⟩ | ⟨rfl, hi, hio, hfe⟩
  · exact ⟨Om, re, ⟨fun _ => ⟨hi, r.of_cold hp⟩, (fun e => nomatch e)⟩, fun _ z => z, fun _ z => .inl z⟩
  · have hn := fr hfe
    have hf : inFrozen x = true := hf
    obtain ⟨p, ev, nH, re2, ra⟩ : ∃ a, v = .ref a ∧ H0 a = none ∧ RE G hot B (fun b => Om b ∨ b = a) env σ H ∧ Root G (fun b => Om b ∨ b = a) H x a := by
      cases x with
      | lst us =>
        obtain ⟨a, e, n, q⟩ := hn
        obtain ⟨a', ws, e', _, q1, q2⟩ := r
        rw [e] at e'; cases e'
        exact ⟨a, e, n, q, ws, q1, Reps.free us ws hf q2⟩
      | dct us us' =>
        obtain ⟨a, e, n, q⟩ := hn
        obtain ⟨a', es, e', _, q1, z, y, nd, q2, q3⟩ := r
        rw [e] at e'; cases e'
        obtain ⟨h1, h2⟩ := Bool.and_eq_true_iff.mp hf
        exact ⟨a, e, n, q, es, q1, z, y, nd, RepK.free us es h1 q2, RepE.free us' es h2 q3⟩
      | _ => cases hf
    have nOm : ¬ Om p := fun z => by
      obtain ⟨_, e', _⟩ := om0 p z
      rw [nH] at e'; cases e'
    refine ⟨_, re2, ⟨(fun e => nomatch e), fun _ => ⟨hi, hio, p, ev, .inr rfl, ?_, fun j h1 h2 => ?_, ra⟩⟩, fun _ z => .inl z, fun b z => z.elim .inl fun e => .inr (by rw [e]; exact nH)⟩
    · rcases re2.new p (.inr rfl) with z | z
      · exact absurd (re.base p z) nOm
      · exact z
    · obtain ⟨y, e1⟩ := re.live j _ h1 h2
      obtain ⟨b', e2, ob, _⟩ := re.root j y e1 h1
      rw [h2] at e2; cases e2
      exact nOm ob
theorem Rdy.keep {t : T} {i : Nat} {x : PV} {v : V} {Om Om' : Addr → Prop} {σ : L2.St} {H H' : Hp} {ms : List Nat} (om : OmOk Om H) (k : Keep (rt hot Om σ ms) H H') (sub : ∀ b, Om b → Om' b) (new : ∀ b, Om' b → Om b ∨ H b = none) (h : Rdy G hot B t i x v Om σ H) : Rdy G hot B t i x v Om' σ H' := by
  have own : ∀ a o, H a = some o → Om' a → Om a := fun a o e z => (new a z).elim id fun n => by rw [e] at n; cases n
  refine ⟨fun e => ?_, fun e => ?_⟩
  · obtain ⟨h1, h2⟩ := h.name e
    exact ⟨h1, Rep.keep k (hwR om) (fun a z => sub a z.1) x v (Rep.own own x v h2)⟩
  · obtain ⟨h1, h2, p, ev, op, nB, sl, ra⟩ := h.new e
    refine ⟨h1, h2, p, ev, sub p op, nB, sl, Root.keepW k (hwR om) (fun a z => sub a z.1) (fun ⟨_, j, _, q2, q3⟩ => sl j q2 q3) (Root.own own ra)⟩
theorem Rdy.set {t : T} {i : Nat} {x : PV} {v : V} {Om : Addr → Prop} {env : Env} {σ : L2.St} {H : Hp} (h : Rdy G hot B t i x v Om σ H) (re : RE G hot B Om env σ H) (ht : t = .name i ∨ t = .new i) : RE G hot B Om (setE env i (some x)) (σ.set i (some v)) H := by
  rcases ht with e | e
  · obtain ⟨h1, h2⟩ := h.name e
    exact re.set h1 h2
  · obtain ⟨h1, h2, p, ev, op, nB, sl, ra⟩ := h.new e
    rw [ev]
    exact re.setOwn h1 h2 op nB sl ra
theorem asgT_ok {t : T} {i : Nat} {x : PV} {env : Env} (ht : t = .name i ∨ t = .new i) : asgT F t x env = if tgtFr t x then .ok () (setE env i (some x)) else .stk := by
  rcases ht with rfl | rfl
  · rfl
  · rfl
theorem TgtOk.eq {t : T} {i : Nat} {e : E} (h : TgtOk G hot B t i e) : t = .name i ∨ t = .new i := h.elim (fun h => .inl h.1) fun h => .inr h.1
theorem tS_par {t1 t2 : T} {i j : Nat} {e1 e2 : E} {D : Ends} {σ : L2.St} {H : Hp} (hij : i ≠ j) (k1 : TgtOk G hot B t1 i e1) (k2 : TgtOk G hot B t2 j e2) (h : tS G F wn hot B W (.par (.cons t1 (.cons t2 .nil)) (.cons e1 (.cons e2 .nil))) D σ H) :
    tCons (tE G F hot B W e1) (tCons (tE G F hot B W e2) tNil) σ H fun vs H2 => ∃ v w, vs = [v, w] ∧ ∀ H3, Keep none1 H2 H3 → D.nx ((σ.set i (some v)).set j (some w)) H3 := by
  obtain ⟨Om, env, re, h⟩ := h
  simp only [ex, evs] at h
  refine ⟨Om, env, re, ?_⟩
  cases q1 : ev F e1 env with
  | stk => rw [q1] at h; exact h
  | exc c pl env1 =>
    rw [q1] at h
    exact fun cls d H' k' re' er => h Om cls d σ H' re' ⟨k', fun _ z => .inl z⟩ er
  | ok x env1 =>
    rw [q1] at h
    intro v H1 kp1 re1 r1 fr1
    simp only [R.bind] at h
    -- whether the first value may be stored
    cases q2 : ev F e2 env1 with
    | stk =>
      rw [q2] at h
      exact h.elim
    | exc c pl env2 =>
      rw [q2] at h
      refine ⟨Om, env1, re1, ?_⟩
      rw [q2]
      exact fun cls d H' k' re' er => h Om cls d σ H' re' ⟨kp1.om k', fun _ z => .inl z⟩ er
    | ok y env2 =>
      rw [q2] at h
      simp only [asgTs, asgT_ok k1.eq, asgT_ok k2.eq] at h
      cases f1 : tgtFr t1 x with
      | false => simp only [f1, Bool.false_eq_true, if_false, R.bind] at h; exact h.elim
      | true =>
      cases f2 : tgtFr t2 y with
      | false => simp only [f1, f2, Bool.false_eq_true, if_false, if_true, R.bind] at h; exact h.elim
      | true =>
      simp only [f1, f2, if_true, R.bind] at h
      obtain ⟨Om1, re1', rd1, s1, n1⟩ := rdy_of re.om k1 re1 r1 fr1 f1
      refine ⟨Om1, env1, re1', ?_⟩
      rw [q2]
      intro w H2 kp2 re2 r2 fr2
      obtain ⟨Om2, re2', rd2, s2, n2⟩ := rdy_of re1'.om k2 re2 r2 fr2 f2
      refine ⟨v, w, rfl, fun H3 k3 => ?_⟩
      have rd1' := Rdy.keep re1'.om kp2 s2 n2 rd1
      have kn : Keep (rt hot Om2 σ []) H2 H3 := k3.mono fun _ z => z.elim
      have re3 := re2'.keep k3
      have a1 := (Rdy.keep re2'.om kn (fun _ z => z) (fun _ z => .inl z) rd1').set re3 k1.eq
      have rd2' := Rdy.keep re2'.om kn (fun _ z => z) (fun _ z => .inl z) rd2
      have a2 : RE G hot B Om2 (setE (setE env2 i (some x)) j (some y)) ((σ.set i (some v)).set j (some w)) H3 := by
        refine Rdy.set ⟨rd2'.name, fun en => ?_⟩ a1 k2.eq
        obtain ⟨g1, g2, p, ev, op, nB, sl, ra⟩ := rd2'.new en
        refine ⟨g1, g2, p, ev, op, nB, fun l hl e3 => ?_, ra⟩
        by_cases hli : l = i
        · subst hli
          rcases k1.eq with e | e
          · exact (rd1.name e).1 hl
          · obtain ⟨_, _, p1, e1', o1, _, _, _⟩ := rd1.new e
            have : v = .ref p := by
              rcases Nat.lt_or_ge l σ.length with q | q
              · rw [List.getElem?_set_self q] at e3
                cases e3; rfl
              · rw [List.getElem?_eq_none (by rw [List.length_set]; exact q)] at e3; cases e3
            rw [this] at e1'; cases e1'
            -- the second is new behind the first
            rcases k2 with ⟨e4, _⟩ | ⟨_, _, _, hfe⟩
            · rw [en] at e4; cases e4
            · have hn := fr2 hfe
              have := Rep.newOf hn r2
              obtain ⟨o, ho, _⟩ := re1'.om p o1
              cases y with
              | lst us =>
                obtain ⟨b, ws, e5, n5, _⟩ := this
                rw [ev] at e5; cases e5
                rw [ho] at n5; cases n5
              | dct us us' =>
                obtain ⟨b, ws, e5, n5, _⟩ := this
                rw [ev] at e5; cases e5
                rw [ho] at n5; cases n5
              | _ => exact ra.elim
        · rw [List.getElem?_set_ne (Ne.symm hli)] at e3
          exact sl l hl e3
      refine h Om2 _ H3 a2 ⟨?_, fun b z => ?_⟩
      · have kk1 : Keep Om H H1 := kp1.mono fun a z => z.1
        intro b o e n
        have e1 := kk1 b o e n
        have nb1 : ¬ Om1 b := fun z => (n1 b z).elim n fun q => by rw [e] at q; cases q
        have e2 := kp2 b o e1 fun z => nb1 z.1
        exact k3 b o e2 fun z => z.elim
      · rcases n2 b z with z | z
        · exact n1 b z
        · by_cases ho : Om b
          · exact .inl ho
          · refine .inr ?_
            cases e : H b with
            | none => rfl
            | some o => rw [kp1 b o e fun z => ho z.1] at z; cases z
theorem pS_par {x y : Str} {px py pt : Pos} {kt k2 : Nat} {pt2 : Pos} {t1 t2 : T} {i j : Nat} (hc : X.calm = true) (nd : X.N.Nodup) (hi : X.N[i]? = some x) (hj : X.N[j]? = some y) (hij : i ≠ j) (hx : X.env.scope.names.lookup x = some .local) (hy : X.env.scope.names.lookup y = some .local)
    (k1 : TgtOk G hot B t1 i ia) (k2' : TgtOk G hot B t2 j ib) (ha : PE X a (tE G F hot B W ia)) (hb : PE X b (tE G F hot B W ib))
    (hw : swappedStores [.Tuple [.Name x px, .Name y py] kt pt] (.Tuple [a, b] k2 pt2) X.env = pure (some [x, y])) (hs : swapsWithSole [.Tuple [.Name x px, .Name y py] kt pt] (.Tuple [a, b] k2 pt2) pos.line X.env = pure false := by rfl)
    (hst : starEach [a, b] X.env = (false, eval a X.env) :: starEach [b] X.env := by rfl) (hst2 : starEach [b] X.env = [(false, eval b X.env)] := by rfl) :
    PS X (.Assign [.Tuple [.Name x px, .Name y py] kt pt] (.Tuple [a, b] k2 pt2) pos) (tS G F wn hot B W (.par (.cons t1 (.cons t2 .nil)) (.cons ia (.cons ib .nil)))) := by
  refine PS.imp (ps_par hc nd hi hj hij hx hy (pa_cons ha (pa_cons hb pa_nil hst2) hst) hw hs) fun D σ H h => ?_
  refine tE_mono (fun v H1 h1 => tE_mono (fun w H2 h2 => ?_) h1) (tS_par hij k1 k2' h)
  obtain ⟨v', w', e, q⟩ := h2
  exact ⟨v', w', e, q H2 (Keep.refl H2)⟩
/-- .. where a name is a cell: by a tuple -/
theorem pS_parT {x y : Str} {px py pt : Pos} {kt k2 : Nat} {pt2 : Pos} {t1 t2 : T} {i j : Nat} (hc : X.calm = true) (nd : X.N.Nodup) (hi : X.N[i]? = some x) (hj : X.N[j]? = some y) (hij : i ≠ j) (hx : Loc X.env.scope x) (hy : Loc X.env.scope y)
    (k1 : TgtOk G hot B t1 i ia) (k2' : TgtOk G hot B t2 j ib) (ha : PE X a (tE G F hot B W ia)) (hb : PE X b (tE G F hot B W ib)) (hfx : X.fn x = true ∨ X.env.scope.names.lookup x = some .local) (hfy : X.fn y = true ∨ X.env.scope.names.lookup y = some .local)
    (hs : swapsWithSole [.Tuple [.Name x px, .Name y py] kt pt] (.Tuple [a, b] k2 pt2) pos.line X.env = pure false := by rfl) (hw : swappedStores [.Tuple [.Name x px, .Name y py] kt pt] (.Tuple [a, b] k2 pt2) X.env = pure none := by rfl)
    (hst : starEach [a, b] X.env = (false, eval a X.env) :: starEach [b] X.env := by rfl) (hst2 : starEach [b] X.env = [(false, eval b X.env)] := by rfl) (ha1 : (assignEach [.Name x px, .Name y py] X.env).map (·.2) = assign (.Name x px) X.env :: (assignEach [.Name y py] X.env).map (·.2) := by rfl)
    (ha2 : (assignEach [.Name y py] X.env).map (·.2) = assign (.Name y py) X.env :: (assignEach [] X.env).map (·.2) := by rfl) (hn : (assignEach [.Name x px, .Name y py] X.env).length = 2 := by rfl) (hst3 : (assignEach [.Name x px, .Name y py] X.env).findIdx? (·.1) = none := by rfl) :
    PS X (.Assign [.Tuple [.Name x px, .Name y py] kt pt] (.Tuple [a, b] k2 pt2) pos) (tS G F wn hot B W (.par (.cons t1 (.cons t2 .nil)) (.cons ia (.cons ib .nil)))) := by
  refine PS.imp (ps_asg (pe_tup (pa_cons ha (pa_cons hb pa_nil hst2) hst)) (pg_tup (n := 2) hc (pgs_cons (pg_name nd hi hx hfx) (pgs_cons (pg_name nd hj hy hfy) pgs_nil ha2) ha1) hn hst3) hs hw) fun D σ H h => ?_
  refine tE_mono (fun v H1 h1 => tE_mono (fun w H2 h2 => ?_) h1) (tS_par hij k1 k2' h)
  obtain ⟨v', w', e, q⟩ := h2
  refine ⟨?_, fun p hp => ⟨p, _, rfl, .inl (.inl upd_same), rfl, ?_⟩⟩
  · have := cap_line
    show 2 ≤ sizeLine
    omega
  · cases e
    exact ⟨_, _, rfl, _, _, rfl, rfl, q _ (keep_new hp)⟩
/-- x += e, ints -/
theorem tS_aug {i : Nat} {o : Op} {f : Int → Int → Int} {e : E} {D : Ends} {σ : L2.St} {H : Hp} (hf : ∀ x y z, opSem o [.int x, .int y] = some (.int z) → z = f x y) (hi : i ∉ hot) (hm : disj [i] (muts e) = true) (hid : ∀ env x env', ev F e env = .ok x env' → getE env' i = getE env i ∨ True) (h : tS G F wn hot B W (.aug i o e) D σ H) :
    tAug i (tE G F hot B W e) (ipI f) D σ H := by
  obtain ⟨Om, env, re, h⟩ := h
  simp only [ex] at h
  cases e0 : getE env i with
  | none => rw [e0] at h; exact h.elim
  | some x =>
    rw [e0] at h
    cases x with
    | int x =>
      simp only at h
      obtain ⟨v, e1, r⟩ := re.cold i _ e0 hi rfl
      refine ⟨v, e1, tS_bind re h fun y env' u H' re' k r' fr h => ?_⟩
      cases y with
      | int y =>
        simp only at h
        split at h
        · rename_i z ez
          rw [hf x y z ez] at h
          refine ⟨x, y, r, r', ?_⟩
          exact h Om _ H' (re'.set hi rfl) Ext.refl
        · exact h.elim
      | _ => exact h.elim
    | _ => exact h.elim
theorem pS_aug {x : Str} {op : Operator} {o : Op} {f : Int → Int → Int} {pos' : Pos} (i : Nat) (ho : PIp X op (ipI f)) (hf : ∀ x y z, opSem o [.int x, .int y] = some (.int z) → z = f x y) (nd : X.N.Nodup) (hN : X.N[i]? = some x) (hx : Loc X.env.scope x) (ha : PE X a (tE G F hot B W ia)) (hi : i ∉ hot := by decide) (hm : disj [i] (muts ia) = true := by rfl)
    (hfn : X.fn x = true ∨ X.env.scope.names.lookup x = some .local := by first | exact .inl rfl | exact .inr rfl) : PS X (.AugAssign (.Name x pos') op a pos) (tS G F wn hot B W (.aug i o ia)) :=
  PS.imp (ps_aug nd hN hx ha ho hfn) fun _ _ _ h => tS_aug hf hi hm (fun _ _ _ _ => .inr trivial) h
end
end Sl

/-! Ev12: what is walked; targets; for. -/
namespace Sl
open PySem PySem.Spec PyProof.Rows L2
mutual
def slotsG : G → List Nat
  | .name i => [i]
  | .tup gs => slotsGs gs
def slotsGs : Gs → List Nat
  | .nil => []
  | .cons g r => slotsG g ++ slotsGs r
end
/-- J walks the trees xs -/
def Wk (G : Gx) (Om : Addr → Prop) (H : Hp) (J : L2.It) (xs : List PV) : Prop := ∀ Om' H', Ext Om H Om' H' → OmOk Om' H' → ∀ i,
  (∀ x, xs[i]? = some x → J.go i H' ∧ ∀ v H'', J.yld i H' v H'' → Keep none1 H' H'' ∧ Rep G Om' H'' x v) ∧ (xs.length ≤ i → J.stop i H')
section
variable (G : Gx) (F : Fn) (hot : List Nat) (B : Bs) (W : WX)
def tI (it : Sl.It) : TI := fun σ H R => ∃ Om env, RE G hot B Om env σ H ∧ match evi F it env with
  | .ok xs env' => ∀ J H', Keep (rt hot Om σ (mutsI it)) H H' → RE G hot B Om env' σ H' → Wk G Om H' J xs → R J H'
  | .exc c pl env' => ∀ cls d H', Keep Om H H' → RE G hot B Om env' σ H' → ExcRep G Om H' c pl cls d → W cls d σ H'
  | .stk => False
def tG (g : Sl.G) : TG := fun v σ H Q => ∃ Om env x, RE G hot B Om env σ H ∧ Rep G Om H x v ∧ match bindG g x env with
  | some env' => ∀ σ', RE G hot B Om env' σ' H → (∀ vs : List Nat, (∀ i ∈ slotsG g, i ∈ vs) → wipe σ' vs = wipe σ vs) → Q σ' H
  | none => False
def tGs (gs : Gs) : TGs := fun ws σ H Q => ∃ Om env xs, RE G hot B Om env σ H ∧ Reps G Om H xs ws ∧ match bindGs gs xs env with
  | some env' => ∀ σ', RE G hot B Om env' σ' H → (∀ vs : List Nat, (∀ i ∈ slotsGs gs, i ∈ vs) → wipe σ' vs = wipe σ vs) → Q σ' H
  | none => False
end
theorem PI.imp {X : Cx} {tg e : Expr} {t t' : TI} (h : PI X tg e t) (i : ∀ σ H R, t' σ H R → t σ H R) : PI X tg e t' := ⟨fun pins s σ H R I q => h.run pins s σ H R I (i σ H R q)⟩
theorem PG.imp {X : Cx} {e : Expr} {t t' : TG} (h : PG X e t) (i : ∀ v σ H Q, t' v σ H Q → t v σ H Q) : PG X e t' := ⟨fun pins s σ H v u Q I r q => h.run pins s σ H v u Q I r (i v σ H Q q)⟩
theorem PGs.imp {X : Cx} {es : List Expr} {t t' : TGs} (h : PGs X es t) (i : ∀ v σ H Q, t' v σ H Q → t v σ H Q) : PGs X es t' := ⟨fun pins s σ H v u Q I r q => h.run pins s σ H v u Q I r (i v σ H Q q)⟩
theorem getElem?_wipe {σ : L2.St} : ∀ {vs : List Nat} {j : Nat}, (wipe σ vs)[j]? = if j ∈ vs ∧ j < σ.length then some none else σ[j]?
  | [], j => by simp [wipe]
  | v :: vs, j => by
    unfold wipe
    by_cases h : j = v
    · subst h
      by_cases hl : j < σ.length
      · rw [List.getElem?_set_self (by rw [wipe_length]; exact hl)]
        simp [hl]
      · have h1 : ((wipe σ vs).set j none)[j]? = none := List.getElem?_eq_none (by rw [List.length_set, wipe_length]; omega)
        have h2 : σ[j]? = none := List.getElem?_eq_none (by omega)
        rw [h1, h2]
        simp [hl]
    · rw [List.getElem?_set_ne (Ne.symm h), getElem?_wipe (vs := vs)]
      simp [h]
theorem wipe_set {σ : L2.St} {i : Nat} {x : Option V} {vs : List Nat} (h : i ∈ vs) : wipe (σ.set i x) vs = wipe σ vs := by
  apply List.ext_getElem?
  intro j
  rw [getElem?_wipe, getElem?_wipe, List.length_set]
  by_cases hj : j ∈ vs ∧ j < σ.length
  · rw [if_pos hj, if_pos hj]
  · rw [if_neg hj, if_neg hj]
    by_cases e : j = i
    · subst e
      have hl : ¬ j < σ.length := fun z => hj ⟨h, z⟩
      rw [List.getElem?_eq_none (by rw [List.length_set]; omega), List.getElem?_eq_none (by omega)]
    · rw [List.getElem?_set_ne (Ne.symm e)]
section
variable {G : Gx} {F : Fn} {wn : Nat} {hot : List Nat} {B : Bs} {W : WX} {X : Cx} {a b c tg : Expr} {ia ib ic : E} {pos : Pos}
/-! ### targets -/
theorem pG_name {x : Str} (i : Nat) (nd : X.N.Nodup) (hN : X.N[i]? = some x) (hx : Loc X.env.scope x) (hi : i ∉ hot := by decide) (hf : X.fn x = true ∨ X.env.scope.names.lookup x = some .local := by first | exact .inl rfl | exact .inr rfl) : PG X (.Name x pos) (tG G hot B (.name i)) :=
  PG.imp (pg_name nd hN hx hf) fun v σ H Q ⟨Om, env, x, re, r, h⟩ => h _ (re.set hi r) fun vs hv => wipe_set (hv i (List.mem_singleton.mpr rfl))
theorem pGs_nil : PGs X [] (tGs G hot B .nil) := PGs.imp pgs_nil fun ws σ H Q ⟨Om, env, xs, re, r, h⟩ => by
  cases xs with
  | nil => exact ⟨r, h σ re fun _ _ => rfl⟩
  | cons x xs => exact h.elim
theorem pGs_cons {es : List Expr} {g : Sl.G} {gs : Gs} (h1 : PG X a (tG G hot B g)) (h2 : PGs X es (tGs G hot B gs)) (hs : (assignEach (a :: es) X.env).map (·.2) = assign a X.env :: (assignEach es X.env).map (·.2) := by rfl) : PGs X (a :: es) (tGs G hot B (.cons g gs)) := by
  refine PGs.imp (pgs_cons h1 h2 hs) fun ws σ H Q ⟨Om, env, xs, re, r, h⟩ => ?_
  cases xs with
  | nil => exact h.elim
  | cons x xs =>
    obtain ⟨w, ws', rfl, r1, r2⟩ := r
    refine ⟨w, ws', rfl, Om, env, x, re, r1, ?_⟩
    simp only [bindGs] at h
    cases e : bindG g x env with
    | none => rw [e] at h; exact h.elim
    | some env1 =>
      rw [e] at h
      intro σ1 re1 w1
      refine ⟨Om, env1, xs, re1, r2, ?_⟩
      simp only at h
      cases e2 : bindGs gs xs env1 with
      | none => rw [e2] at h; exact h.elim
      | some env2 =>
        rw [e2] at h
        exact fun σ2 re2 w2 => h σ2 re2 fun vs hv => (w2 vs fun i hi => hv i (List.mem_append_right _ hi)).trans (w1 vs fun i hi => hv i (List.mem_append_left _ hi))
def lenGs : Gs → Nat
  | .nil => 0
  | .cons _ r => lenGs r + 1
theorem lenGs_eq : ∀ {gs : Gs} {xs : List PV} {env env' : Env}, bindGs gs xs env = some env' → xs.length = lenGs gs
  | .nil, xs, env, env', h => by
    cases xs with
    | nil => rfl
    | cons x xs => cases h
  | .cons g r, xs, env, env', h => by
    cases xs with
    | nil => cases h
    | cons x xs =>
      simp only [bindGs] at h
      cases e : bindG g x env with
      | none => rw [e] at h; cases h
      | some env1 =>
        rw [e] at h
        rw [List.length_cons, lenGs_eq h]
        rfl
theorem pG_tup {es : List Expr} {k : Nat} {gs : Gs} (hK : X.K = G.K) (hc : X.calm = true) (h : PGs X es (tGs G hot B gs)) (hn : (assignEach es X.env).length = lenGs gs := by rfl) (hst : (assignEach es X.env).findIdx? (·.1) = none := by rfl) : PG X (.Tuple es k pos) (tG G hot B (.tup gs)) := by
  refine PG.imp (pg_tup hc h hn hst) fun v σ H Q ⟨Om, env, x, re, r, h⟩ => ?_
  cases x with
  | tup xs =>
    simp only [bindG] at h
    obtain ⟨p, ws, rfl, q, rs⟩ := r
    cases e : bindGs gs xs env with
    | none => rw [e] at h; exact h.elim
    | some env1 =>
      rw [e] at h
      refine ⟨p, ws, rfl, hK ▸ q, by rw [rs.length]; exact lenGs_eq e, Om, env, xs, re, rs, ?_⟩
      rw [e]
      exact h
  | _ => exact h.elim
/-! ### what is walked -/
theorem Ext.rep {Om Om' : Addr → Prop} {H H' : Hp} {x : PV} {v : V} (om : OmOk Om H) (e : Ext Om H Om' H') (r : Rep G Om H x v) : Rep G Om' H' x v := by
  have own : ∀ a o, H a = some o → Om' a → Om a := fun a o q z => (e.new a z).elim id fun n => by rw [q] at n; cases n
  have h1 : Rep G (fun a => Om a ∨ Om' a) H x v := Rep.own (fun a o q z => z.elim id (own a o q)) x v r
  exact Rep.own (fun _ _ _ z => .inr z) x v (Rep.keep e.keep om (fun _ z => .inl z) x v h1)
theorem Ext.reps {Om Om' : Addr → Prop} {H H' : Hp} {xs : List PV} {vs : List V} (om : OmOk Om H) (e : Ext Om H Om' H') (r : Reps G Om H xs vs) : Reps G Om' H' xs vs := by
  have own : ∀ a o, H a = some o → Om' a → Om a := fun a o q z => (e.new a z).elim id fun n => by rw [q] at n; cases n
  have h1 : Reps G (fun a => Om a ∨ Om' a) H xs vs := Reps.own (fun a o q z => z.elim id (own a o q)) xs vs r
  exact Reps.own (fun _ _ _ z => .inr z) xs vs (Reps.keep e.keep om (fun _ z => .inl z) xs vs h1)
theorem wk_list {Om : Addr → Prop} {H : Hp} {p : Addr} {xs : List PV} {vs : List V} (om : OmOk Om H) (hq : ∀ {Om' H'}, Ext Om H Om' H' → SqL X.K H' p vs) (r : Reps G Om H xs vs) : Wk G Om H (Itl X.K p) xs := by
  intro Om' H' e om' i
  have q := hq e
  have r' := e.reps om r
  refine ⟨fun x hx => ?_, fun hl => ⟨vs, q, by rw [r.length]; exact hl⟩⟩
  obtain ⟨v, hv, rv⟩ := r'.get hx
  refine ⟨⟨vs, v, q, hv⟩, fun u H'' ⟨e1, f⟩ => ?_⟩
  subst e1
  have := f vs q
  rw [hv] at this; cases this
  exact ⟨Keep.refl _, rv⟩
theorem wk_tup {Om : Addr → Prop} {H : Hp} {p : Addr} {xs : List PV} {vs : List V} (om : OmOk Om H) (hq : ∀ {Om' H'}, Ext Om H Om' H' → SqT X.K H' p vs) (r : Reps G Om H xs vs) : Wk G Om H (Itt X.K p) xs := by
  intro Om' H' e om' i
  have q := hq e
  have r' := e.reps om r
  refine ⟨fun x hx => ?_, fun hl => ⟨vs, q, by rw [r.length]; exact hl⟩⟩
  obtain ⟨v, hv, rv⟩ := r'.get hx
  refine ⟨⟨vs, v, q, hv⟩, fun u H'' ⟨e1, f⟩ => ?_⟩
  subst e1
  have := f vs q
  rw [hv] at this; cases this
  exact ⟨Keep.refl _, rv⟩
theorem Ext.sqT {Om Om' : Addr → Prop} {H H' : Hp} {K : PySem.W.Frag} {p : Addr} {vs : List V} (om : OmOk Om H) (e : Ext Om H Om' H') (q : SqT K H p vs) : SqT K H' p vs := by
  rcases q with q | q
  · refine .inl (Rd.keep e.keep (fun z => ?_) q)
    obtain ⟨o, e1, w⟩ := om p z
    rcases q with q | ⟨ob, q⟩ <;> rw [e1] at q <;> cases q <;> rcases w with ⟨_, q⟩ | ⟨_, q⟩ <;> cases q
  · exact .inr q
/-- a list or a tuple, as it comes -/
def iSeq (K : PySem.W.Frag) (tl : TE) : TI := fun σ H R => tl σ H fun x H1 => ∃ p xs, x = .ref p ∧ ((SqL K H1 p xs ∧ R (Itl K p) H1) ∨ (SqT K H1 p xs ∧ R (Itt K p) H1))
theorem pi_seq {l : Expr} {tl : TE} (hl : PE X l tl) : PI X tg l (iSeq X.K tl) := by
  refine ⟨fun pins s σ H R I h => ?_⟩
  refine thn (hl.run pins s σ H _ I h) fun v s1 ⟨x, H1, I1, r1, p, xs, e, q⟩ => ?_
  subst e
  cases r1
  rcases q with ⟨hq, q⟩ | ⟨hq, q⟩
  · obtain ⟨its, rv, pl, hz⟩ := I1.list hq
    refine wpAny_pyIter_list pl.isList ?_
    have ff : FpOk X pins H1 s1.heap.objs.size := I1.fpOk (Nat.le_refl _) (I1.hok.fresh (Nat.le_refl _))
    exact ⟨s1.heap.objs.size, [s1.heap.objs.size], _, _, H1, rfl, I1.kept (t' := s1.toks) fun b o e => Heap.get?_push_of_some _ e, turn_list p _, ⟨_, Heap.get?_push_size _ rfl, rfl, rfl⟩, fun b hb => by rw [List.mem_singleton.mp hb]; exact ff, q⟩
  · obtain ⟨its, rv, pl, hz⟩ := I1.tuple hq
    refine wpAny_pyIter_tuple (show s1.heap.IsTuple p its.toArray from pl) ?_
    have ff : FpOk X pins H1 s1.heap.objs.size := I1.fpOk (Nat.le_refl _) (I1.hok.fresh (Nat.le_refl _))
    exact ⟨s1.heap.objs.size, [s1.heap.objs.size], _, _, H1, rfl, I1.kept (t' := s1.toks) fun b o e => Heap.get?_push_of_some _ e, turn_tuple p _, ⟨_, Heap.get?_push_size _ rfl, rfl, rfl⟩, fun b hb => by rw [List.mem_singleton.mp hb]; exact ff, q⟩
/-- a list that nobody owns, or the law's own -/
theorem Ext.sqL {Om Om' : Addr → Prop} {H H' : Hp} {K : PySem.W.Frag} {p : Addr} {vs : List V} (n : ¬ Om p) (e : Ext Om H Om' H') (q : Rd H p (.lst vs)) : SqL K H' p vs := .inl (Rd.keep e.keep n q)
theorem Nl.ext {Om Om' : Addr → Prop} {H H' : Hp} {K : PySem.W.Frag} {p : Addr} {vs : List V} (n : Nl K Om H p vs) (e : Ext Om H Om' H') : SqL K H' p vs := n.elim (fun q => Ext.sqL q.2 e q.1) .inr
theorem tI_seq {i : E} {σ : L2.St} {H : Hp} {Rr : L2.It → Hp → Prop} (hK : X.K = G.K) (hp : disj (peeks i) hot = true) (h : tI G F hot B W (.seq i) σ H Rr) : iSeq X.K (tE G F hot B W i) σ H Rr := by
  obtain ⟨Om, env, re, h⟩ := h
  refine ⟨Om, env, re, ?_⟩
  simp only [evi] at h
  cases e1 : ev F i env with
  | stk => rw [e1] at h; exact h
  | exc c pl env1 => rw [e1] at h; exact h
  | ok x env1 =>
    rw [e1] at h
    simp only [R.bind] at h
    intro v H1 k re1 r _
    have r := r.of_cold hp
    cases x with
    | tup xs =>
      obtain ⟨p, vs, rfl, q, rs⟩ := r
      have q : SqT X.K H1 p vs := hK ▸ q
      exact ⟨p, vs, rfl, .inr ⟨q, h _ H1 k re1 (wk_tup re1.om (fun e => Ext.sqT re1.om e q) rs)⟩⟩
    | lst xs =>
      obtain ⟨p, vs, rfl, n, q, rs⟩ := r
      exact ⟨p, vs, rfl, .inl ⟨.inl (.inl q), h _ H1 k re1 (wk_list re1.om (fun e => Ext.sqL n e (.inl q)) rs)⟩⟩
    | scr xs =>
      obtain ⟨p, vs, rfl, n, rs⟩ := r
      have n : Nl X.K Om H1 p vs := hK ▸ n
      exact ⟨p, vs, rfl, .inl ⟨n.sq, h _ H1 k re1 (wk_list re1.om (fun e => n.ext e) rs)⟩⟩
    | _ => exact h.elim
theorem pI_seq (hK : X.K = G.K) (ha : PE X a (tE G F hot B W ia)) (hp : disj (peeks ia) hot = true := by rfl) : PI X tg a (tI G F hot B W (.seq ia)) := PI.imp (pi_seq ha) fun _ _ _ h => tI_seq hK hp h
/-! ### range -/
theorem rangeL_get : ∀ (n : Nat) (lo : Int) (i : Nat) (x : PV), (rangeL lo n)[i]? = some x → i < n ∧ x = .int (lo + i)
  | 0, lo, i, x, h => by simp [rangeL] at h
  | n + 1, lo, 0, x, h => by
    simp [rangeL] at h
    subst h
    exact ⟨by omega, by simp⟩
  | n + 1, lo, i + 1, x, h => by
    simp only [rangeL, List.getElem?_cons_succ] at h
    obtain ⟨h1, h2⟩ := rangeL_get n (lo + 1) i x h
    refine ⟨by omega, ?_⟩
    rw [h2]
    congr 1
    omega
theorem rangeL_len : ∀ (n : Nat) (lo : Int), (rangeL lo n).length = n
  | 0, _ => rfl
  | n + 1, lo => by simp [rangeL, rangeL_len n]
theorem wk_range {Om : Addr → Prop} {H : Hp} {lo : Int} {n : Nat} : Wk G Om H (Itr lo n) (rangeL lo n) := by
  intro Om' H' e om' i
  refine ⟨fun x hx => ?_, fun hl => by rw [rangeL_len] at hl; exact hl⟩
  obtain ⟨h1, h2⟩ := rangeL_get n lo i x hx
  refine ⟨h1, fun v H'' ⟨e1, e2⟩ => ?_⟩
  subst e1; subst h2; subst e2
  exact ⟨Keep.refl _, rfl⟩
theorem small_ok {i : Int} (h : small i = true) : -(2 ^ 62) ≤ i ∧ i < 2 ^ 62 := by
  have h := blt_lt h
  have : (1000000000000000000 : Int) < 2 ^ 62 := by decide
  omega
theorem tI_range1 {i : E} {σ : L2.St} {H : Hp} {Rr : L2.It → Hp → Prop} (h : tI G F hot B W (.range (.cons i .nil)) σ H Rr) : iRng1 (tEs G F hot B W (.cons i .nil)) σ H Rr := by
  obtain ⟨Om, env, re, h⟩ := h
  refine ⟨Om, env, re, ?_⟩
  simp only [evi] at h
  cases e1 : evs F (.cons i .nil) env with
  | stk => rw [e1] at h; exact h
  | exc c pl env1 => rw [e1] at h; exact h
  | ok xs env1 =>
    rw [e1] at h
    simp only [R.bind] at h
    intro vs H1 k re1 r
    cases e2 : rangeOf xs with
    | none => rw [e2] at h; exact h.elim
    | some ys =>
      rw [e2] at h
      have hx : ∃ n : Int, xs = [.int n] ∧ small n = true ∧ ys = rangeL 0 n.toNat := by
        simp only [evs] at e1
        cases q : ev F i env with
        | stk => rw [q] at e1; cases e1
        | exc c pl e => rw [q] at e1; cases e1
        | ok x e =>
          rw [q] at e1
          simp only [R.bind, R.ok.injEq] at e1
          obtain ⟨rfl, _⟩ := e1
          cases x <;> simp only [rangeOf] at e2 <;> first | (cases e2; done) | skip
          split at e2
          · rename_i n hc
            cases e2
            exact ⟨_, rfl, (Bool.and_eq_true_iff.mp hc).1, rfl⟩
          · cases e2
      obtain ⟨n, rfl, hs, rfl⟩ := hx
      obtain ⟨v, rfl, rv⟩ := r.one
      have rv : v = .int n := rv
      subst rv
      obtain ⟨h1, h2⟩ := small_ok hs
      exact ⟨n, rfl, h1, h2, h _ H1 k re1 wk_range⟩
theorem pI_range1 {p : Pos} (hg : Gl X "range") (hm : X.mg "range" = none) (ha : PE X a (tE G F hot B W ia)) (hs : starEach [a] X.env = [(false, eval a X.env)] := by rfl) : PI X tg (.Call (.Name "range" p) [a] [] pos) (tI G F hot B W (.range (.cons ia .nil))) :=
  PI.imp (pi_range1 hg hm (pAs_cons ha pAs_nil (List.all_eq_true.mpr fun _ _ => rfl) hs) hs) fun _ _ _ h => tI_range1 h
theorem rangeOf2 {x y : PV} {ys : List PV} (h : rangeOf [x, y] = some ys) : ∃ i j, x = .int i ∧ y = .int j ∧ small i = true ∧ small j = true ∧ ys = rangeL i (j - i).toNat := by
  cases x <;> cases y <;> simp only [rangeOf] at h <;> first | (cases h; done) | skip
  split at h
  · rename_i hc
    cases h
    simp only [Bool.and_eq_true] at hc
    exact ⟨_, _, rfl, rfl, hc.1.1, hc.1.2, rfl⟩
  · cases h
theorem tI_range2 {i j : E} {σ : L2.St} {H : Hp} {Rr : L2.It → Hp → Prop} (h : tI G F hot B W (.range (.cons i (.cons j .nil))) σ H Rr) : iRng2 (tEs G F hot B W (.cons i (.cons j .nil))) σ H Rr := by
  obtain ⟨Om, env, re, h⟩ := h
  refine ⟨Om, env, re, ?_⟩
  simp only [evi] at h
  cases e1 : evs F (.cons i (.cons j .nil)) env with
  | stk => rw [e1] at h; exact h
  | exc c pl env1 => rw [e1] at h; exact h
  | ok xs env1 =>
    rw [e1] at h
    simp only [R.bind] at h
    intro vs H1 k re1 r
    cases e2 : rangeOf xs with
    | none => rw [e2] at h; exact h.elim
    | some ys =>
      rw [e2] at h
      have hx : ∃ x y, xs = [x, y] := by
        simp only [evs] at e1
        cases q : ev F i env with
        | stk => rw [q] at e1; cases e1
        | exc c pl e => rw [q] at e1; cases e1
        | ok x e =>
          rw [q] at e1
          simp only [R.bind] at e1
          cases q2 : ev F j e with
          | stk => rw [q2] at e1; cases e1
          | exc c pl e => rw [q2] at e1; cases e1
          | ok y e' =>
            rw [q2] at e1
            simp only [R.ok.injEq] at e1
            exact ⟨x, y, e1.1.symm⟩
      obtain ⟨x, y, rfl⟩ := hx
      obtain ⟨m, n, rfl, rfl, s1, s2, rfl⟩ := rangeOf2 e2
      obtain ⟨v, w, rfl, rv, rw'⟩ := r.two
      have rv : v = .int m := rv
      have rw' : w = .int n := rw'
      subst rv; subst rw'
      obtain ⟨h1, h2⟩ := small_ok s1
      obtain ⟨h3, h4⟩ := small_ok s2
      exact ⟨m, n, rfl, ⟨h1, h2, h3, h4⟩, h _ H1 k re1 wk_range⟩
theorem pI_range2 {p : Pos} (hg : Gl X "range") (hm : X.mg "range" = none) (ha : PE X a (tE G F hot B W ia)) (hb : PE X b (tE G F hot B W ib)) (hd : disj (peeks ia) (mutss (.cons ib .nil)) = true := by rfl) (hs : starEach [a, b] X.env = [(false, eval a X.env), (false, eval b X.env)] := by rfl) (hs2 : starEach [b] X.env = [(false, eval b X.env)] := by rfl) :
    PI X tg (.Call (.Name "range" p) [a, b] [] pos) (tI G F hot B W (.range (.cons ia (.cons ib .nil)))) :=
  PI.imp (pi_range2 hg hm (pAs_cons ha (pAs_cons hb pAs_nil (List.all_eq_true.mpr fun _ _ => rfl) hs2) hd (by rw [hs, hs2])) hs hs2) fun _ _ _ h => tI_range2 h
/-! ### for -/
theorem tS_for {g : Sl.G} {it : Sl.It} {p : Ss} {D : Ends} {σ : L2.St} {H : Hp} (h : tS G F wn hot B W (.for_ g it p) D σ H) : tFor (tI G F hot B W it) (tG G hot B g) (tSs G F wn hot B W p) D σ H := by
  obtain ⟨Om, env, re, h⟩ := h
  simp only [ex] at h
  refine ⟨Om, env, re, ?_⟩
  cases e1 : evi F it env with
  | stk => rw [e1] at h; exact h
  | exc c pl env1 =>
    rw [e1] at h
    exact fun cls d H' k' re' er => h Om cls d σ H' re' ⟨k', fun _ z => .inl z⟩ er
  | ok xs env1 =>
    rw [e1] at h
    simp only [R.bind] at h
    intro J H1 k1 re1 wk
    have h := Pst.back (keepExt k1) h
    refine ⟨fun i m σ H => m = xs.length - i ∧ ∃ Om' env, RE G hot B Om' env σ H ∧ Ext Om H1 Om' H ∧ Pst G hot B W D Om' H (forLoop (bindG g) (exs F wn p) (xs.drop i) env), ⟨xs.length, by simp, Om, env1, re1, Ext.refl, h⟩, ?_⟩
    rintro i m σ H ⟨rfl, Om2, env2, re2, x2, h⟩
    obtain ⟨w1, w2⟩ := wk Om2 H x2 re2.om i
    by_cases hl : i < xs.length
    · have hx : xs[i]? = some xs[i] := List.getElem?_eq_getElem hl
      obtain ⟨go, yl⟩ := w1 _ hx
      rw [List.drop_eq_getElem_cons hl] at h
      simp only [forLoop] at h
      refine .inr ⟨go, fun σ' H' => ∃ Om' env, RE G hot B Om' env σ' H' ∧ Ext Om H1 Om' H' ∧ Pst G hot B W D Om' H' (forLoop (bindG g) (exs F wn p) (xs.drop (i + 1)) env), fun σ' H' z => ⟨xs.length - (i + 1), by omega, rfl, z⟩, fun v H' hy => ?_⟩
      obtain ⟨k3, r3⟩ := yl v H' hy
      refine ⟨Om2, env2, xs[i], re2.keep k3, r3, ?_⟩
      cases e2 : bindG g xs[i] env2 with
      | none => rw [e2] at h; exact h.elim
      | some env3 =>
        rw [e2] at h
        intro σ3 re3 _
        refine ⟨Om2, env3, re3, ?_⟩
        have x3 : Ext Om2 H Om2 H' := ⟨k3.mono fun _ z => z.elim, fun _ z => .inl z⟩
        have h := Pst.back x3 h
        simp only at h
        cases e3 : exs F wn p env3 with
        | stk => rw [e3] at h; exact h
        | exc c pl env4 => rw [e3] at h; exact h
        | ok f env4 =>
          rw [e3] at h
          cases f with
          | next => exact fun Om' σ' H2 re' x' => ⟨Om', env4, re', (x2.trans x3).trans x', Pst.back x' h⟩
          | cont => exact fun Om' σ' H2 re' x' => ⟨Om', env4, re', (x2.trans x3).trans x', Pst.back x' h⟩
          | ret y => exact h
    · rw [List.drop_eq_nil_of_le (by omega)] at h
      exact .inl ⟨w2 (by omega), h Om2 σ H re2 Ext.refl⟩
theorem pS_for {iter : Expr} {body : List Stmt} {g : Sl.G} {it : Sl.It} {p : Ss} (hp : PassesOwn (model X.prog X.w) X.A X.env X.xe) (hc : X.calm = true) (hi : PI X tg iter (tI G F hot B W it)) (hg : PG X tg (tG G hot B g)) (hb : PSs X body (tSs G F wn hot B W p))
    (hs : ∀ x, foldedSetIterable iter X.env x = pure x := by intro _; rfl) : PS X (.For tg iter body [] pos) (tS G F wn hot B W (.for_ g it p)) := PS.imp (ps_for hp hc hi hg hb hs) fun _ _ _ h => tS_for h
end
end Sl

/-! Ev13: list comprehensions. -/
namespace Sl
open PySem PySem.Spec PyProof.Rows L2
abbrev WF : WX := fun _ _ _ _ => False
theorem getE_wipe : ∀ {own : List Nat} {env : Env} {i : Nat}, getE (wipeE env own) i = if i ∈ own then none else getE env i
  | [], env, i => by simp [wipeE]
  | j :: own, env, i => by
    simp only [wipeE, getE_setE]
    by_cases h : i = j
    · subst h
      simp
    · rw [if_neg h, getE_wipe (own := own)]
      simp [h]
theorem len_wipe : ∀ {own : List Nat} {env : Env}, (wipeE env own).length = env.length
  | [], _ => rfl
  | j :: own, env => by simp only [wipeE, len_setE]; exact len_wipe
theorem len_back {old : Env} : ∀ {own : List Nat} {env : Env}, (backE old env own).length = env.length
  | [], _ => rfl
  | j :: own, env => by simp only [backE, len_setE]; exact len_back
theorem getE_none {env : Env} {i : Nat} (h : env.length ≤ i) : getE env i = none := by
  cases e : getE env i with
  | none => rfl
  | some x => exact absurd (getE_lt e) (by omega)
theorem getE_back {old : Env} : ∀ {own : List Nat} {env : Env} {i : Nat}, old.length = env.length → getE (backE old env own) i = if i ∈ own then getE old i else getE env i
  | [], env, i, _ => by simp [backE]
  | j :: own, env, i, hl => by
    simp only [backE, getE_setE]
    by_cases h : i = j
    · subst h
      rw [if_pos rfl, len_back]
      by_cases hi : i < env.length
      · rw [if_pos hi]; simp
      · rw [if_neg hi, getE_none (env := old) (by omega)]
        simp
    · rw [if_neg h, getE_back (own := own) hl]
      simp [h]
section
variable {G : Gx} {F : Fn} {wn : Nat} {hot : List Nat} {B : Bs} {W : WX} {X : Cx} {a b c tg : Expr} {ia ib ic : E} {pos : Pos}
theorem wipe_hot {σ : L2.St} {own : List Nat} {i : Nat} (h : i ∉ own) : (wipe σ own)[i]? = σ[i]? := by rw [getElem?_wipe, if_neg fun z => h z.1]
theorem RE.wipe {Om : Addr → Prop} {env : Env} {σ : L2.St} {H : Hp} {own : List Nat} (ho : ∀ i ∈ hot, i ∉ own) (h : RE G hot B Om env σ H) : RE G hot B Om (wipeE env own) (L2.wipe σ own) H := by
  have gn : ∀ {i : Nat} {x : PV}, getE (wipeE env own) i = some x → i ∉ own ∧ getE env i = some x := fun {i x} e => by
    rw [getE_wipe] at e
    split at e
    · cases e
    · rename_i q; exact ⟨q, e⟩
  refine ⟨by rw [wipe_length, len_wipe]; exact h.len, h.om, fun i x e n q => ?_, fun i x e hi => ?_, fun i v hi e => ?_, fun i j p h1 h2 e1 e2 => ?_, fun i c pl e => ?_, h.base, h.kept, h.new, h.wtr, h.bom, h.wio, fun p hp => ?_⟩
  · obtain ⟨h1, h2⟩ := gn e
    rw [wipe_hot h1]
    exact h.cold i x h2 n q
  · obtain ⟨h1, h2⟩ := gn e
    rw [wipe_hot h1]
    exact h.root i x h2 hi
  · rw [wipe_hot (ho i hi)] at e
    rw [getE_wipe, if_neg (ho i hi)]
    exact h.live i v hi e
  · rw [wipe_hot (ho i h1)] at e1
    rw [wipe_hot (ho j h2)] at e2
    exact h.inj i j p h1 h2 e1 e2
  · obtain ⟨h1, h2⟩ := gn e
    rw [wipe_hot h1]
    exact h.exn i c pl h2
  · obtain ⟨h1, h2⟩ := h.io p hp
    exact ⟨h1, by rw [wipe_hot (ho _ h1)]; exact h2⟩
/-- the own names of a block as they were -/
theorem RE.back {Om : Addr → Prop} {env env1 : Env} {σ : L2.St} {H H1 : Hp} {own : List Nat} {W1 : Addr → Prop} (ho : ∀ i ∈ hot, i ∉ own) (h1 : RE G hot B Om env1 σ H1) (k : Keep W1 H1 H) (hw : ∀ a, W1 a → Om a) (h : RE G hot B Om (wipeE env own) (L2.wipe σ own) H) : RE G hot B Om (backE env1 env own) σ H := by
  have hl : env1.length = env.length := by
    have e1 := h1.len
    have e2 := h.len
    rw [wipe_length, len_wipe] at e2
    omega
  have ge : ∀ {i : Nat}, getE (backE env1 env own) i = if i ∈ own then getE env1 i else getE env i := getE_back hl
  have gw : ∀ {i : Nat}, i ∉ own → getE (wipeE env own) i = getE env i := fun n => by rw [getE_wipe, if_neg n]
  have hwo : ∀ b, W1 b → ∃ o, H1 b = some o ∧ Own1 o := fun b z => h1.om b (hw b z)
  refine ⟨by rw [len_back]; rw [← hl]; exact h1.len, h.om, fun i x e n q => ?_, fun i x e hi => ?_, fun i v hi e => ?_, h1.inj, fun i c pl e => ?_, h.base, h.kept, h.new, h.wtr, h.bom, h.wio, h1.io⟩
  · rw [ge] at e
    split at e
    · obtain ⟨v, e1, r⟩ := h1.cold i x e n q
      exact ⟨v, e1, Rep.keep k hwo hw x v r⟩
    · rename_i ni
      rw [← gw ni] at e
      rw [← wipe_hot (σ := σ) ni]
      exact h.cold i x e n q
  · have ni := ho i hi
    rw [ge, if_neg ni, ← gw ni] at e
    rw [← wipe_hot (σ := σ) ni]
    exact h.root i x e hi
  · have ni := ho i hi
    rw [← wipe_hot (σ := σ) ni] at e
    rw [ge, if_neg ni, ← gw ni]
    exact h.live i v hi e
  · rw [ge] at e
    split at e
    · obtain ⟨a, cls, d, e1, e2, r⟩ := h1.exn i c pl e
      exact ⟨a, cls, d, e1, e2, r.keep k hwo hw⟩
    · rename_i ni
      rw [← gw ni] at e
      rw [← wipe_hot (σ := σ) ni]
      exact h.exn i c pl e
theorem pTs_nil : PTs X [] (tTt G F hot B WF (.cst (.bl true))) := ⟨fun pins s σ H Q I ⟨Om, env, re, h⟩ => pts_nil.run pins s σ H Q I (by
  obtain ⟨b, e, h⟩ := h
  cases e
  exact h H (Keep.refl H) re)⟩
theorem pTs_one (h : PT X c (tTt G F hot B WF ic)) : PTs X [c] (tTt G F hot B WF ic) := pts_one h
/-- slots but a block's own stand: the roots are the same -/
theorem rt_same {Om Om' : Addr → Prop} {σ σ2 : L2.St} {ps : List Nat} {own : List Nat} (ho : ∀ i ∈ hot, i ∉ own) (hw : L2.wipe σ2 own = L2.wipe σ own) {p : Addr} (hO : ∀ i q, i ∈ hot → σ[i]? = some (some (.ref q)) → Om q) (h : rt hot Om' σ2 ps p) : rt hot Om σ ps p := by
  obtain ⟨_, i, h1, h2, h3⟩ := h
  rw [← wipe_hot (ho i h2), hw, wipe_hot (ho i h2)] at h3
  exact ⟨hO i p h2 h3, i, h1, h2, h3⟩
theorem tE_lc {own : List Nat} {g : Sl.G} {it : Sl.It} {ci ei : E} {σ : L2.St} {H : Hp} {Q : VK} (ho : ∀ i ∈ hot, i ∉ own) (hg : ∀ i ∈ slotsG g, i ∈ own) (hp : disj (peeks ei) (muts ci ++ muts ei) = true) (h : tE G F hot B W (.lc own g it ci ei) σ H Q) :
    tLc (tI G F hot B W it) (tG G hot B g) (tTt G F hot B WF ci) (tE G F hot B WF ei) own σ H Q := by
  obtain ⟨Om, env, re, h⟩ := h
  simp only [ev] at h
  refine ⟨Om, env, re, ?_⟩
  cases e1 : evi F it env with
  | stk => rw [e1] at h; exact h
  | exc c pl env1 => rw [e1] at h; exact h
  | ok xs env1 =>
    rw [e1] at h
    simp only [R.bind] at h
    intro J H1 k1 re1 wk D hD
    have nD : ¬ Om D := fun z => by
      obtain ⟨_, e, _⟩ := re1.om D z
      rw [hD] at e; cases e
    have reD : RE G hot B (fun p => Om p ∨ p = D) env1 σ (upd H1 D (.lst [])) := re1.adopt (keep_new hD) hD ⟨_, upd_same, .inl ⟨_, rfl⟩⟩
    have slot : ∀ i q, i ∈ hot → σ[i]? = some (some (.ref q)) → Om q := fun i q h1 h2 => by
      obtain ⟨x, e⟩ := re1.live i _ h1 h2
      obtain ⟨b', e2, ob, _⟩ := re1.root i x e h1
      rw [h2] at e2; cases e2; exact ob
    have xD : ∀ {H' : Hp}, Keep (fun p => rt hot Om σ (muts ci ++ muts ei) p ∨ p = D) (upd H1 D (.lst [])) H' → Ext Om H1 (fun p => Om p ∨ p = D) H' := fun k => ⟨fun p o e n => k p o (by rw [upd_ne (ne_of_none e hD)]; exact e) (fun z => z.elim (fun z => n z.1) fun z => by rw [z, hD] at e; cases e), fun p z => z.elim .inl fun z => .inr (by rw [z]; exact hD)⟩
    have nfr : ∀ {ps : List Nat}, ¬ rt hot (fun p => Om p ∨ p = D) σ ps D := fun ⟨_, i, _, h2, h3⟩ => nD (slot i D h2 h3)
    -- what the rest of the loop comes to
    let Cd : R (List PV) → Prop := fun r => match r with
      | .ok ys env' => ∀ v H', Keep (rt hot Om σ (muts (.lc own g it ci ei))) H H' → RE G hot B Om (backE env1 env' own) σ H' → Rep G (cutO Om (rt hot Om σ (peeks ei))) H' (.lst ys) v → (freshE G.fr (.lc own g it ci ei) = true → NewE G hot B Om (backE env1 env' own) σ H H' (.lst ys) v) → Q v H'
      | _ => False
    have hC : Cd (compLoop own (bindG g) (ev F ci) (ev F ei) [] xs env1) := by
      show match compLoop own (bindG g) (ev F ci) (ev F ei) [] xs env1 with
        | .ok ys env' => _
        | _ => False
      cases e2 : compLoop own (bindG g) (ev F ci) (ev F ei) [] xs env1 with
      | stk => rw [e2] at h; exact h
      | exc c pl env2 => rw [e2] at h; exact h
      | ok ys env2 => rw [e2] at h; exact h
    refine ⟨fun i m H' => m = xs.length - i ∧ ∃ env acc vs, RE G hot B (fun p => Om p ∨ p = D) (wipeE env own) (L2.wipe σ own) H' ∧ Keep (fun p => rt hot Om σ (muts ci ++ muts ei) p ∨ p = D) (upd H1 D (.lst [])) H' ∧ H' D = some (.lst vs) ∧
      Reps G (cutO (fun p => Om p ∨ p = D) (rt hot Om σ (peeks ei))) H' acc vs ∧ Cd (compLoop own (bindG g) (ev F ci) (ev F ei) acc (xs.drop i) env), ⟨xs.length, by simp, env1, [], [], reD.wipe ho, Keep.refl _, upd_same, rfl, hC⟩, ?_⟩
    rintro i m H2 ⟨rfl, env2, acc, vs, re2, k2, hDv, rs, hC2⟩
    obtain ⟨w1, w2⟩ := wk _ H2 (xD k2) re2.om i
    by_cases hl : i < xs.length
    · have hx : xs[i]? = some xs[i] := List.getElem?_eq_getElem hl
      obtain ⟨go, yl⟩ := w1 _ hx
      rw [List.drop_eq_getElem_cons hl] at hC2
      simp only [compLoop] at hC2
      refine .inr ⟨go, fun H' => ∃ env acc vs, RE G hot B (fun p => Om p ∨ p = D) (wipeE env own) (L2.wipe σ own) H' ∧ Keep (fun p => rt hot Om σ (muts ci ++ muts ei) p ∨ p = D) (upd H1 D (.lst [])) H' ∧ H' D = some (.lst vs) ∧
        Reps G (cutO (fun p => Om p ∨ p = D) (rt hot Om σ (peeks ei))) H' acc vs ∧ Cd (compLoop own (bindG g) (ev F ci) (ev F ei) acc (xs.drop (i + 1)) env), fun H' z => ⟨xs.length - (i + 1), by omega, rfl, z⟩, fun v H3 hy => ?_⟩
      obtain ⟨k3, r3⟩ := yl v H3 hy
      refine ⟨_, wipeE env2 own, xs[i], re2.keep k3, r3, ?_⟩
      cases e2 : bindG g xs[i] (wipeE env2 own) with
      | none => rw [e2] at hC2; exact hC2.elim
      | some env3 =>
        rw [e2] at hC2
        simp only at hC2
        intro σ3 re3 ws3
        have hws : L2.wipe σ3 own = L2.wipe σ own := (ws3 own hg).trans (by
          apply List.ext_getElem?
          intro j
          rw [getElem?_wipe, getElem?_wipe, wipe_length]
          by_cases q : j ∈ own ∧ j < σ.length
          · rw [if_pos q, if_pos q]
          · rw [if_neg q, if_neg q])
        refine ⟨hws, _, env3, re3, ?_⟩
        have rs3 := Reps.keep k3 hw0 (fun _ z => z.elim) acc vs rs
        have hD3 : H3 D = some (.lst vs) := k3 D _ hDv fun z => z.elim
        have kk3 := Keep.trans k2 k3 (V := fun p => rt hot Om σ (muts ci ++ muts ei) p ∨ p = D) (fun _ z => z) fun _ z => z.elim
        -- through an expression of the block
        have thru : ∀ {ms : List Nat} {H4 : Hp}, (∀ j ∈ ms, j ∈ muts ci ++ muts ei) → ∀ {H3' : Hp}, Keep (rt hot (fun p => Om p ∨ p = D) σ3 ms) H3' H4 → OmOk (fun p => Om p ∨ p = D) H3' → Keep (fun p => rt hot Om σ (muts ci ++ muts ei) p ∨ p = D) (upd H1 D (.lst [])) H3' → H3' D = some (.lst vs) → Reps G (cutO (fun p => Om p ∨ p = D) (rt hot Om σ (peeks ei))) H3' acc vs →
            Keep (fun p => rt hot Om σ (muts ci ++ muts ei) p ∨ p = D) (upd H1 D (.lst [])) H4 ∧ H4 D = some (.lst vs) ∧ Reps G (cutO (fun p => Om p ∨ p = D) (rt hot Om σ (peeks ei))) H4 acc vs := fun {ms H4} hm {H3'} k4 om4 kk hDD rr => by
          have hsub : ∀ p, rt hot (fun p => Om p ∨ p = D) σ3 ms p → rt hot Om σ (muts ci ++ muts ei) p := fun p z => rt_mono hm (rt_same ho hws slot z)
          refine ⟨Keep.trans kk k4 (fun _ z => z) fun p z => .inl (hsub p z), k4 D _ hDD fun z => nD (hsub D z).1, Reps.keep k4 (fun p z => om4 p z.1) (fun p z => ⟨z.1, fun w => ?_⟩) acc vs rr⟩
          obtain ⟨_, j1, a1, a2, a3⟩ := hsub p z
          obtain ⟨_, j2, b1, b2, b3⟩ := w
          have := re1.inj j1 j2 p a2 b2 a3 b3
          subst this
          exact disj_ne hp b1 a1
        cases e3 : ev F ci env3 with
        | stk => rw [e3] at hC2; exact hC2.elim
        | exc c pl env4 => rw [e3] at hC2; exact hC2.elim
        | ok t env4 =>
          rw [e3] at hC2
          simp only [R.bind] at hC2
          cases e4 : truth t with
          | none => rw [e4] at hC2; exact hC2.elim
          | some bb =>
            rw [e4] at hC2
            refine ⟨bb, e4, fun H4 k4 re4 => ?_⟩
            obtain ⟨kk4, hD4, rs4⟩ := thru (fun j q => List.mem_append_left _ q) k4 re3.om kk3 hD3 rs3
            cases bb with
            | false =>
              simp only [Bool.false_eq_true, if_false]
              exact ⟨env4, acc, vs, by rw [← hws]; exact re4.wipe ho, kk4, hD4, rs4, hC2⟩
            | true =>
              simp only [if_true]
              refine ⟨_, env4, re4, ?_⟩
              simp only at hC2
              cases e5 : ev F ei env4 with
              | stk => rw [e5] at hC2; exact hC2.elim
              | exc c pl env5 => rw [e5] at hC2; exact hC2.elim
              | ok y env5 =>
                rw [e5] at hC2
                simp only [R.bind] at hC2
                intro u H5 k5 re5 r5 _
                obtain ⟨kk5, hD5, rs5⟩ := thru (fun j q => List.mem_append_right _ q) k5 re4.om kk4 hD4 rs4
                cases hs : short acc with
                | false => simp only [hs, Bool.false_eq_true, if_false] at hC2; exact hC2.elim
                | true =>
                  simp only [hs, if_true] at hC2
                  have hz := short_lt hs
                  have hc := cap_line
                  refine ⟨vs, hD5, by rw [rs5.length]; omega, ?_⟩
                  have r5' : Rep G (cutO (fun p => Om p ∨ p = D) (rt hot Om σ (peeks ei))) H5 y u := r5.cut fun p z => rt_same ho hws slot z
                  have nB : B.H D = none := keepB re1 hD
                  have k6 : Keep (fun p => p = D) H5 (upd H5 D (.lst (vs ++ [u]))) := keep_upd
                  have om5 : ∀ p, (fun p => p = D) p → (fun p => Om p ∨ p = D) p := fun p z => .inr z
                  have re6 : RE G hot B (fun p => Om p ∨ p = D) env5 σ3 (upd H5 D (.lst (vs ++ [u]))) := by
                    refine re5.step (W := fun p => p = D) k6 om5 (fun p z => .inr (by rw [show p = D from z]; exact nB)) (fun _ z => z) (fun _ z => .inl z) (om_upd re5.om (.inl ⟨_, rfl⟩)) re5.new (fun _ _ => rfl) rfl (fun j x hx hj => ?_) fun j x hj hx => ⟨x, hx⟩
                    obtain ⟨p, e6, o6, w6, r6⟩ := re5.root j x hx hj
                    have np : ¬ p = D := fun e => by
                      rw [← wipe_hot (ho j hj), hws, wipe_hot (ho j hj)] at e6
                      exact nD (by rw [← e]; exact slot j p hj e6)
                    exact ⟨p, e6, o6, w6, Root.keepW k6 (fun q z => re5.om q (.inr z)) om5 np r6⟩
                  refine ⟨env5, acc ++ [y], vs ++ [u], by rw [← hws]; exact re6.wipe ho, Keep.trans kk5 k6 (fun _ z => z) fun _ z => .inr z, upd_same, ?_, hC2⟩
                  have nrt : ∀ p, (fun p => p = D) p → cutO (fun p => Om p ∨ p = D) (rt hot Om σ (peeks ei)) p := fun p z => ⟨.inr z, fun w => by rw [show p = D from z] at w; exact nD w.1⟩
                  exact (Reps.keep k6 (fun q z => re5.om q (.inr z)) nrt acc vs rs5).append (Reps.cons (Rep.keep k6 (fun q z => re5.om q (.inr z)) nrt y u r5') Reps.nil)
    · rw [List.drop_eq_nil_of_le (by omega)] at hC2
      refine .inl ⟨w2 (by omega), ?_⟩
      have reB : RE G hot B (fun p => Om p ∨ p = D) (backE env1 env2 own) σ H2 := RE.back ho reD k2 (fun p z => z.elim (fun z => .inl z.1) .inr) re2
      have hr : ∀ p, cutO Om (rt hot Om σ (peeks ei)) p → cutO (fun p => Om p ∨ p = D) (rt hot Om σ (peeks ei)) p := fun p z => ⟨.inl z.1, z.2⟩
      refine hC2 (.ref D) H2 ?_ (reB.shrink (fun _ z => .inl z) (fun p z => re2.om p (.inl z)) (fun j x p h1 _ h3 => slot j p h1 h3) re1.base) ⟨D, vs, rfl, fun z => nD z.1, hDv, Reps.own (fun p _ _ z => hr p z) acc vs rs⟩ fun _ => ⟨D, rfl, keep_none re1.om k1 hD, reB⟩
      intro p o e n
      have q1 : H1 p = some o := k1 p o e fun z => n (rt_mono (fun j q => List.mem_append_left _ q) z)
      have np : ¬ p = D := fun z => by rw [z, hD] at q1; cases q1
      exact k2 p o (by rw [upd_ne np]; exact q1) fun z => z.elim (fun z => n (rt_mono (fun j q => List.mem_append_right _ q) z)) np

section
variable {elt iter : Expr} {ifs : List Expr} {scope : Scope} {g : Sl.G} {it : Sl.It} {ci ei : E}
theorem pE_lc (own : List (Str × Nat)) (hc : X.calm = true) (nd : X.N.Nodup) (hi : PI X tg iter (tI G F hot B W it)) (ok : BlkOk X.N X.env.scope scope own)
    (hg : ∀ (s : Shared) (H : Hp) (C : Addr) (cl : List (Str × Addr)) (fp : List Addr), PG (X.blk s H scope (compEnvC scope cl C X.env) fp) tg (tG G hot B g)) (ht : ∀ (s : Shared) (H : Hp) (C : Addr) (cl : List (Str × Addr)) (fp : List Addr), PTs (X.blk s H scope (compEnvC scope cl C X.env) fp) ifs (tTt G F hot B WF ci))
    (he : ∀ (s : Shared) (H : Hp) (C : Addr) (cl : List (Str × Addr)) (fp : List Addr), PE (X.blk s H scope (compEnvC scope cl C X.env) fp) elt (tE G F hot B WF ei)) (ho : ∀ i ∈ hot, i ∉ own.map (·.2) := by decide) (hsl : ∀ i ∈ slotsG g, i ∈ own.map (·.2) := by decide) (hp : disj (peeks ei) (muts ci ++ muts ei) = true := by rfl)
    (hs : ∀ x, foldedSetIterable iter X.env x = pure x := by intro _; rfl) : PE X (.ListComp elt [⟨tg, iter, ifs, 0⟩] scope pos) (tE G F hot B W (.lc (own.map (·.2)) g it ci ei)) :=
  PE.imp (pe_lc hc nd hi ok hg ht he hs) fun _ _ _ h => tE_lc ho hsl hp h
theorem pS_setLc {y : Str} {py spos : Pos} (i : Nat) (own : List (Str × Nat)) (hc : X.calm = true) (nd : X.N.Nodup) (hy : X.N[i]? = some y) (hyl : X.env.scope.names.lookup y = some .local) (hsw : swapsWith (.ListComp elt [⟨tg, iter, ifs, 0⟩] scope pos) (some (.Name y py)) spos.line X.env = pure true)
    (hi : PI X tg iter (tI G F hot B W it)) (ok : BlkOk X.N X.env.scope scope own)
    (hg : ∀ (s : Shared) (H : Hp) (C : Addr) (cl : List (Str × Addr)) (fp : List Addr), PG (X.blk s H scope (compEnvC scope cl C X.env) fp) tg (tG G hot B g)) (ht : ∀ (s : Shared) (H : Hp) (C : Addr) (cl : List (Str × Addr)) (fp : List Addr), PTs (X.blk s H scope (compEnvC scope cl C X.env) fp) ifs (tTt G F hot B WF ci))
    (he : ∀ (s : Shared) (H : Hp) (C : Addr) (cl : List (Str × Addr)) (fp : List Addr), PE (X.blk s H scope (compEnvC scope cl C X.env) fp) elt (tE G F hot B WF ei)) (hiy : i ∉ hot := by decide) (hpk : disj (peeks ei) hot = true := by rfl) (ho : ∀ i ∈ hot, i ∉ own.map (·.2) := by decide) (hsl : ∀ i ∈ slotsG g, i ∈ own.map (·.2) := by decide) (hp : disj (peeks ei) (muts ci ++ muts ei) = true := by rfl)
    (hs : ∀ x, foldedSetIterable iter X.env x = pure x := by intro _; rfl) : PS X (.Assign [.Name y py] (.ListComp elt [⟨tg, iter, ifs, 0⟩] scope pos) spos) (tS G F wn hot B W (.asg (.name i) (.lc (own.map (·.2)) g it ci ei))) :=
  PS.imp (ps_setLc hc nd hy hyl hsw hi ok hg ht he hs) fun _ _ _ h => tE_lc ho hsl hp (tS_set hiy hpk h)
theorem pS_newLc {y : Str} {py spos : Pos} (i : Nat) (own : List (Str × Nat)) (hc : X.calm = true) (nd : X.N.Nodup) (hio : Away B i) (hy : X.N[i]? = some y) (hyl : X.env.scope.names.lookup y = some .local) (hsw : swapsWith (.ListComp elt [⟨tg, iter, ifs, 0⟩] scope pos) (some (.Name y py)) spos.line X.env = pure true)
    (hi : PI X tg iter (tI G F hot B W it)) (ok : BlkOk X.N X.env.scope scope own)
    (hg : ∀ (s : Shared) (H : Hp) (C : Addr) (cl : List (Str × Addr)) (fp : List Addr), PG (X.blk s H scope (compEnvC scope cl C X.env) fp) tg (tG G hot B g)) (ht : ∀ (s : Shared) (H : Hp) (C : Addr) (cl : List (Str × Addr)) (fp : List Addr), PTs (X.blk s H scope (compEnvC scope cl C X.env) fp) ifs (tTt G F hot B WF ci))
    (he : ∀ (s : Shared) (H : Hp) (C : Addr) (cl : List (Str × Addr)) (fp : List Addr), PE (X.blk s H scope (compEnvC scope cl C X.env) fp) elt (tE G F hot B WF ei)) (hiy : i ∈ hot := by decide) (ho : ∀ i ∈ hot, i ∉ own.map (·.2) := by decide) (hsl : ∀ i ∈ slotsG g, i ∈ own.map (·.2) := by decide) (hp : disj (peeks ei) (muts ci ++ muts ei) = true := by rfl)
    (hs : ∀ x, foldedSetIterable iter X.env x = pure x := by intro _; rfl) : PS X (.Assign [.Name y py] (.ListComp elt [⟨tg, iter, ifs, 0⟩] scope pos) spos) (tS G F wn hot B W (.asg (.new i) (.lc (own.map (·.2)) g it ci ei))) :=
  PS.imp (ps_setLc hc nd hy hyl hsw hi ok hg ht he hs) fun _ _ _ h => tE_lc ho hsl hp (tS_new hiy hio rfl h)
end
theorem Sx.blk (sx : Sx X G W) {s : Shared} {H : Hp} {scope : Scope} {cenv : PySem.Env} {fp : List Addr} : Sx (X.blk s H scope cenv fp) G WF := ⟨sx.K, sx.w, sx.un, sx.nd, takes0⟩
end
end Sl

/-! Ev14: a def keeps what the evaluator tells. -/
namespace Sl
open PySem PySem.Spec PyProof.Rows L2
theorem getE_app : ∀ {pvs : List PV} {k i : Nat}, getE (pvs.map some ++ List.replicate k none) i = pvs[i]?
  | [], 0, i => by simp [getE]
  | [], k + 1, 0 => by simp [getE, List.replicate_succ]
  | [], k + 1, i + 1 => by
    have := getE_app (pvs := []) (k := k) (i := i)
    simpa [getE, List.replicate_succ] using this
  | x :: pvs, k, 0 => by simp [getE]
  | x :: pvs, k, i + 1 => by
    have := getE_app (pvs := pvs) (k := k) (i := i)
    simpa [getE] using this
theorem start_get {N : List Str} {vs : List V} {i : Nat} {v : V} : (L2.start N vs)[i]? = some (some v) ↔ vs[i]? = some v := by
  unfold L2.start
  by_cases h : i < vs.length
  · rw [List.getElem?_append_left (by simpa using h), List.getElem?_map]
    cases e : vs[i]? with
    | none => simp
    | some x => simp
  · rw [List.getElem?_append_right (by simpa using h), List.getElem?_replicate, List.getElem?_eq_none (by omega : vs.length ≤ i)]
    split <;> simp
def ioB (io : Option Nat) (vs : List V) : List (Nat × Addr) := match io with
  | none => []
  | some p => match vs[p]? with
    | some (.ref a) => [(p, a)]
    | _ => []
def ioL (io : Option Nat) : List Nat := match io with
  | none => []
  | some p => [p]
/-- the hot slots among the parameters are those that are written -/
def hotOk (hot : List Nat) (io : Option Nat) (n : Nat) : Bool := (hot.all fun i => !Nat.blt i n || (match io with | some p => Nat.beq p i | none => false)) && (match io with | some p => hot.contains p && Nat.blt p n | none => true)
section
variable {G : Gx} {F F' : Fn} {wn : Nat} {P : Program} {w : World} {K : PySem.W.Frag} {mg : Str → Option Value} {base : Heap} {k g : Nat} {x qual : Str} {st : Stmt} {f : Addr} {fd : FuncData} {N ps : List Str} {hot : List Nat} {io : Option Nat}
theorem re_start {Om : Addr → Prop} {H : Hp} {pvs : List PV} {vs : List V} {ex : Option (Nat × Addr × Value × Option Addr)} {fr : Bool} (hh : hotOk hot io pvs.length = true) (hl : pvs.length ≤ N.length) (om : OmOk Om H) (ar : ArgOk G io Om H pvs vs) :
    RE G hot ⟨Om, H, wIo io vs, ioB io vs, ex, fr⟩ Om (pvs.map some ++ List.replicate (N.length - pvs.length) none) (L2.start N vs) H := by
  have h1 : ∀ i ∈ hot, i < pvs.length → io = some i := fun i hi hlt => by
    have q := List.all_eq_true.mp (Bool.and_eq_true_iff.mp hh).1 i hi
    have e : Nat.blt i pvs.length = true := Nat.ble_eq_true_of_le hlt
    rw [e] at q
    cases io with
    | none => simp at q
    | some p =>
      simp only [Bool.not_true, Bool.false_or] at q
      rw [Nat.eq_of_beq_eq_true q]
  have h2 : ∀ p, io = some p → p ∈ hot ∧ p < pvs.length := fun p e => by
    subst e
    have q := (Bool.and_eq_true_iff.mp hh).2
    obtain ⟨q1, q2⟩ := Bool.and_eq_true_iff.mp q
    exact ⟨by simpa using q1, blt_lt q2⟩
  have lt : ∀ {i : Nat} {y : PV}, pvs[i]? = some y → i < pvs.length := fun e => (List.getElem?_eq_some_iff.mp e).1
  have ltv : ∀ {i : Nat} {y : V}, vs[i]? = some y → i < pvs.length := fun e => by rw [← ar.len]; exact (List.getElem?_eq_some_iff.mp e).1
  have gv : ∀ {i : Nat}, i < pvs.length → ∃ v, vs[i]? = some v := fun {i} h => ⟨vs[i]'(by rw [ar.len]; exact h), List.getElem?_eq_getElem _⟩
  refine ⟨?_, om, fun i y e n q => ?_, fun i y e hi => ?_, fun i v hi e => ?_, fun i j p a1 a2 e1 e2 => ?_, fun i c pl e => ?_, fun _ z => z, Keep.refl H, fun _ z => .inl z, fun p z => ?_, fun p z => (om p z).elim fun o q => ⟨o, q.1⟩, fun p z => ?_, fun q hq => ?_⟩
  · unfold L2.start
    simp only [List.length_append, List.length_map, List.length_replicate]
    rw [ar.len]
  · rw [getE_app] at e
    obtain ⟨v, hv⟩ := gv (lt e)
    have ni : io ≠ some i := fun z => n (h2 i z).1
    exact ⟨v, start_get.mpr hv, ar.rep i y v ni e hv⟩
  · rw [getE_app] at e
    have hio := h1 i hi (lt e)
    obtain ⟨y', a, e1, e2, oa, r⟩ := ar.root i hio
    rw [e] at e1; cases e1
    exact ⟨a, start_get.mpr e2, oa, .inl ⟨i, hio, e2⟩, r⟩
  · have e := start_get.mp e
    rw [getE_app]
    exact ⟨pvs[i]'(ltv e), List.getElem?_eq_getElem _⟩
  · have e1 := h1 i a1 (ltv (start_get.mp e1))
    have e2 := h1 j a2 (ltv (start_get.mp e2))
    rw [e1] at e2; cases e2; rfl
  · rw [getE_app] at e
    by_cases hio : io = some i
    · obtain ⟨y', a, e1, e2, oa, r⟩ := ar.root i hio
      rw [e] at e1; cases e1
      exact r.elim
    · obtain ⟨v, hv⟩ := gv (lt e)
      exact (ar.rep i _ v hio e hv).elim
  · obtain ⟨q, e, e2⟩ := z
    obtain ⟨y', a, e1, e3, oa, r⟩ := ar.root q e
    rw [e2] at e3; cases e3
    obtain ⟨o, e4, _⟩ := om p oa
    exact ⟨o, e4⟩
  · obtain ⟨q, e, e2⟩ := z
    refine ⟨(q, p), ?_, rfl⟩
    show (q, p) ∈ ioB io vs
    rw [e]
    simp [ioB, e2]
  · have hq : q ∈ ioB io vs := hq
    cases io with
    | none => simp [ioB] at hq
    | some p =>
      obtain ⟨y', a, e1, e3, oa, r⟩ := ar.root p rfl
      simp [ioB, e3] at hq
      subst hq
      exact ⟨(h2 p rfl).1, start_get.mpr e3⟩
theorem outs_ok {B : Bs} {Om' : Addr → Prop} {env : Env} {σ : L2.St} {H : Hp} {vs : List V} {outs : List PV} (re : RE G hot B Om' env σ H) (hio : ∀ p, io = some p → p ∈ hot ∧ ∃ a, vs[p]? = some (.ref a) ∧ (p, a) ∈ B.io) (h : outsOf (ioL io) env = some outs) : OutOk G io B.Om H outs vs := by
  cases io with
  | none => cases h; rfl
  | some p =>
    simp only [ioL, outsOf] at h
    cases e : getE env p with
    | none => simp [e] at h
    | some y =>
      simp [e] at h
      obtain ⟨hp, a, ea, hm⟩ := hio p rfl
      obtain ⟨a', e1, _, _, r⟩ := re.root p y e hp
      obtain ⟨_, e2⟩ := re.io _ hm
      rw [e1] at e2
      cases e2
      exact ⟨a, y, ea, h.symm, Root.own (fun q _ _ z => re.base q z) r⟩
/-- THE RULE for a def -/
theorem fn_ok (Fd : Fun K x qual st f fd) (S : FnScope N ps (defScope st)) (d : Df) (hF : ∀ vs, F' g vs = runD F wn d vs) (ha : Nat.beq d.arity ps.length = true) (hs : Nat.beq d.slots N.length = true) (hd : d.io = ioL io) (hh : hotOk hot io ps.length = true)
    (hb : ∀ (cdv : Value) (A : Around) (outer : List PySem.Env) (s : Shared) (H : Hp) (E : XK) (B : Bs), Sx (cxOf (L2.CX P w) P w K mg base N qual (defScope st) f cdv A outer s H E) G (fun cls d _ H => E cls d H) → Room k (A.deeper (envOfC qual (defScope st) s.heap.objs.size f cdv)) → (∀ i, io ≠ some i → Away B i) → B.fr = G.fr g → B.exc = none →
      PSs (cxOf (L2.CX P w) P w K mg base N qual (defScope st) f cdv A outer s H E) (defBody st) (tSs G F wn hot B (fun cls d _ H => E cls d H) d.body)) (hK : K = G.K) (hw : w = G.w) : FnOk P w K mg base (L2.CX P w) (k + 1) f fd ps (spF G F' g io) := by
  have har := Nat.eq_of_beq_eq_true ha
  have hsl := Nat.eq_of_beq_eq_true hs
  have lenP : ∀ {pvs : List PV} {r : FR}, F' g pvs = r → r ≠ .stk → pvs.length = ps.length := fun {pvs r} e n => by
    rw [hF] at e
    unfold runD at e
    cases q : Nat.beq pvs.length d.arity with
    | true => rw [Nat.eq_of_beq_eq_true q, har]
    | false => simp [q] at e; exact absurd e.symm n
  have hN : ps.length ≤ N.length := by have := congrArg List.length S.pre; rw [List.length_take] at this; omega
  refine Fd.okX S (fun vs H Q E h => ?_) fun cdv A outer s H vs Q E hr h => ?_
  · obtain ⟨Om, pvs, om, ar, h⟩ := h
    rw [ar.len]
    cases e : F' g pvs with
    | stk => rw [e] at h; exact h.elim
    | ret y outs => exact lenP e (fun z => nomatch z)
    | exc c pl outs => exact lenP e (fun z => nomatch z)
  · obtain ⟨Om, pvs, om, ar, h⟩ := h
    have hl : pvs.length = ps.length := by
      cases e : F' g pvs with
      | stk => rw [e] at h; exact h.elim
      | ret y outs => exact lenP e (fun z => nomatch z)
      | exc c pl outs => exact lenP e (fun z => nomatch z)
    have sx : Sx (cxOf (L2.CX P w) P w K mg base N qual (defScope st) f cdv A outer s H E) G (fun cls d _ H => E cls d H) := ⟨hK, hw, by have := hr.un; show (A.deeper _).units + 80 < cLine; omega, S.nd, takes_of rfl rfl rfl rfl⟩
    refine ⟨_, hb cdv A outer s H E ⟨Om, H, wIo io vs, ioB io vs, none, G.fr g⟩ sx hr (fun i hi q hq => ?_) rfl rfl, ?_⟩
    · have hq : q ∈ ioB io vs := hq
      cases io with
      | none => simp [ioB] at hq
      | some p =>
        have : q.1 = p := by
          unfold ioB at hq
          split at hq
          · rename_i e
            cases e
          · rename_i p' e
            cases e
            split at hq
            · simp at hq; rw [hq]
            · simp at hq
        intro z
        exact hi (by rw [← this, z])
    · have re := re_start (G := G) (hot := hot) (io := io) (N := N) (ex := none) (fr := G.fr g) (by rw [hl]; exact hh) (by omega) om ar
      refine ⟨Om, _, re, ?_⟩
      rw [hF] at h
      unfold runD at h
      rw [show Nat.beq pvs.length d.arity = true by rw [hl, ← har]; exact Nat.beq_refl _, if_pos rfl, show d.slots - d.arity = N.length - pvs.length by rw [hsl, har, hl], hd] at h
      have hio : ∀ p, io = some p → p ∈ hot ∧ ∃ a, vs[p]? = some (.ref a) ∧ (p, a) ∈ ioB io vs := fun p e => by
        subst e
        have q := (Bool.and_eq_true_iff.mp hh).2
        obtain ⟨q1, q2⟩ := Bool.and_eq_true_iff.mp q
        obtain ⟨y', a, e1, e3, oa, r⟩ := ar.root p rfl
        exact ⟨by simpa using q1, a, e3, by simp [ioB, e3]⟩
      have omB : ∀ {Om' : Addr → Prop} {env : Env} {σ : L2.St} {H' : Hp}, RE G hot ⟨Om, H, wIo io vs, ioB io vs, none, G.fr g⟩ Om' env σ H' → OmOk Om H' := fun re p z => re.om p (re.base p z)
      cases e : exs F wn d.body (pvs.map some ++ List.replicate (N.length - pvs.length) none) with
      | stk => rw [e] at h; exact h
      | exc c pl env =>
        rw [e] at h
        simp only at h
        cases e2 : outsOf (ioL io) env with
        | none => rw [e2] at h; exact h.elim
        | some outs =>
          rw [e2] at h
          intro Om' cls dd σ' H' re' x' er
          exact h cls dd H' re'.kept (omB re') (outs_ok re' hio e2) er.own
      | ok fl env =>
        rw [e] at h
        simp only at h
        cases e2 : outsOf (ioL io) env with
        | none => rw [e2] at h; exact h.elim
        | some outs =>
          rw [e2] at h
          cases fl with
          | cont => exact h.elim
          | next => exact fun Om' σ' H' re' x' => h .non H' re'.kept (omB re') (outs_ok re' hio e2) rfl fun _ => trivial
          | ret y => exact fun Om' v σ' H' re' x' r fr => h v H' re'.kept (omB re') (outs_ok re' hio e2) r fr
end
end Sl

/-! Ev15: built-in functions, places, slices, isinstance. -/
namespace Sl
open PySem PySem.Spec PyProof.Rows L2
section
variable {G : Gx} {F : Fn} {wn : Nat} {hot : List Nat} {B : Bs} {W : WX} {X : Cx} {a b c : Expr} {ia ib ic : E} {pos : Pos}
theorem one_sem {vs : List V} {H : Hp} {Q : VK} {o : Op} (h : rP G o vs H Q) (hl : ∀ pvs pv, opSem o pvs = some pv → ∃ x, pvs = [x]) : ∃ Om x pv v, OmOk Om H ∧ vs = [v] ∧ Rep G Om H x v ∧ opSem o [x] = some pv ∧
    ∀ u H', Keep none1 H H' → Rep G Om H' pv u → (freshOp o = true → FreshR H H' pv u) → Q u H' := by
  obtain ⟨Om, pvs, pv, om, rp, sem, q⟩ := h
  obtain ⟨x, rfl⟩ := hl pvs pv sem
  obtain ⟨v, rfl, r⟩ := rp.one
  exact ⟨Om, x, pv, v, om, rfl, r, sem, q⟩
/-- a list of any kind: tracked, or the law's own -/
theorem Rep.seqL (hK : X.K = G.K) {Om : Addr → Prop} {H : Hp} {x : PV} {v : V} {xs : List PV} (r : Rep G Om H x v) (h : listOf x = some xs) : ∃ p vs, v = .ref p ∧ SqL X.K H p vs ∧ Reps G Om H xs vs := by
  cases x with
  | lst us => cases h; obtain ⟨p, vs, e, n, q, rs⟩ := r; exact ⟨p, vs, e, .inl (.inl q), rs⟩
  | scr us => cases h; obtain ⟨p, vs, e, n, rs⟩ := r; exact ⟨p, vs, e, hK ▸ n.sq, rs⟩
  | _ => cases h
theorem cr_len (hK : X.K = G.K) (hw : X.w = G.w) : CallR X (.builtin "len") (rP G .len) := by
  intro pins s σ H xs us Q I rx h
  obtain ⟨Om, x, pv, v, om, rfl, r, sem, q⟩ := one_sem h fun pvs pv e => by
    cases pvs with
    | nil => cases e
    | cons x t => cases t with
      | nil => exact ⟨x, rfl⟩
      | cons y t => cases x <;> cases e
  have hc := cap_line
  cases x <;> simp only [opSem, opLen] at sem <;> first | (cases sem; done) | skip
  · rename_i z
    split at sem
    · rename_i hz
      cases sem
      have hz := blt_lt hz
      have r : v = .str z := r
      subst r
      exact call_len_str pins s σ H _ us Q I rx ⟨z, rfl, (by show z.cps.size ≤ _; unfold cap at hz; omega), q _ _ (Keep.refl H) rfl fun z => by cases z⟩
    · cases sem
  · cases sem
    obtain ⟨p, vs, rfl, qt, rs⟩ := r
    exact call_len_seq pins s σ H _ us Q I rx ⟨p, vs, rfl, .inr (hK ▸ qt), q _ _ (Keep.refl H) (by rw [rs.length]; rfl) fun z => by cases z⟩
  · cases sem
    obtain ⟨p, vs, rfl, n, qt, rs⟩ := r
    exact call_len_seq pins s σ H _ us Q I rx ⟨p, vs, rfl, .inl (.inl (.inl qt)), q _ _ (Keep.refl H) (by rw [rs.length]; rfl) fun z => by cases z⟩
  · split at sem
    · rename_i ks vs hg
      cases sem
      obtain ⟨p, es, rfl, n, hH, hz, hS, nd, rk, re⟩ := r
      obtain ⟨xs, e1, e2, e3, hd⟩ := Rep.dictH I hK hw (goodKeys_inv hg) hH nd rk
      obtain ⟨u, rfl, ru⟩ := vals1 rx
      cases ru
      have hl : xs.length = ks.length := by
        have := rk.length
        rw [e1, List.length_map] at this
        exact this
      have hn := line63
      refine call_len_dictH hS hd (by rw [hl, ← rk.length]; omega) ?_
      rw [hl]
      exact ⟨.int _, H, I.tok _, ⟨_, rfl⟩, q _ _ (Keep.refl H) rfl fun z => by cases z⟩
    · cases sem
  · cases sem
    obtain ⟨p, vs, rfl, n, rs⟩ := r
    exact call_len_seq pins s σ H _ us Q I rx ⟨p, vs, rfl, .inl (hK ▸ n.sq), q _ _ (Keep.refl H) (by rw [rs.length]; rfl) fun z => by cases z⟩
theorem cr_tuple (hK : X.K = G.K) : CallR X (.type "tuple") (rP G .tuple) := by
  intro pins s σ H xs us Q I rx h
  obtain ⟨Om, x, pv, v, om, rfl, r, sem, q⟩ := one_sem h fun pvs pv e => by
    cases pvs with
    | nil => cases e
    | cons x t => cases t with
      | nil => exact ⟨x, rfl⟩
      | cons y t => cases x <;> cases e
  cases x <;> simp only [opSem, opTuple] at sem <;> first | (cases sem; done) | skip
  · cases sem
    obtain ⟨p, vs, rfl, qt, rs⟩ := r
    exact call_tuple_of pins s σ H _ us Q I rx ⟨p, vs, rfl, .inr ⟨hK ▸ qt, q _ _ (Keep.refl H) ⟨p, vs, rfl, qt, rs⟩ fun z => by cases z⟩⟩
  · cases sem
    obtain ⟨p, vs, rfl, n, qt, rs⟩ := r
    exact call_tuple_of pins s σ H _ us Q I rx ⟨p, vs, rfl, .inl ⟨.inl (.inl qt), fun l hl => q _ _ (keep_new hl) (Rep.tupNew hl rs) fun z => by cases z⟩⟩
theorem cr_list (hK : X.K = G.K) : CallR X (.type "list") (rP G .list) := by
  intro pins s σ H xs us Q I rx h
  obtain ⟨Om, x, pv, v, om, rfl, r, sem, q⟩ := one_sem h fun pvs pv e => by
    cases pvs with
    | nil => cases e
    | cons x t => cases t with
      | nil => exact ⟨x, rfl⟩
      | cons y t => cases x <;> cases e
  cases x <;> simp only [opSem, opList] at sem <;> first | (cases sem; done) | skip
  · cases sem
    obtain ⟨p, vs, rfl, qt, rs⟩ := r
    exact call_list_of pins s σ H _ us Q I rx ⟨p, vs, rfl, .inr (hK ▸ qt), fun l hl => q _ _ (keep_new hl) (Rep.lstNew om hl rs) fun _ => FreshR.lst hl⟩
  · cases sem
    obtain ⟨p, vs, rfl, n, qt, rs⟩ := r
    exact call_list_of pins s σ H _ us Q I rx ⟨p, vs, rfl, .inl (.inl (.inl qt)), fun l hl => q _ _ (keep_new hl) (Rep.lstNew om hl rs) fun _ => FreshR.lst hl⟩
theorem cr_abs : CallR X (.builtin "abs") (rP G .abs) := by
  intro pins s σ H xs us Q I rx h
  obtain ⟨Om, x, pv, v, om, rfl, r, sem, q⟩ := one_sem h fun pvs pv e => by
    cases pvs with
    | nil => cases e
    | cons x t => cases t with
      | nil => exact ⟨x, rfl⟩
      | cons y t => cases x <;> cases e
  cases x <;> simp only [opSem] at sem <;> first | (cases sem; done) | skip
  rename_i i
  cases sem
  have r : v = .int i := r
  subst r
  refine call_abs pins s σ H _ us Q I rx ⟨i, rfl, ?_⟩
  have e : (if iLt i 0 = true then -i else i) = if i < 0 then -i else i := by
    rw [iLt_eq]
    by_cases h : i < 0
    · rw [if_pos h, decide_eq_true h]; rfl
    · rw [if_neg h, decide_eq_false h]; rfl
  rw [← e]
  exact q _ _ (Keep.refl H) rfl fun z => by cases z
theorem cr_int : CallR X (.type "int") (rP G .int) := by
  intro pins s σ H xs us Q I rx h
  obtain ⟨Om, x, pv, v, om, rfl, r, sem, q⟩ := one_sem h fun pvs pv e => by
    cases pvs with
    | nil => cases e
    | cons x t => cases t with
      | nil => exact ⟨x, rfl⟩
      | cons y t => cases x <;> cases e
  cases x <;> simp only [opSem] at sem <;> first | (cases sem; done) | skip
  · rename_i i
    cases sem
    have r : v = .bl i := r
    subst r
    exact call_int1 pins s σ H _ us Q I rx (.inr ⟨i, rfl, q _ _ (Keep.refl H) rfl fun z => by cases z⟩)
  · rename_i i
    cases sem
    have r : v = .int i := r
    subst r
    exact call_int1 pins s σ H _ us Q I rx (.inl ⟨i, rfl, q _ _ (Keep.refl H) rfl fun z => by cases z⟩)
theorem reps_ints {Om : Addr → Prop} {H : Hp} : ∀ {xs : List PV} {vs : List V} {is : List Int}, Reps G Om H xs vs → Sl.intsP xs = some is → vs = is.map V.int
  | [], vs, is, r, h => by cases h; exact r
  | x :: xs, vs, is, r, h => by
    obtain ⟨v, t, rfl, r1, r2⟩ := r
    cases x <;> simp only [Sl.intsP] at h <;> first | (cases h; done) | skip
    obtain ⟨js, e, rfl⟩ := Option.map_eq_some_iff.mp h
    have r1 : v = .int _ := r1
    rw [r1, reps_ints r2 e]
    rfl
theorem reps_bools {Om : Addr → Prop} {H : Hp} : ∀ {xs : List PV} {vs : List V} {is : List Bool}, Reps G Om H xs vs → bools xs = some is → vs = is.map V.bl
  | [], vs, is, r, h => by cases h; exact r
  | x :: xs, vs, is, r, h => by
    obtain ⟨v, t, rfl, r1, r2⟩ := r
    cases x <;> simp only [bools] at h <;> first | (cases h; done) | skip
    obtain ⟨js, e, rfl⟩ := Option.map_eq_some_iff.mp h
    have r1 : v = .bl _ := r1
    rw [r1, reps_bools r2 e]
    rfl

theorem sumI_eq : ∀ is : List Int, sumI is = is.sum
  | [] => rfl
  | x :: xs => by rw [List.sum_cons, ← sumI_eq xs]; rfl
theorem cr_sum' (hK : X.K = G.K) (hc : X.calm = true) : CallR X (.builtin "sum") (rP G .sum) := by
  intro pins s σ H xs us Q I rx h
  obtain ⟨Om, x, pv, v, om, rfl, r, sem, q⟩ := one_sem h fun pvs pv e => by
    cases pvs with
    | nil => cases e
    | cons x t => cases t with
      | nil => exact ⟨x, rfl⟩
      | cons y t => cases e
  simp only [opSem, opSum] at sem
  cases e : listOf x with
  | none => rw [e] at sem; cases sem
  | some ys =>
    rw [e] at sem
    obtain ⟨is, e2, rfl⟩ := Option.map_eq_some_iff.mp sem
    obtain ⟨p, vs, rfl, qs, rs⟩ := r.seqL (X := X) hK e
    have ev := reps_ints rs e2
    subst ev
    exact cr_sum hc pins s σ H _ us Q I rx ⟨p, is, rfl, qs, by rw [← sumI_eq]; exact q _ _ (Keep.refl H) rfl fun z => by cases z⟩
theorem cr_all' (hK : X.K = G.K) (hc : X.calm = true) : CallR X (.builtin "all") (rP G .all) := by
  intro pins s σ H xs us Q I rx h
  obtain ⟨Om, x, pv, v, om, rfl, r, sem, q⟩ := one_sem h fun pvs pv e => by
    cases pvs with
    | nil => cases e
    | cons x t => cases t with
      | nil => exact ⟨x, rfl⟩
      | cons y t => cases e
  simp only [opSem, opAll] at sem
  cases e : listOf x with
  | none => rw [e] at sem; cases sem
  | some ys =>
    rw [e] at sem
    obtain ⟨is, e2, rfl⟩ := Option.map_eq_some_iff.mp sem
    obtain ⟨p, vs, rfl, qs, rs⟩ := r.seqL (X := X) hK e
    have ev := reps_bools rs e2
    subst ev
    exact cr_all hc pins s σ H _ us Q I rx ⟨p, is, rfl, qs, q _ _ (Keep.refl H) rfl fun z => by cases z⟩
theorem cr_any' (hK : X.K = G.K) (hc : X.calm = true) : CallR X (.builtin "any") (rP G .any) := by
  intro pins s σ H xs us Q I rx h
  obtain ⟨Om, x, pv, v, om, rfl, r, sem, q⟩ := one_sem h fun pvs pv e => by
    cases pvs with
    | nil => cases e
    | cons x t => cases t with
      | nil => exact ⟨x, rfl⟩
      | cons y t => cases e
  simp only [opSem, opAny] at sem
  cases e : listOf x with
  | none => rw [e] at sem; cases sem
  | some ys =>
    rw [e] at sem
    obtain ⟨is, e2, rfl⟩ := Option.map_eq_some_iff.mp sem
    obtain ⟨p, vs, rfl, qs, rs⟩ := r.seqL (X := X) hK e
    have ev := reps_bools rs e2
    subst ev
    exact cr_any hc pins s σ H _ us Q I rx ⟨p, is, rfl, qs, q _ _ (Keep.refl H) rfl fun z => by cases z⟩
/-! ### places -/
theorem ixOf_ixN {n : Nat} {i : Int} {j : Nat} (h : ixOf n i = some j) : ixN n i = some j := by
  unfold ixOf at h
  unfold ixN
  cases i with
  | ofNat m =>
    simp only at h
    split at h
    · rename_i hb
      cases h
      have hb := blt_lt hb
      rw [if_pos (by show (0 : Int) ≤ (j : Nat); omega), if_pos (by show ((j : Nat) : Int) < n; omega)]
      rfl
    · cases h
  | negSucc m =>
    simp only at h
    split at h
    · rename_i hb
      cases h
      have hb := blt_lt hb
      rw [if_neg (by omega), if_pos (by omega)]
      congr 1
      omega
    · cases h
theorem atI_of {xs : List V} {i : Int} {j : Nat} {v : V} (h : ixOf xs.length i = some j) (e : xs[j]? = some v) : atI xs i = some v := by
  unfold atI
  rw [ixOf_ixN h]
  exact e
theorem findK_at {Om : Addr → Prop} {H : Hp} : ∀ {ks vs : List PV} {xs : List (NestedKey × Addr × Value)} {k y : PV} {es : List DictEntry}, partKey k = true → (∀ z ∈ ks, partKey z = true) → xs.map (·.1) = keyPs ks → findK k ks vs = some y → xs.map (·.2.2) = es.map (·.val) → RepE G Om H vs es →
    ∃ p u, atKey xs (keyP k) = some p ∧ RelV u p.2 ∧ Rep G Om H y u
  | [], vs, xs, k, y, es, _, _, _, h, _, _ => by cases vs <;> cases h
  | z :: ks, [], xs, k, y, es, _, _, _, h, _, _ => by cases h
  | z :: ks, v :: vs, xs, k, y, es, hk, hks, e, h, e2, r => by
    obtain ⟨e0, er, u, rfl, r1, r2, r3⟩ := r
    cases xs with
    | nil => cases e
    | cons x xs =>
      simp only [List.map_cons, keyPs, List.cons.injEq] at e e2
      obtain ⟨ea, eb⟩ := e
      obtain ⟨ec, ed⟩ := e2
      simp only [findK] at h
      rw [keyEq' (hks z List.mem_cons_self) hk] at h
      rw [atKey_cons, ea]
      by_cases hz : keyP z = keyP k
      · rw [decide_eq_true hz] at h
        simp only [if_true] at h
        cases h
        rw [if_pos hz]
        exact ⟨x.2, u, rfl, by rw [ec]; exact r1, r2⟩
      · rw [decide_eq_false hz] at h
        simp only [Bool.false_eq_true, if_false] at h
        rw [if_neg hz]
        exact findK_at hk (fun w hw => hks w (List.mem_cons_of_mem _ hw)) eb h ed r3
theorem ir_ix (hK : X.K = G.K) (hw : X.w = G.w) (hu : X.A.units + 70 < cLine) : IxR X (fun x y => rP G .ix [x, y]) := by
  intro value slice pins s σ H x y v u Q I rx ry h hs
  obtain ⟨Om, pvs, pv, om, rp, sem, q⟩ := h
  obtain ⟨a, b, rfl, r1, r2⟩ := rp.two'
  have fin : ∀ {w : V}, Rep G Om H pv w → Q w H := fun r => q _ _ (Keep.refl H) r fun z => by cases z
  have key : ∀ {xs : List PV} {vs : List V} {i : Int}, Reps G Om H xs vs → (match ixOf xs.length i with | some j => xs[j]? | none => none) = some pv → ∃ w, atI vs i = some w ∧ Rep G Om H pv w := fun {xs vs i} rs e => by
    cases e1 : ixOf xs.length i with
    | none => rw [e1] at e; cases e
    | some j =>
      rw [e1] at e
      obtain ⟨w, e2, rw'⟩ := rs.get e
      exact ⟨w, atI_of (by rw [rs.length]; exact e1) e2, rw'⟩
  cases a with
  | tup xs =>
    cases b <;> simp only [opSem, opIx] at sem <;> first | (cases sem; done) | skip
    obtain ⟨p, vs, rfl, qt, rs⟩ := r1
    obtain ⟨w, e, rw'⟩ := key rs sem
    exact ix_tup value slice pins s σ H _ _ v u Q I rx ry ⟨p, vs, _, w, rfl, r2, hK ▸ qt, e, fin rw'⟩ hs
  | lst xs =>
    cases b <;> simp only [opSem, opIx] at sem <;> first | (cases sem; done) | skip
    obtain ⟨p, vs, rfl, n, qt, rs⟩ := r1
    obtain ⟨w, e, rw'⟩ := key rs sem
    exact ix_list value slice pins s σ H _ _ v u Q I rx ry ⟨p, vs, _, w, rfl, r2, .inl (.inl qt), e, fin rw'⟩ hs
  | scr xs =>
    cases b <;> simp only [opSem, opIx] at sem <;> first | (cases sem; done) | skip
    obtain ⟨p, vs, rfl, nl, rs⟩ := r1
    have nl : Nl X.K Om H p vs := hK ▸ nl
    obtain ⟨w, e, rw'⟩ := key rs sem
    exact ix_list value slice pins s σ H _ _ v u Q I rx ry ⟨p, vs, _, w, rfl, r2, nl.sq, e, fin rw'⟩ hs
  | dct ks vs =>
    simp only [opSem, opIx] at sem
    split at sem
    · rename_i hg
      have hk := goodKeys_inv hg
      have tb := hk b List.mem_cons_self
      have hks : ∀ z ∈ ks, tupKey z = true := fun z hz => hk z (List.mem_cons_of_mem _ hz)
      obtain ⟨d, es, rfl, n, hH, hz, hS, nd, rk, re⟩ := r1
      cases rx
      obtain ⟨xs, e1, e2, e3, hd⟩ := Rep.dictH I hK hw hks hH nd rk
      have hn := Rep.key I hK b y u (tup_part tb) r2 ry
      cases b with
      | tup ts =>
        obtain ⟨p, rfl, rfl⟩ := Rep.tupAt r2 ry
        obtain ⟨pp, w, g1, g2, g3⟩ := findK_at (tup_part tb) (fun z hz => tup_part (hks z hz)) e2 sem e3 re
        refine tail_any hd.typeIs F.slot_dict_getitem.lookup (wpAny_getItem_heap (knd := nestedKind X.prog X.w) (room_nested hu) ⟨hn, tup_depth tb⟩ hd g1 ?_) hs
        exact ⟨w, H, I.tok _, g2, fin g3⟩
      | _ => simp [tupKey] at tb
    · cases sem
  | _ => cases b <;> simp only [opSem, opIx] at sem <;> cases sem
end
end Sl

/-! Ev16: slices, isinstance, the check, stars, calls by keyword and by value. -/
namespace Sl
open PySem PySem.Spec PyProof.Rows L2
section
variable {G : Gx} {F : Fn} {wn : Nat} {hot : List Nat} {B : Bs} {W : WX} {X : Cx} {a b c : Expr} {ia ib ic : E} {pos : Pos}
theorem clip_sIx (n d : Nat) (o : Option Int) : clip n d o = HT.sIx n d o := by
  cases o with
  | none => rfl
  | some i =>
    unfold HT.sIx clip
    cases i with
    | ofNat j =>
      show (if Nat.blt n j then n else j) = if ((j : Nat) : Int) < 0 then _ else min j n
      rw [if_neg (show ¬ ((j : Nat) : Int) < 0 by omega)]
      cases h : Nat.blt n j with
      | true => have := blt_lt h; simp only [if_true]; omega
      | false =>
        have : ¬ n < j := fun q => by rw [show Nat.blt n j = true from Nat.ble_eq_true_of_le q] at h; cases h
        simp only [Bool.false_eq_true, if_false]; omega
    | negSucc j =>
      simp only
      rw [if_pos (by omega)]
      omega
def rSl (G : Gx) : V → Option Int → Option Int → Hp → VK → Prop := fun x lo hi H Q => ∃ Om y z, OmOk Om H ∧ Rep G Om H y x ∧ slOf lo hi y = some z ∧ ∀ v H', Keep none1 H H' → Rep G Om H' z v → FreshR H H' z v → Q v H'
theorem cut_len {xs : List PV} {lo hi : Option Int} : Sl.cut xs (clip xs.length 0 lo) (clip xs.length xs.length hi) = (xs.drop (HT.sIx xs.length 0 lo)).take (HT.sIx xs.length xs.length hi - HT.sIx xs.length 0 lo) := by
  rw [clip_sIx, clip_sIx]; rfl
theorem Reps.cutV {Om : Addr → Prop} {H : Hp} {xs : List PV} {vs : List V} {lo hi : Option Int} (r : Reps G Om H xs vs) : Reps G Om H (Sl.cut xs (clip xs.length 0 lo) (clip xs.length xs.length hi)) (L2.cutV vs lo hi) := by
  rw [cut_len]
  unfold L2.cutV
  rw [r.length]
  exact (r.drop _).take _
theorem sr_sl (hK : X.K = G.K) : SlR X (rSl G) := by
  intro pins s σ H x v vl vu lo hi sl Q I rx hs pl pu ⟨Om, y, z, om, r, sem, q⟩
  cases y with
  | tup xs =>
    cases sem
    obtain ⟨p, vs, rfl, qt, rs⟩ := r
    refine sl_tupA pins s σ H _ v vl vu lo hi sl Q I rx hs pl pu ⟨p, vs, rfl, hK ▸ qt, fun hw => ?_, fun hw l hl => q _ _ (keep_new hl) (Rep.tupNew hl rs.cutV) trivial⟩
    refine q _ _ (Keep.refl H) ?_ trivial
    have e : Sl.cut xs (clip xs.length 0 lo) (clip xs.length xs.length hi) = xs := by
      rw [rs.length] at hw
      rw [cut_len, hw.1, hw.2]
      simp
    rw [e]
    exact ⟨p, vs, rfl, qt, rs⟩
  | lst xs =>
    cases sem
    obtain ⟨p, vs, rfl, n, qt, rs⟩ := r
    exact sl_list pins s σ H _ v vl vu lo hi sl Q I rx hs pl pu ⟨p, vs, rfl, .inl (.inl qt), fun l hl => q _ _ (keep_new hl) (Rep.lstNew om hl rs.cutV) (FreshR.lst hl)⟩
  | scr xs =>
    cases sem
    obtain ⟨p, vs, rfl, nl, rs⟩ := r
    have nl : Nl X.K Om H p vs := hK ▸ nl
    exact sl_list pins s σ H _ v vl vu lo hi sl Q I rx hs pl pu ⟨p, vs, rfl, nl.sq, fun l hl => q _ _ (keep_new hl) (Rep.lstNew om hl rs.cutV) (FreshR.lst hl)⟩
  | _ => cases sem
theorem sl_intro {o : Op} {pvs : List PV} {y : PV} {lo hi : Option Int} {x : V} {vs : List V} {H : Hp} {Q : VK} (ho : freshOp o = true) (h : rP G o (x :: vs) H Q) (hs : ∀ pvs pv, opSem o pvs = some pv → ∀ Om, Reps G Om H pvs (x :: vs) → ∃ y, Rep G Om H y x ∧ slOf lo hi y = some pv) : rSl G x lo hi H Q := by
  obtain ⟨Om, ps, pv, om, rp, sem, q⟩ := h
  obtain ⟨y, r, e⟩ := hs ps pv sem Om rp
  exact ⟨Om, y, pv, om, r, e, fun v H' k r f => q v H' k r fun _ => f⟩
theorem tE_op3 {o : Op} {i j l : E} {σ : L2.St} {H : Hp} {Q : VK} (hd : disj (peeks i) (muts j ++ muts l) = true) (hd2 : disj (peeks j) (muts l) = true) (h : tE G F hot B W (.op o (.cons i (.cons j (.cons l .nil)))) σ H Q) :
    tE G F hot B W i σ H fun x H1 => tE G F hot B W j σ H1 fun y H2 => tE G F hot B W l σ H2 fun z H3 => rP G o [x, y, z] H3 Q :=
  tE_mono (fun _ _ h => tE_mono (fun _ _ h => tE_mono (fun _ _ h => tEs_nil h) (tEs_cons (List.all_eq_true.mpr fun _ _ => rfl) h)) (tEs_cons (by
    show disj (peeks j) (muts l ++ []) = true
    rw [List.append_nil]; exact hd2) h)) (tEs_cons (by
    show disj (peeks i) (muts j ++ (muts l ++ [])) = true
    rw [List.append_nil]; exact hd) (tE_op h))
theorem int_of {Om : Addr → Prop} {H : Hp} {i : Int} {v : V} (r : Rep G Om H (.int i) v) : v = .int i := r
theorem pE_slH {p2 : Pos} (hK : X.K = G.K) (ha : PE X a (tE G F hot B W ia)) (hb : PE X b (tE G F hot B W ib)) (hd : disj (peeks ia) (muts ib) = true := by rfl) : PE X (.Subscript a (.Slice none (some b) none p2) pos) (tE G F hot B W (.op .slH (.cons ia (.cons ib .nil)))) := by
  refine PE.imp (pe_slice (sr_sl hK) ha po_none (po_some hb)) fun σ H Q h => ?_
  refine tE_mono (fun x H1 h1 => ?_) (tE_op2 hd h)
  refine tE_mono (fun y H2 h2 => ?_) h1
  obtain ⟨Om, ps, pv, om, rp, sem, q⟩ := h2
  obtain ⟨u, w, rfl, r1, r2⟩ := rp.two'
  cases w <;> simp only [opSem, opSlH] at sem <;> first | (cases sem; done) | skip
  exact ⟨_, int_of r2, Om, u, pv, om, r1, sem, fun v H' k r f => q v H' k r fun _ => f⟩
theorem pE_slL {p2 : Pos} (hK : X.K = G.K) (ha : PE X a (tE G F hot B W ia)) (hb : PE X b (tE G F hot B W ib)) (hd : disj (peeks ia) (muts ib) = true := by rfl) : PE X (.Subscript a (.Slice (some b) none none p2) pos) (tE G F hot B W (.op .slL (.cons ia (.cons ib .nil)))) := by
  refine PE.imp (pe_slice (sr_sl hK) ha (po_some hb) po_none) fun σ H Q h => ?_
  refine tE_mono (fun x H1 h1 => ?_) (tE_op2 hd h)
  refine tE_mono (fun y H2 h2 => ?_) h1
  obtain ⟨Om, ps, pv, om, rp, sem, q⟩ := h2
  obtain ⟨u, w, rfl, r1, r2⟩ := rp.two'
  cases w <;> simp only [opSem, opSlL] at sem <;> first | (cases sem; done) | skip
  exact ⟨_, int_of r2, Om, u, pv, om, r1, sem, fun v H' k r f => q v H' k r fun _ => f⟩
/-- never an exception -/
def atomE : E → Bool
  | .var _ => true
  | .cst _ => true
  | _ => false
def calmE : E → Bool
  | .op _ es => match es with
    | .cons a r => match r with
      | .nil => atomE a
      | .cons b t => match t with
        | .nil => atomE a && atomE b
        | _ => false
      | _ => false
    | _ => false
  | e => atomE e
theorem atom_ev {e : E} {env env' : Env} {c : Nat} {pl : List PV} (h : atomE e = true) (q : ev F e env = .exc c pl env') : False := by
  cases e <;> simp only [atomE] at h <;> first | (cases h; done) | skip
  · simp only [ev] at q
    split at q
    · cases q
    · split at q <;> cases q
  · simp only [ev] at q
    cases q
theorem calm_ev {e : E} {env env' : Env} {c : Nat} {pl : List PV} (h : calmE e = true) (q : ev F e env = .exc c pl env') : False := by
  cases e with
  | op o es =>
    simp only [ev] at q
    have oo : ∀ {o : Option PV} {e : Env}, R.opt o e ≠ .exc c pl env' := fun {o e} => by cases o <;> simp [R.opt]
    cases es with
    | nil => cases h
    | star _ _ => cases h
    | cons a r =>
      cases r with
      | nil =>
        simp only [evs] at q
        cases e1 : ev F a env with
        | stk => rw [e1] at q; cases q
        | exc c2 p2 e2 => exact atom_ev h e1
        | ok x env1 => rw [e1] at q; exact oo q
      | star _ _ => cases h
      | cons b t =>
        cases t with
        | nil =>
          obtain ⟨h1, h2⟩ := Bool.and_eq_true_iff.mp h
          simp only [evs] at q
          cases e1 : ev F a env with
          | stk => rw [e1] at q; cases q
          | exc c2 p2 e2 => exact atom_ev h1 e1
          | ok x env1 =>
            rw [e1] at q
            simp only [R.bind] at q
            cases e2 : ev F b env1 with
            | stk => rw [e2] at q; cases q
            | exc c2 p2 e3 => exact atom_ev h2 e2
            | ok y env2 => rw [e2] at q; exact oo q
        | star _ _ => cases h
        | cons _ _ => cases h
  | var i => exact atom_ev (e := .var i) rfl q
  | cst v => exact atom_ev (e := .cst v) rfl q
  | _ => cases h
theorem opSl_inv {x y z w : PV} (h : opSl [x, y, z] = some w) : ∃ m n, y = .int m ∧ z = .int n ∧ slOf (some m) (some n) x = some w := by
  cases y <;> cases z <;> simp only [opSl] at h <;> first | (cases h; done) | exact ⟨_, _, rfl, rfl, h⟩
theorem tE_sl {i j l : E} {σ : L2.St} {H : Hp} {Q : VK} (hl : calmE l = true) (hd : disj (peeks i) (muts j ++ muts l) = true) (h : tE G F hot B W (.op .sl (.cons i (.cons j (.cons l .nil)))) σ H Q) :
    tE G F hot B W i σ H fun x H1 => tE G F hot B W j σ H1 fun y H2 => ∃ m, y = .int m ∧ tE G F hot B W l σ H2 fun z H3 => ∃ n, z = .int n ∧ rSl G x (some m) (some n) H3 Q := by
  obtain ⟨Om, env, re, h⟩ := h
  simp only [ev, evs] at h
  refine ⟨Om, env, re, ?_⟩
  cases e1 : ev F i env with
  | stk => rw [e1] at h; exact h
  | exc c pl env1 => rw [e1] at h; exact h
  | ok x env1 =>
    rw [e1] at h
    simp only [R.bind] at h
    intro v H1 k1 re1 r1 f1
    refine ⟨Om, env1, re1, ?_⟩
    cases e2 : ev F j env1 with
    | stk => rw [e2] at h; exact h
    | exc c pl env2 => rw [e2] at h; exact fun cls d H' k' re' er => h cls d H' (k1.om k') re' er
    | ok y env2 =>
      rw [e2] at h
      simp only [R.bind] at h
      intro u H2 k2 re2 r2 f2
      cases e3 : ev F l env2 with
      | stk => rw [e3] at h; exact h.elim
      | exc c pl env3 => exact (calm_ev hl e3).elim
      | ok z env3 =>
        rw [e3] at h
        simp only [R.bind] at h
        cases e4 : opSem .sl [x, y, z] with
        | none => rw [e4] at h; exact h.elim
        | some w =>
          rw [e4] at h
          obtain ⟨m, n, rfl, rfl, es⟩ := opSl_inv e4
          refine ⟨m, r2, Om, env2, re2, ?_⟩
          rw [e3]
          intro t H3 k3 re3 r3 f3
          have hsub1 : ∀ q ∈ muts j, q ∈ muts j ++ muts l := fun q z => List.mem_append_left _ z
          have d1 : disj (peeks i) (muts j) = true := List.all_eq_true.mpr fun q hq => by
            have := List.all_eq_true.mp hd q hq
            rw [List.any_append, Bool.not_or, Bool.and_eq_true] at this
            exact this.1
          have d2 : disj (peeks i) (muts l) = true := List.all_eq_true.mpr fun q hq => by
            have := List.all_eq_true.mp hd q hq
            rw [List.any_append, Bool.not_or, Bool.and_eq_true] at this
            exact this.2
          have r1' := Rep.keep k3 (hwR re2.om) (re2.apart d2) x v (Rep.keep k2 (hwR re1.om) (re1.apart d1) x v r1)
          have sub : ∀ p, rt hot Om σ (peeks i) p → rt hot Om σ (peekss (.cons i (.cons j (.cons l .nil)))) p := fun p z => rt_mono (fun q hq => List.mem_append_left _ hq) z
          refine ⟨n, r3, _, x, w, fun p z => re3.om p z.1, r1'.cut sub, es, fun o H4 k4 r4 f4 => ?_⟩
          refine h o H4 ?_ (re3.keep k4) r4 fun _ => NewE.of re3 k4 f4 fun p hn => keep_none re1.om k1 (keep_none re2.om k2 (keep_none re3.om k3 hn))
          refine Keep.trans (Keep.trans k1 (Keep.trans k2 k3 (V := rt hot Om σ (muts j ++ muts l)) (fun p z => rt_mono hsub1 z) fun p z => rt_mono (fun q z => List.mem_append_right _ z) z) (V := rt hot Om σ (muts (.op .sl (.cons i (.cons j (.cons l .nil)))))) (fun p z => rt_mono (fun q hq => List.mem_append_left _ hq) z) fun p z => rt_mono (fun q hq => List.mem_append_right _ ?_) z) k4 (fun _ z => z) fun _ z => z.elim
          rcases List.mem_append.mp hq with z | z
          · exact List.mem_append_left _ z
          · exact List.mem_append_right _ (List.mem_append_left _ z)
theorem pE_sl {p2 : Pos} (hK : X.K = G.K) (ha : PE X a (tE G F hot B W ia)) (hb : PE X b (tE G F hot B W ib)) (hc : PE X c (tE G F hot B W ic)) (hl : calmE ic = true := by rfl) (hd : disj (peeks ia) (muts ib ++ muts ic) = true := by rfl) :
    PE X (.Subscript a (.Slice (some b) (some c) none p2) pos) (tE G F hot B W (.op .sl (.cons ia (.cons ib (.cons ic .nil))))) :=
  PE.imp (pe_slice (sr_sl hK) ha (po_some hb) (po_some hc)) fun σ H Q h => tE_sl hl hd h
/-- the check -/
theorem pE_ck (ha : PE X a (tE G F hot B W ia)) : PE X a (tE G F hot B W (.ck ia)) := by
  refine PE.imp ha fun σ H Q h => ?_
  obtain ⟨Om, env, re, h⟩ := h
  refine ⟨Om, env, re, ?_⟩
  simp only [ev] at h
  cases e1 : ev F ia env with
  | stk => rw [e1] at h; exact h
  | exc c pl env1 => rw [e1] at h; exact h
  | ok x env1 =>
    rw [e1] at h
    simp only [R.bind] at h
    cases hf : frozen x with
    | false => simp [hf] at h
    | true =>
      simp only [hf, if_true] at h
      exact fun v H' k re' r f => h v H' k re' (Rep.free x v hf r) fun z => Bool.noConfusion z
/-- .. of a new list or dict -/
theorem pE_ckn (ha : PE X a (tE G F hot B W ia)) (hf : freshE G.fr ia = true := by rfl) : PE X a (tE G F hot B W (.ckn ia)) := by
  refine PE.imp ha fun σ H Q h => ?_
  obtain ⟨Om, env, re, h⟩ := h
  refine ⟨Om, env, re, ?_⟩
  simp only [ev] at h
  cases e1 : ev F ia env with
  | stk => rw [e1] at h; exact h
  | exc c pl env1 => rw [e1] at h; exact h
  | ok x env1 =>
    rw [e1] at h
    simp only [R.bind] at h
    cases q : inFrozen x with
    | false => simp [q] at h
    | true =>
      simp only [q, if_true] at h
      refine fun v H' k re' r f => h v H' k re' ?_ f
      have nw := f hf
      cases x with
      | lst xs =>
        obtain ⟨p, vs, rfl, n, hH, rs⟩ := r
        obtain ⟨p', e, hn, _⟩ := nw
        cases e
        refine ⟨p, vs, rfl, fun z => ?_, hH, Reps.free xs vs q rs⟩
        obtain ⟨o, e, _⟩ := re.om p z.1
        rw [e] at hn; cases hn
      | dct ks vs =>
        obtain ⟨p, es, rfl, n, hH, q1, q2, q3, q4, q5⟩ := r
        obtain ⟨p', e, hn, _⟩ := nw
        cases e
        obtain ⟨f1, f2⟩ := Bool.and_eq_true_iff.mp q
        refine ⟨p, es, rfl, fun z => ?_, hH, q1, q2, q3, RepK.free ks es f1 q4, RepE.free vs es f2 q5⟩
        obtain ⟨o, e, _⟩ := re.om p z.1
        rw [e] at hn; cases hn
      | _ => cases q
end
end Sl

/-! Ev17: stars in displays, calls by keyword, calls of what a value is, isinstance. -/
namespace Sl
open PySem PySem.Spec PyProof.Rows L2
section
variable {G : Gx} {F : Fn} {wn : Nat} {hot : List Nat} {B : Bs} {W : WX} {X : Cx} {a b c : Expr} {ia ib ic : E} {pos : Pos}
theorem tEs_star {i : E} {r : Es} {σ : L2.St} {H : Hp} {Q : List V → Hp → Prop} (hK : X.K = G.K) (hd : disj (peeks i) (mutss r) = true) (h : tEs G F hot B W (.star i r) σ H Q) : StX.tStar X.K (tE G F hot B W i) (tEs G F hot B W r) σ H Q := by
  obtain ⟨Om, env, re, h⟩ := h
  refine ⟨Om, env, re, ?_⟩
  simp only [evs] at h
  cases e1 : ev F i env with
  | stk => rw [e1] at h; exact h
  | exc c pl env1 => rw [e1] at h; exact h
  | ok x env1 =>
    rw [e1] at h
    simp only [R.bind] at h
    intro v H1 k1 re1 r1 f1
    cases e3 : items x with
    | none => rw [e3] at h; exact h.elim
    | some xs =>
      rw [e3] at h
      simp only at h
      obtain ⟨p, vs, rfl, hq, rs⟩ : ∃ p vs, v = .ref p ∧ (SqT X.K H1 p vs ∨ SqL X.K H1 p vs) ∧ Reps G (cutO Om (rt hot Om σ (peeks i))) H1 xs vs := by
        cases x with
        | tup us => cases e3; obtain ⟨p, vs, e, q, rs⟩ := r1; exact ⟨p, vs, e, .inl (hK ▸ q), rs⟩
        | lst us => cases e3; obtain ⟨p, vs, e, n, q, rs⟩ := r1; exact ⟨p, vs, e, .inr (.inl (.inl q)), rs⟩
        | _ => cases e3
      refine ⟨p, vs, rfl, hq, Om, env1, re1, ?_⟩
      cases e2 : evs F r env1 with
      | stk => rw [e2] at h; exact h
      | exc c pl env2 => rw [e2] at h; exact fun cls d H' k' re' er => h cls d H' (k1.om k') re' er
      | ok ys env2 =>
        rw [e2] at h
        intro ws H2 k2 re2 r2
        refine h (vs ++ ws) H2 (Keep.trans k1 k2 (fun a z => rt_mono (fun j q => List.mem_append_left _ q) z) fun a z => rt_mono (fun j q => List.mem_append_right _ q) z) re2 (Reps.append ?_ ?_)
        · exact Reps.cut (fun a z => rt_mono (fun j q => List.mem_append_left _ q) z) (Reps.keep k2 (hwR re1.om) (re1.apart hd) xs vs rs)
        · exact Reps.cut (fun a z => rt_mono (fun j q => List.mem_append_right _ q) z) r2
theorem pAs_star {es : List Expr} {r : Es} {p : Pos} (hK : X.K = G.K) (ha : PE X a (tE G F hot B W ia)) (hr : PA X es (tEs G F hot B W r)) (hd : disj (peeks ia) (mutss r) = true := by rfl) (hs : starEach (.Starred a p :: es) X.env = (true, eval a X.env) :: starEach es X.env := by rfl) :
    PA X (.Starred a p :: es) (tEs G F hot B W (.star ia r)) := PA.imp (StX.pa_star ha hr hs) fun _ _ _ h => tEs_star hK hd h
/-! ### by keyword, nothing by place -/
def permV {α : Type} (perm : List Nat) (ws : List α) : List α := match perm with
  | [] => ws
  | _ :: _ => perm.filterMap fun i => ws[i]?
theorem permV_eq (perm : List Nat) (vs : List PV) : permute perm vs = permV perm vs := by cases perm <;> rfl
theorem filterMap_reps {Om : Addr → Prop} {H : Hp} {xs : List PV} {vs : List V} (r : Reps G Om H xs vs) : ∀ perm : List Nat, Reps G Om H (perm.filterMap fun i => xs[i]?) (perm.filterMap fun i => vs[i]?)
  | [] => rfl
  | i :: perm => by
    rw [List.filterMap_cons, List.filterMap_cons]
    cases e : xs[i]? with
    | none =>
      have : vs[i]? = none := List.getElem?_eq_none (by rw [r.length]; exact List.getElem?_eq_none_iff.mp e)
      rw [this]
      exact filterMap_reps r perm
    | some x =>
      obtain ⟨v, e2, rv⟩ := r.get e
      rw [e2]
      exact Reps.cons rv (filterMap_reps r perm)
theorem Reps.perm {Om : Addr → Prop} {H : Hp} {xs : List PV} {vs : List V} (r : Reps G Om H xs vs) (perm : List Nat) : Reps G Om H (permV perm xs) (permV perm vs) := by
  cases perm with
  | nil => exact r
  | cons i p => exact filterMap_reps r (i :: p)
theorem filterMap_vals {vs : List V} {us : List Value} (r : Vals vs us) : ∀ perm : List Nat, Vals (perm.filterMap fun i => vs[i]?) (perm.filterMap fun i => us[i]?)
  | [] => .nil
  | i :: perm => by
    rw [List.filterMap_cons, List.filterMap_cons]
    cases e : vs[i]? with
    | none =>
      rw [r.none_of e]
      exact filterMap_vals r perm
    | some x =>
      obtain ⟨v, e2, rv⟩ := r.get e
      rw [e2]
      exact .cons rv (filterMap_vals r perm)
theorem Vals.perm {vs : List V} {us : List Value} (r : Vals vs us) (perm : List Nat) : Vals (permV perm vs) (permV perm us) := by
  cases perm with
  | nil => exact r
  | cons i p => exact filterMap_vals r (i :: p)
theorem pK_nil : PK X [] (tEs G F hot B W .nil) := ⟨fun pos pins s σ H Q I h => pk_nil.run pos pins s σ H Q I (tEs_nil h)⟩
theorem pK_cons {kws : List Keyword} {r : Es} {nm : Option Str} {kpos : Pos} (ha : PE X a (tE G F hot B W ia)) (hr : PK X kws (tEs G F hot B W r)) (hd : disj (peeks ia) (mutss r) = true := by rfl) : PK X (⟨nm, a, kpos⟩ :: kws) (tEs G F hot B W (.cons ia r)) :=
  ⟨fun pos pins s σ H Q I h => (pk_cons ha hr).run pos pins s σ H Q I (tEs_cons hd h)⟩
def noStar : Es → Bool
  | .nil => true
  | .cons _ r => noStar r
  | .star _ _ => false
def lenEs : Es → Nat
  | .nil => 0
  | .cons _ r => lenEs r + 1
  | .star _ r => lenEs r + 1
theorem evs_len : ∀ {es : Es} {env env' : Env} {xs : List PV}, noStar es = true → evs F es env = .ok xs env' → xs.length = lenEs es
  | .nil, env, env', xs, _, h => by cases h; rfl
  | .star _ _, env, env', xs, hn, _ => by cases hn
  | .cons e r, env, env', xs, hn, h => by
    simp only [evs] at h
    cases e1 : ev F e env with
    | stk => rw [e1] at h; cases h
    | exc c pl env1 => rw [e1] at h; cases h
    | ok x env1 =>
      rw [e1] at h
      simp only [R.bind] at h
      cases e2 : evs F r env1 with
      | stk => rw [e2] at h; cases h
      | exc c pl env2 => rw [e2] at h; cases h
      | ok ys env2 =>
        rw [e2] at h
        cases h
        rw [List.length_cons, evs_len (es := r) hn e2]
        rfl
theorem tE_callP {g : Nat} {perm : List Nat} {es : Es} {σ : L2.St} {H : Hp} {Q : VK} (h : tE G F hot B W (.call g perm [] es) σ H Q) : tEs G F hot B W es σ H fun vs H1 => (noStar es = true → vs.length = lenEs es) ∧ spF G F g none (permV perm vs) H1 Q (fun cls d H' => W cls d σ H') := by
  obtain ⟨Om, env, re, h⟩ := h
  refine ⟨Om, env, re, ?_⟩
  simp only [ev] at h
  cases e1 : evs F es env with
  | stk => rw [e1] at h; exact h
  | exc c pl env1 => rw [e1] at h; exact h
  | ok xs env1 =>
    rw [e1] at h
    simp only [R.bind, tempOk, if_true] at h
    intro vs H1 k1 re1 r1
    rw [permV_eq] at h
    exact ⟨fun hn => by rw [r1.length]; exact evs_len hn e1, call_none re1 (r1.perm perm) (fun a z => keep_none re1.om k1 z) k1 h⟩
theorem pE_callK {kws : List Keyword} {r : Es} {k g n : Nat} {x : Str} {p : Pos} {ks : List Str} {sd : Stmt} {ps : List Str} (perm : List Nat) (sx : Sx X G W) (hr : Room k X.A) (N : Kn X.prog X.w X.K X.mg X.base G F k g none x sd ps) (hg : Gl X x)
    (kb : ∀ (kV doc pm : Value) (an : Option Addr) (cdv ct : Value) (ws : List Value), ws.length = lenEs r → bindArgs (PySem.W.fnOf x x (defArgs sd) (defBody sd) (defScope sd) .none kV doc pm an cdv ct) ⟨[], ks.zip ws⟩ = pure (ps.zip (permV perm ws))) (hns : noStar r = true)
    (hkw : PK X kws (tEs G F hot B W r)) (hall : (backToKw pos (keywordEach kws X.env)).all (·.1.isSome) = true := by rfl) (hks : (backToKw pos (keywordEach kws X.env)).filterMap (·.1) = ks := by rfl) (hdb : (x == ("__debug__" : Str)) = false := by decide)
    (hpl : ((backTo pos (starEach [] X.env)).any (·.1) || (backToKw pos (keywordEach kws X.env)).any (·.1.isNone)) = false := by rfl) : PE X (.Call (.Name x p) [] kws pos) (tE G F hot B W (.call g perm [] r)) := by
  obtain ⟨f, fd, Fk, hm, hk, hb, _, Fd⟩ := N.ex
  obtain ⟨oc, od, kV, doc, pm, an, cdv, ct, osl, rfl, _, _⟩ := Fd.ex
  refine ⟨fun pins s σ H Q I h => ?_⟩
  refine wpAny_Call_Name_kw (ld_glob I hg hm ?_ hdb)
  refine PySem.W.callWith_KW0 (h₀ := X.base) I.ok.mod.kin hk hall ?_ hpl
  refine thn (hkw.run pos pins s σ H _ I (tE_callP h)) fun ws s2 ⟨zs, H2, I2, rz, hz, q⟩ => ⟨I2.kIn, ?_⟩
  rw [hks]
  have r2 : Vals (permV perm zs) (permV perm ws) := Vals.perm rz perm
  have hl : (permV perm ws).length = ps.length := by rw [← r2.length]; exact Fk.len _ _ _ _ q
  refine wpAny_call (codeAny_mono (Fk.run X.A X.stack s2 H2 ⟨[], ks.zip ws⟩ (permV perm ws) (permV perm zs) Q (fun cls d H' => W cls d σ H') hr I2.env0 (.of_eq (kb kV doc pm an cdv ct ws (by rw [← rz.length]; exact hz hns))) r2 q) fun r s' hq => ?_)
  cases r with
  | error e => exact (passAt sx σ) pins H2 s2 e s' I2 hq
  | ok fl => cases fl with
    | ret u => exact I2.after hq
    | next => exact False.elim hq
    | brk => exact False.elim hq
    | cont => exact False.elim hq
/-! ### isinstance -/
def tyN : PV → String
  | .non => "NoneType"
  | .bl _ => "bool"
  | .int _ => "int"
  | .str _ => "str"
  | .tup _ => "tuple"
  | .lst _ => "list"
  | _ => "object"
theorem Rep.ty {Om : Addr → Prop} {H : Hp} {x : PV} {v : V} (hK : X.K = G.K) (ok : okIsi x = true) (r : Rep G Om H x v) : TyX X.K H v (.type (tyN x)) := by
  cases x with
  | non => rw [show v = _ from r]; exact .base .non
  | bl b => rw [show v = _ from r]; exact .base (.bl b)
  | int i => rw [show v = _ from r]; exact .base (.int i)
  | str y => rw [show v = _ from r]; exact .base (.str y)
  | tup xs =>
    obtain ⟨p, vs, rfl, q, _⟩ := r
    rw [← hK] at q
    rcases q with (q | ⟨o, q⟩) | ⟨o, its, n, q, c, _⟩
    · exact .base (.tup q)
    · exact .fTuple q
    · exact .kTuple q c
  | lst xs =>
    obtain ⟨p, vs, rfl, n, q, _⟩ := r
    exact .base (.lst q)
  | _ => cases ok
def tyBits : List (String × Nat) := [("int", 1), ("bool", 2), ("str", 4), ("tuple", 8), ("list", 16)]
theorem kit_non_int : kitB "NoneType" "int" = some false := by decide +kernel
theorem kit_bl_int : kitB "bool" "int" = some true := by decide +kernel
theorem kit_int_int : kitB "int" "int" = some true := by decide +kernel
theorem kit_str_int : kitB "str" "int" = some false := by decide +kernel
theorem kit_tup_int : kitB "tuple" "int" = some false := by decide +kernel
theorem kit_lst_int : kitB "list" "int" = some false := by decide +kernel
theorem kit_non_bool : kitB "NoneType" "bool" = some false := by decide +kernel
theorem kit_bl_bool : kitB "bool" "bool" = some true := by decide +kernel
theorem kit_int_bool : kitB "int" "bool" = some false := by decide +kernel
theorem kit_str_bool : kitB "str" "bool" = some false := by decide +kernel
theorem kit_tup_bool : kitB "tuple" "bool" = some false := by decide +kernel
theorem kit_lst_bool : kitB "list" "bool" = some false := by decide +kernel
theorem kit_non_str : kitB "NoneType" "str" = some false := by decide +kernel
theorem kit_bl_str : kitB "bool" "str" = some false := by decide +kernel
theorem kit_int_str : kitB "int" "str" = some false := by decide +kernel
theorem kit_str_str : kitB "str" "str" = some true := by decide +kernel
theorem kit_tup_str : kitB "tuple" "str" = some false := by decide +kernel
theorem kit_lst_str : kitB "list" "str" = some false := by decide +kernel
theorem kit_non_tuple : kitB "NoneType" "tuple" = some false := by decide +kernel
theorem kit_bl_tuple : kitB "bool" "tuple" = some false := by decide +kernel
theorem kit_int_tuple : kitB "int" "tuple" = some false := by decide +kernel
theorem kit_str_tuple : kitB "str" "tuple" = some false := by decide +kernel
theorem kit_tup_tuple : kitB "tuple" "tuple" = some true := by decide +kernel
theorem kit_lst_tuple : kitB "list" "tuple" = some false := by decide +kernel
theorem kit_non_list : kitB "NoneType" "list" = some false := by decide +kernel
theorem kit_bl_list : kitB "bool" "list" = some false := by decide +kernel
theorem kit_int_list : kitB "int" "list" = some false := by decide +kernel
theorem kit_str_list : kitB "str" "list" = some false := by decide +kernel
theorem kit_tup_list : kitB "tuple" "list" = some false := by decide +kernel
theorem kit_lst_list : kitB "list" "list" = some true := by decide +kernel
theorem kit_is {x : PV} {T : String} {m : Nat} (ok : okIsi x = true) (h : (T, m) ∈ tyBits) : kitB (tyN x) T = some (isiP m x) := by
  simp only [tyBits, List.mem_cons, Prod.mk.injEq, List.not_mem_nil, or_false] at h
  rcases h with ⟨rfl, rfl⟩ | ⟨rfl, rfl⟩ | ⟨rfl, rfl⟩ | ⟨rfl, rfl⟩ | ⟨rfl, rfl⟩
  · cases x with
    | non => exact kit_non_int
    | bl _ => exact kit_bl_int
    | int _ => exact kit_int_int
    | str _ => exact kit_str_int
    | tup _ => exact kit_tup_int
    | lst _ => exact kit_lst_int
    | _ => cases ok
  · cases x with
    | non => exact kit_non_bool
    | bl _ => exact kit_bl_bool
    | int _ => exact kit_int_bool
    | str _ => exact kit_str_bool
    | tup _ => exact kit_tup_bool
    | lst _ => exact kit_lst_bool
    | _ => cases ok
  · cases x with
    | non => exact kit_non_str
    | bl _ => exact kit_bl_str
    | int _ => exact kit_int_str
    | str _ => exact kit_str_str
    | tup _ => exact kit_tup_str
    | lst _ => exact kit_lst_str
    | _ => cases ok
  · cases x with
    | non => exact kit_non_tuple
    | bl _ => exact kit_bl_tuple
    | int _ => exact kit_int_tuple
    | str _ => exact kit_str_tuple
    | tup _ => exact kit_tup_tuple
    | lst _ => exact kit_lst_tuple
    | _ => cases ok
  · cases x with
    | non => exact kit_non_list
    | bl _ => exact kit_bl_list
    | int _ => exact kit_int_list
    | str _ => exact kit_str_list
    | tup _ => exact kit_tup_list
    | lst _ => exact kit_lst_list
    | _ => cases ok
theorem pE_isi {p pT : Pos} {T : Str} {Ts : String} {m : Nat} (hK : X.K = G.K) (hT : (Ts, m) ∈ tyBits) (hg : Gl X "isinstance") (hm : X.mg "isinstance" = none) (hgT : Gl X T) (hmT : X.mg T = none) (hvT : bootBuiltins T = some (.type Ts)) (ha : PE X a (tE G F hot B W ia)) (hnT : T ≠ "__name__" := by decide) (hdT : (T == ("__debug__" : Str)) = false := by decide)
    (he : starEach [a, .Name T pT] X.env = (false, eval a X.env) :: starEach [.Name T pT] X.env := by rfl) (he2 : starEach [.Name T pT] X.env = [(false, eval (.Name T pT) X.env)] := by rfl) (hpl : (backTo pos (starEach [.Name T pT] X.env)).any (·.1) = false := by rfl) :
    PE X (.Call (.Name "isinstance" p) [a, .Name T pT] [] pos) (tE G F hot B W (.op (.isi m) (.cons ia .nil))) := by
  refine PE.imp (pe_callB call_isi hg hm PyProof.Rows.boot_isinstance (pa_cons ha (pa_cons (pe_bltn (v := .ty Ts) hgT hmT hvT rfl hnT hdT) pa_nil he2) he) (by decide) (by decide) he hpl) fun σ H Q h => ?_
  refine tE_mono (fun v H1 h1 => ?_) (tE_op1 h)
  obtain ⟨Om, ps, pv, om, rp, sem, q⟩ := h1
  obtain ⟨x, rfl, r⟩ := rp.one'
  simp only [opSem] at sem
  split at sem
  · rename_i ok
    cases sem
    exact ⟨v, .ty Ts, _, _, _, rfl, .ty Ts, r.ty hK ok, kit_ty (kit_is ok hT), q _ _ (Keep.refl H1) rfl fun z => Bool.noConfusion z⟩
  · cases sem
theorem isi_or {x : PV} {m n : Nat} (hm : (m = 1 ∨ m = 2 ∨ m = 4 ∨ m = 8 ∨ m = 16)) (hn : (n = 1 ∨ n = 2 ∨ n = 4 ∨ n = 8 ∨ n = 16)) (hne : m ≠ n) : isiP (m + n) x = (isiP m x || isiP n x) := by
  rcases hm with rfl | rfl | rfl | rfl | rfl <;> rcases hn with rfl | rfl | rfl | rfl | rfl <;> first | exact absurd rfl hne | (cases x <;> rfl)
theorem bits_of {T : String} {m : Nat} (h : (T, m) ∈ tyBits) : m = 1 ∨ m = 2 ∨ m = 4 ∨ m = 8 ∨ m = 16 := by
  simp only [tyBits, List.mem_cons, Prod.mk.injEq, List.not_mem_nil, or_false] at h
  omega
theorem pE_isi2 {p pT pU pt : Pos} {kt : Nat} {T U : Str} {Ts Us : String} {m n : Nat} (hK : X.K = G.K) (hT : (Ts, m) ∈ tyBits) (hU : (Us, n) ∈ tyBits) (hne : m ≠ n) (hg : Gl X "isinstance") (hm : X.mg "isinstance" = none) (hgT : Gl X T) (hmT : X.mg T = none) (hvT : bootBuiltins T = some (.type Ts)) (hgU : Gl X U) (hmU : X.mg U = none) (hvU : bootBuiltins U = some (.type Us))
    (ha : PE X a (tE G F hot B W ia)) (hnT : T ≠ "__name__" := by decide) (hdT : (T == ("__debug__" : Str)) = false := by decide) (hnU : U ≠ "__name__" := by decide) (hdU : (U == ("__debug__" : Str)) = false := by decide)
    (he : starEach [a, .Tuple [.Name T pT, .Name U pU] kt pt] X.env = (false, eval a X.env) :: starEach [.Tuple [.Name T pT, .Name U pU] kt pt] X.env := by rfl) (he2 : starEach [.Tuple [.Name T pT, .Name U pU] kt pt] X.env = [(false, eval (.Tuple [.Name T pT, .Name U pU] kt pt) X.env)] := by rfl)
    (he3 : starEach [.Name T pT, .Name U pU] X.env = (false, eval (.Name T pT) X.env) :: starEach [.Name U pU] X.env := by rfl) (he4 : starEach [.Name U pU] X.env = [(false, eval (.Name U pU) X.env)] := by rfl) (hpl : (backTo pos (starEach [.Tuple [.Name T pT, .Name U pU] kt pt] X.env)).any (·.1) = false := by rfl) :
    PE X (.Call (.Name "isinstance" p) [a, .Tuple [.Name T pT, .Name U pU] kt pt] [] pos) (tE G F hot B W (.op (.isi (m + n)) (.cons ia .nil))) := by
  refine PE.imp (pe_callB call_isiT hg hm PyProof.Rows.boot_isinstance (pa_cons ha (pa_cons (pe_tup (pa_cons (pe_bltn (v := .ty Ts) hgT hmT hvT rfl hnT hdT) (pa_cons (pe_bltn (v := .ty Us) hgU hmU hvU rfl hnU hdU) pa_nil he4) he3)) pa_nil he2) he) (by decide) (by decide) he hpl) fun σ H Q h => ?_
  refine tE_mono (fun v H1 h1 => ?_) (tE_op1 h)
  obtain ⟨Om, ps, pv, om, rp, sem, q⟩ := h1
  obtain ⟨x, rfl, r⟩ := rp.one'
  simp only [opSem] at sem
  split at sem
  · rename_i ok
    cases sem
    have hc := cap_line
    refine ⟨by show 2 ≤ sizeLine; omega, fun tp hp => ?_⟩
    refine ⟨v, tp, [.ty Ts, .ty Us], .type (tyN x), [.type Ts, .type Us], isiP (m + n) x, rfl, upd_same, .cons (.ty Ts) (.cons (.ty Us) .nil), (Rep.new (W := none1) hp r).ty hK ok, ?_, q _ _ (keep_new hp) rfl fun z => Bool.noConfusion z⟩
    rw [isi_or (bits_of hT) (bits_of hU) hne]
    refine kitAny_cons (kit_ty (kit_is ok hT)) (fun e => ?_) fun e => by rw [e]; rfl
    rw [e, Bool.false_or]
    refine kitAny_cons (kit_ty (kit_is ok hU)) (fun e => ?_) fun e => e
    rw [e]
    exact kitAny_nil
  · cases sem
end
end Sl

/-! Ev18: dicts whose keys are tuples. -/
namespace Sl
open PySem PySem.Spec PyProof.Rows L2
abbrev NX := NestedKey × Addr × Value
section
variable (G : Gx) (Om : Addr → Prop) (H : Hp)
/-- trees and the table of a dict -/
def DX : List PV → List PV → List NX → Prop
  | [], vs, xs => vs = [] ∧ xs = []
  | k :: ks, vs, xs => ∃ v vr x xr u, vs = v :: vr ∧ xs = x :: xr ∧ x.1 = keyP k ∧ Rep G Om H k (.ref x.2.1) ∧ RelV u x.2.2 ∧ Rep G Om H v u ∧ DX ks vr xr
end
section
variable {G : Gx} {F : Fn} {wn : Nat} {hot : List Nat} {B : Bs} {W : WX} {X : Cx} {a b c : Expr} {ia ib ic : E} {pos : Pos} {Om : Addr → Prop} {H H' : Hp} {pins : List (Addr × Obj)} {s : Shared} {σ : L2.St}
theorem DX.of (P : Program) : ∀ {ks vs : List PV} {es : List DictEntry} {xs : List NX}, RepK G Om H ks es → RepE G Om H vs es → es = xs.map (entryOfKey (nestedKind P G.w)) → xs.map (·.1) = keyPs ks → DX G Om H ks vs xs
  | [], vs, es, xs, rk, re, e, e2 => by
    rw [show es = [] from rk] at e re
    have hx : xs = [] := List.map_eq_nil_iff.mp e.symm
    subst hx
    cases vs with
    | nil => exact ⟨rfl, rfl⟩
    | cons v vr => obtain ⟨_, _, _, q, _⟩ := re; cases q
  | k :: ks, vs, es, xs, rk, re, e, e2 => by
    obtain ⟨e0, er, v0, rfl, h1, h2, h3, h4⟩ := rk
    cases xs with
    | nil => cases e
    | cons x xr =>
      simp only [List.map_cons, List.cons.injEq, keyPs] at e e2
      cases vs with
      | nil => cases (show e0 :: er = [] from re)
      | cons v vr =>
        obtain ⟨f0, fr, u, q, g1, g2, g3⟩ := re
        cases q
        obtain ⟨q1, q2⟩ := e
        subst q1
        have hv : v0 = .ref x.2.1 := by
          cases v0 with
          | ref p => cases (show (Value.ref x.2.1) = Value.ref p from h2); rfl
          | int i => obtain ⟨_, q⟩ := h2; cases q
          | str i => obtain ⟨_, q⟩ := h2; cases q
          | byt i => obtain ⟨_, q⟩ := h2; cases q
          | flt i => obtain ⟨_, q⟩ := h2; cases q
          | non => cases h2
          | bl _ => cases h2
          | ty _ => cases h2
        subst hv
        exact ⟨v, vr, x, xr, u, rfl, rfl, e2.1, h3, g1, g2, DX.of P h4 g3 q2 e2.2⟩
theorem DX.to (P : Program) : ∀ {ks vs : List PV} {xs : List NX}, DX G Om H ks vs xs → RepK G Om H ks (xs.map (entryOfKey (nestedKind P G.w))) ∧ RepE G Om H vs (xs.map (entryOfKey (nestedKind P G.w))) ∧ xs.map (·.1) = keyPs ks
  | [], vs, xs, h => by
    obtain ⟨rfl, rfl⟩ := h
    exact ⟨rfl, rfl, rfl⟩
  | k :: ks, vs, xs, h => by
    obtain ⟨v, vr, x, xr, u, rfl, rfl, h1, h2, h3, h4, h5⟩ := h
    obtain ⟨a1, a2, a3⟩ := DX.to P h5
    refine ⟨⟨_, _, .ref x.2.1, rfl, ?_, rfl, h2, a1⟩, ⟨_, _, u, rfl, h3, h4, a2⟩, ?_⟩
    · show x.1.hash G.w = _
      rw [h1]
    · rw [List.map_cons, h1, a3]
      rfl
theorem DX.keep {W : Addr → Prop} (k : Keep W H H') (hw : ∀ b, W b → ∃ o, H b = some o ∧ Own1 o) (hs : ∀ a, W a → Om a) : ∀ {ks vs : List PV} {xs : List NX}, DX G Om H ks vs xs → DX G Om H' ks vs xs
  | [], vs, xs, h => h
  | z :: ks, vs, xs, h => by
    obtain ⟨v, vr, x, xr, u, rfl, rfl, h1, h2, h3, h4, h5⟩ := h
    exact ⟨v, vr, x, xr, u, rfl, rfl, h1, Rep.keep k hw hs z _ h2, h3, Rep.keep k hw hs v u h4, DX.keep k hw hs h5⟩
theorem DX.length : ∀ {ks vs : List PV} {xs : List NX}, DX G Om H ks vs xs → xs.length = ks.length ∧ vs.length = ks.length
  | [], vs, xs, h => by
    obtain ⟨rfl, rfl⟩ := h
    exact ⟨rfl, rfl⟩
  | z :: ks, vs, xs, h => by
    obtain ⟨v, vr, x, xr, u, rfl, rfl, h1, h2, h3, h4, h5⟩ := h
    obtain ⟨l1, l2⟩ := DX.length h5
    exact ⟨by simp [l1], by simp [l2]⟩
theorem stored_cons {x : NX} {xs : List NX} {k : NestedKey} {p : Addr} {v : Value} (hn : ((x :: xs).map (·.1)).Nodup) : storedH (x :: xs) k p v = if x.1 = k then (x.1, x.2.1, v) :: xs else x :: storedH xs k p v := by
  unfold storedH
  rw [atKey_cons]
  simp only [List.map_cons, List.nodup_cons] at hn
  by_cases h : x.1 = k
  · rw [if_pos h, if_pos h]
    simp only [Option.isSome_some, if_true, List.map_cons]
    have h1 : PySem.putAt k v x = (x.1, x.2.1, v) := by unfold PySem.putAt; rw [if_pos h]
    have h2 : xs.map (PySem.putAt k v) = xs := by
      have : ∀ y ∈ xs, PySem.putAt k v y = y := fun y hy => by
        unfold PySem.putAt
        rw [if_neg fun z => hn.1 (by rw [h, ← z]; exact List.mem_map.mpr ⟨y, hy, rfl⟩)]
      exact (List.map_congr_left this).trans (List.map_id' xs)
    rw [h1, h2]
  · rw [if_neg h, if_neg h]
    have h1 : PySem.putAt k v x = x := by unfold PySem.putAt; rw [if_neg h]
    by_cases hs : (atKey xs k).isSome = true
    · rw [if_pos hs, if_pos hs, List.map_cons, h1]
    · rw [if_neg hs, if_neg hs]
      rfl
theorem keyPs_mem {x : NX} : ∀ {ks vs : List PV} {xs : List NX}, DX G Om H ks vs xs → xs.map (·.1) = keyPs ks := fun h => (DX.to (default : Program) h).2.2
/-- one pair is put -/
theorem DX.put {k v : PV} {p : Addr} {u : V} {w : Value} (hk : partKey k = true) (rk : Rep G Om H k (.ref p)) (ru : RelV u w) (rv : Rep G Om H v u) : ∀ {ks vs : List PV} {xs : List NX}, (∀ z ∈ ks, partKey z = true) → (keyPs ks).Nodup → DX G Om H ks vs xs →
    DX G Om H (putK k v ks vs).1 (putK k v ks vs).2 (storedH xs (keyP k) p w) ∧ (keyPs (putK k v ks vs).1).Nodup ∧ (∀ z ∈ (putK k v ks vs).1, partKey z = true) ∧ (∀ z, z ∈ keyPs (putK k v ks vs).1 → z ∈ keyPs ks ∨ z = keyP k)
  | [], vs, xs, hks, hn, h => by
    obtain ⟨rfl, rfl⟩ := h
    refine ⟨⟨v, [], (keyP k, p, w), [], u, rfl, rfl, rfl, rk, ru, rv, rfl, rfl⟩, by simp [putK, keyPs], fun z hz => ?_, fun z hz => ?_⟩
    · simp [putK] at hz; rw [hz]; exact hk
    · simp [putK, keyPs] at hz; exact .inr hz
  | z :: ks, vs, xs, hks, hn, h => by
    have hd := h
    obtain ⟨v0, vr, x, xr, u0, rfl, rfl, h1, h2, h3, h4, h5⟩ := h
    have hz := hks z List.mem_cons_self
    have hm : (x :: xr).map (·.1) = keyPs (z :: ks) := (DX.to (default : Program) hd).2.2
    rw [stored_cons (by rw [hm]; exact hn)]
    simp only [putK]
    rw [keyEq' hz hk, h1]
    simp only [keyPs, List.nodup_cons] at hn
    by_cases e : keyP z = keyP k
    · rw [decide_eq_true e, if_pos e]
      simp only [if_true]
      refine ⟨⟨v, vr, (x.1, x.2.1, w), xr, u, rfl, by rw [h1], h1, h2, ru, rv, h5⟩, by simp only [keyPs, List.nodup_cons]; exact hn, hks, fun y hy => .inl hy⟩
    · rw [decide_eq_false e, if_neg e]
      simp only [Bool.false_eq_true, if_false]
      obtain ⟨a1, a2, a3, a4⟩ := DX.put hk rk ru rv (fun y hy => hks y (List.mem_cons_of_mem _ hy)) hn.2 h5
      refine ⟨⟨v0, _, x, _, u0, rfl, rfl, h1, h2, h3, h4, a1⟩, ?_, fun y hy => ?_, fun y hy => ?_⟩
      · simp only [keyPs, List.nodup_cons]
        refine ⟨fun q => ?_, a2⟩
        rcases a4 _ q with q | q
        · exact hn.1 q
        · exact e q
      · rcases List.mem_cons.mp hy with q | q
        · rw [q]; exact hz
        · exact a3 y q
      · simp only [keyPs, List.mem_cons] at hy ⊢
        rcases hy with q | q
        · exact .inl (.inl q)
        · rcases a4 y q with q | q
          · exact .inl (.inr q)
          · exact .inr q
/-- pairs are put, from the left -/
theorem DX.putAll : ∀ {as bs : List PV} {ys : List NX} {ks vs : List PV} {xs : List NX}, (∀ z ∈ as, partKey z = true) → DX G Om H as bs ys → (∀ z ∈ ks, partKey z = true) → (keyPs ks).Nodup → DX G Om H ks vs xs →
    DX G Om H (Sl.putAll ks vs as bs).1 (Sl.putAll ks vs as bs).2 (storedAllH xs ys) ∧ (keyPs (Sl.putAll ks vs as bs).1).Nodup
  | [], bs, ys, ks, vs, xs, _, h, hks, hn, hx => by
    obtain ⟨rfl, rfl⟩ := h
    exact ⟨hx, hn⟩
  | k :: as, bs, ys, ks, vs, xs, ha, h, hks, hn, hx => by
    obtain ⟨v, vr, x, xr, u, rfl, rfl, h1, h2, h3, h4, h5⟩ := h
    have hk := ha k List.mem_cons_self
    obtain ⟨a1, a2, a3, _⟩ := DX.put hk h2 h3 h4 hks hn hx
    have := DX.putAll (fun z hz => ha z (List.mem_cons_of_mem _ hz)) h5 a3 a2 a1
    simp only [Sl.putAll]
    unfold storedAllH
    rw [List.foldl_cons, h1]
    exact this

theorem dO_ok {P : Program} {w : World} {H : Hp} {h : Heap} {d : Addr} {xs : List NX} (hd : h.DictOfH (nestedKind P w) d xs) : ObjOk P w H h d (dO d (xs.map (entryOfKey (nestedKind P w)))) := by
  obtain ⟨o, es, ep, ho, hx, hdat, he, _, _⟩ := hd
  have e1 : es = (xs.map (entryOfKey (nestedKind P w))).toArray := by rw [← he]
  refine ⟨⟨o, ep, ho, hx, by rw [← e1]; exact hdat⟩, ⟨o, ho⟩, fun h1 h2 ⟨o', ep', q1, q2, q3⟩ k => ⟨o', ep', k _ q1, q2, q3⟩⟩
theorem dO_type {P : Program} {w : World} {H : Hp} {s : Shared} {d : Addr} {es : List DictEntry} (h : ObjOk P w H s.heap d (dO d es)) : s.TypeIs (.ref d) "dict" ∧ ∀ a, Value.ref d = .ref a → ∃ ob, s.heap.get? a = some ob ∧ ob.dict = none := by
  obtain ⟨⟨o, ep, ho, hx, hd⟩, _⟩ := h
  refine ⟨⟨o, ho, hx.1⟩, fun a e => ?_⟩
  cases e
  exact ⟨o, ho, hx.2.1⟩
/-- {} -/
def tDN0 : TE := fun _ H Q => ∀ p, H p = none → (p == sysModules) = false → Q (.ref p) (upd H p (dO p []))
theorem pe_dn0 : PE X (.Dict [] [] pos) tDN0 := ⟨fun pins s σ H Q I h => by
  have hb := I.big
  refine wpAny_Dict_empty ⟨.ref s.heap.objs.size, _, I.laid (a := s.heap.objs.size) (o := dO s.heap.objs.size []) (t' := s.toks) (fun _ _ q => Heap.get?_push_of_some _ q) (Nat.le_refl _) ?_, rfl, h _ (I.hok.fresh (Nat.le_refl _)) (beq_eq_false_iff_ne.mpr (Ne.symm (Nat.ne_of_lt hb)))⟩
  exact dO_ok (P := X.prog) (w := X.w) (xs := []) (Heap.DictOfH.new s.heap)⟩
theorem pE_dn0 : PE X (.Dict [] [] pos) (tE G F hot B W (.dnew .nil .nil)) := by
  refine PE.imp pe_dn0 fun σ H Q ⟨Om, env, re, h⟩ p hp hs => ?_
  have r : ∀ {Om : Addr → Prop}, OmOk Om H → Rep G Om (upd H p (dO p [])) (.dct [] []) (.ref p) := fun om => ⟨p, [], rfl, om.new hp, upd_same, Nat.zero_le _, hs, List.nodup_nil, rfl, rfl⟩
  exact h (.ref p) _ (keep_new hp) (re.keep (keep_new hp)) (r fun a z => re.om a z.1) fun _ => NewE.of re (keep_new hp) (x := .dct [] []) ⟨p, [], rfl, hp, upd_same⟩ fun _ z => z
/-! ### x[k] = e -/
def rSetA (G : Gx) : V → V → V → Hp → (Hp → Prop) → Prop := fun o i v H Q => ∃ Om p x k y z, o = .ref p ∧ OmOk Om H ∧ Om p ∧ Root G Om H x p ∧ Rep G Om H k i ∧ Rep G Om H y v ∧ putAt k y x = some z ∧ ∀ H', Keep (fun b => b = p) H H' → OmOk Om H' → Root G Om H' z p → Q H'
theorem Root.dx (I : L2.Inv X pins σ H s) (hK : X.K = G.K) (hw : X.w = G.w) {ks vs : List PV} {d : Addr} (hk : ∀ k ∈ ks, tupKey k = true) (h : Root G Om H (.dct ks vs) d) :
    ∃ xs : List NX, H d = some (dO d (xs.map (entryOfKey (nestedKind X.prog X.w)))) ∧ xs.length ≤ sizeLine ∧ (d == sysModules) = false ∧ (keyPs ks).Nodup ∧ DX G Om H ks vs xs ∧ s.heap.DictOfH (nestedKind X.prog X.w) d xs := by
  obtain ⟨es, hH, hz, hS, nd, rk, re⟩ := h
  obtain ⟨xs, e1, e2, e3, hd⟩ := Rep.dictH I hK hw hk hH nd rk
  refine ⟨xs, by rw [← e1]; exact hH, by rw [e1, List.length_map] at hz; exact hz, hS, nd, DX.of X.prog rk re (by rw [e1, hw]) e2, hd⟩
theorem Root.ofDx {P : Program} {ks vs : List PV} {d : Addr} {xs : List NX} (h : H d = some (dO d (xs.map (entryOfKey (nestedKind P G.w))))) (hl : xs.length ≤ sizeLine) (hS : (d == sysModules) = false) (nd : (keyPs ks).Nodup) (dx : DX G Om H ks vs xs) : Root G Om H (.dct ks vs) d := by
  obtain ⟨a1, a2, _⟩ := DX.to P dx
  exact ⟨_, h, by rw [List.length_map]; exact hl, hS, nd, a1, a2⟩
theorem putK_len (k v : PV) : ∀ (ks vs : List PV), (putK k v ks vs).1.length ≤ ks.length + 1
  | [], vs => by simp [putK]
  | z :: ks, [] => by simp [putK]
  | z :: ks, y :: vs => by
    simp only [putK]
    split
    · simp
    · have := putK_len k v ks vs
      simp only [List.length_cons]
      omega
theorem set_any (hK : X.K = G.K) (hw : X.w = G.w) (hu : X.A.units + 70 < cLine) : PSet X (rSetA G) := by
  intro pins s σ H o i v ov iv u Q I ro ri rv ⟨Om, p, x, k, y, z, eo, om, op, rx, rk, ry, sem, q⟩
  subst eo
  have hc := cap_line
  cases x with
  | lst xs =>
    obtain ⟨ws, hH, rs⟩ := rx
    cases k <;> simp only [putAt] at sem <;> first | (cases sem; done) | skip
    rename_i n
    cases e1 : ixOf xs.length n with
    | none => rw [e1] at sem; cases sem
    | some j =>
      rw [e1] at sem
      cases sem
      refine set_list pins s σ H _ i v ov iv u Q I ro ri rv ⟨p, ws, n, j, rfl, rk, hH, by rw [rs.length]; exact ixOf_ixN e1, ?_⟩
      refine q _ keep_upd (om_upd om (.inl ⟨_, rfl⟩)) ⟨_, upd_same, (rs.upd1 om op).set j (ry.upd1 om op)⟩
  | dct ks vs =>
    simp only [putAt] at sem
    split at sem
    · rename_i hg
      split at sem
      · rename_i hs
        cases sem
        have hs := short_lt hs
        have hk := goodKeys_inv hg
        have tk := hk k List.mem_cons_self
        have hks : ∀ z ∈ ks, tupKey z = true := fun z hz => hk z (List.mem_cons_of_mem _ hz)
        obtain ⟨xs, hH, hz, hS, nd, dx, hd⟩ := Root.dx I hK hw hks rx
        have hn := Rep.key I hK k i iv (tup_part tk) rk ri
        cases k with
        | tup ts =>
          obtain ⟨b, rfl, rfl⟩ := Rep.tupAt rk ri
          cases ro
          obtain ⟨a1, a2, a3, _⟩ := DX.put (tup_part tk) rk rv ry (fun z hz => tup_part (hks z hz)) nd dx
          refine wpAny_setItem_heap (knd := nestedKind X.prog X.w) (room_nested hu) ⟨hn, tup_depth tk⟩ hd (fun h' hd' sb => ?_) hz
          have hl := (DX.length a1).1
          obtain ⟨ob, es, ep, ho, _⟩ := id hd'
          refine ⟨_, I.write (x := p) (e := p) (o := dO p ((storedH xs (keyP (.tup ts)) b u).map (entryOfKey (nestedKind X.prog X.w)))) (t' := s.toks + (nestedKind X.prog X.w).draws (keyP (.tup ts))) (by rw [hH]; trivial) (.inl rfl) (fun c o hc e => (sb.2 c hc).trans e) ⟨ob, ho⟩ (dO_ok hd'), ?_⟩
          refine q _ keep_upd (om_upd om (.inr ⟨_, rfl⟩)) (Root.ofDx (P := X.prog) (xs := storedH xs (keyP (.tup ts)) b u) ?_ (by omega) hS a2 (a1.keep keep_upd (hwA om op) (subA op)))
          rw [upd_same, hw]
        | _ => simp [tupKey] at tk
      · cases sem
    · cases sem
  | _ => exact rx.elim
theorem tS_sub {i : Nat} {k e : E} {D : Ends} {σ : L2.St} {H : Hp} (hi : i ∈ hot) (hp : disj (peeks e) hot = true) (hk : disj (peeks k) hot = true) (h : tS G F wn hot B W (.asg (.sub i k) e) D σ H) : tAsg (tE G F hot B W e) (gSub (tVar i) (tE G F hot B W k) (rSetA G)) D σ H := by
  obtain ⟨Om, env, re, h⟩ := h
  simp only [ex] at h
  refine tS_bind re h fun y env' v H' re' kp r fr h => ?_
  simp only [asgT] at h
  cases e0 : getE env' i with
  | none => simp [e0, R.bind] at h; exact h.elim
  | some o0 =>
    obtain ⟨p, ep, op, _, _⟩ := re'.root i o0 e0 hi
    refine ⟨.ref p, ep, ?_⟩
    simp only [e0, Option.isSome_some, if_true] at h
    have ry : Rep G Om H' y v := r.of_cold hp
    refine ⟨Om, env', re', ?_⟩
    cases e1 : ev F k env' with
    | stk => rw [e1] at h; exact h
    | exc c pl env1 => rw [e1] at h; exact fun cls d H2 k2 re2 er => h Om cls d σ H2 re2 ⟨k2, fun _ z => .inl z⟩ er
    | ok z env1 =>
      rw [e1] at h
      simp only [R.bind] at h
      intro iv H2 k2 re2 r2 _
      have h := Pst.back (keepExt k2) h
      cases e2 : getE env1 i with
      | none => rw [e2] at h; exact h.elim
      | some o =>
        rw [e2] at h
        simp only at h
        cases e3 : putAt z y o with
        | none => rw [e3] at h; exact h.elim
        | some o' =>
          rw [e3] at h
          obtain ⟨p', ep', op', _, rr⟩ := re2.root i o e2 hi
          rw [ep] at ep'; cases ep'
          refine ⟨Om, p, o, z, y, o', rfl, re2.om, op', rr, r2.of_cold hk, Rep.keep k2 (hwR re'.om) (fun a q => q.1) y v ry, e3, fun H3 k3 om3 r3 => ?_⟩
          exact Pst.new h (k3.mono (subA op')) (fun _ q => .inl q) (re2.put hi e2 ep k3 (fun _ q => q) (fun _ q => .inl q) re2.new om3 r3)
theorem pS_sub {x : Str} {px ps : Pos} (i : Nat) (hK : X.K = G.K) (hw : X.w = G.w) (hu : X.A.units + 70 < cLine) (ha : PE X a (tE G F hot B W ia)) (hb : PE X b (tE G F hot B W ib)) (hi : i ∈ hot := by decide) (hp : disj (peeks ia) hot = true := by rfl) (hk : disj (peeks ib) hot = true := by rfl) (hN : X.N[i]? = some x := by rfl)
    (hv : Vis X.env.scope x := by first | exact Or.inl rfl | exact Or.inr (Or.inl rfl) | exact Or.inr (Or.inr rfl)) (hd : (x == ("__debug__" : Str)) = false := by decide) (hcd : (x == ("__classdict__" : Str)) = false := by decide)
    (hasg : ∀ v, assign (.Subscript (.Name x px) b ps) X.env v = (do
      let ov ← holding [v] (eval (.Name x px) X.env)
      let iv ← holding [v, ov] (eval b X.env)
      standAt ps
      holding [v, ov, iv] (setItem ov iv v)
      release [v, ov, iv] []) := by intros; rfl)
    (hs : swapsWithSole [.Subscript (.Name x px) b ps] a pos.line X.env = pure false := by rfl) (hw' : swappedStores [.Subscript (.Name x px) b ps] a X.env = pure none := by rfl) :
    PS X (.Assign [.Subscript (.Name x px) b ps] a pos) (tS G F wn hot B W (.asg (.sub i ib) ia)) :=
  PS.imp (ps_asg ha (pg_sub (pe_var hN hv hd hcd) hb (set_any hK hw hu) hasg) hs hw') fun _ _ _ h => tS_sub hi hp hk h
end
end Sl

/-! Ev19: dict(pairs), d.update(pairs). -/
namespace Sl
open PySem PySem.Spec PyProof.Rows L2
section
variable {G : Gx} {F : Fn} {wn : Nat} {hot : List Nat} {B : Bs} {W : WX} {X : Cx} {a b c : Expr} {ia ib ic : E} {pos : Pos} {Om : Addr → Prop} {H H' : Hp} {pins : List (Addr × Obj)} {s : Shared} {σ : L2.St}
theorem pairs_ex (I : L2.Inv X pins σ H s) (hK : X.K = G.K) : ∀ {xs : List PV} {ws : List V} {its : List Value} {ks vs : List PV}, Reps G Om H xs ws → Vals ws its → pairsOf xs = some (ks, vs) → (∀ k ∈ ks, tupKey k = true) →
    ∃ (Tl : List Addr) (ys : List NX), its = Tl.map Value.ref ∧ ys.length = xs.length ∧ Tl.length = xs.length ∧ DX G Om H ks vs ys ∧ (∀ y ∈ ys, NestedIs s.heap y.1 (.ref y.2.1) ∧ y.1.depth ≤ 8) ∧ ∀ (j : Nat) (y : NX) (T : Addr), ys[j]? = some y → Tl[j]? = some T → s.heap.IsTuple T #[.ref y.2.1, y.2.2]
  | [], ws, its, ks, vs, r, v, e, hk => by
    cases e
    rw [show ws = [] from r] at v
    cases v
    exact ⟨[], [], rfl, rfl, rfl, ⟨rfl, rfl⟩, (fun y hy => nomatch hy), fun j y T h => by simp at h⟩
  | x :: xs, ws, its, ks, vs, r, v, e, hk => by
    obtain ⟨w, wr, rfl, r1, r2⟩ := r
    cases v with
    | cons v1 v2 =>
      rename_i u ur
      have hx : ∃ k y, x = .tup [k, y] ∧ (pairsOf xs).map (fun r => (k :: r.1, y :: r.2)) = some (ks, vs) := by
        cases x with
        | tup ts =>
          match ts, e with
          | [], e => simp [pairsOf] at e
          | [_], e => simp [pairsOf] at e
          | [k, y], e => exact ⟨k, y, rfl, e⟩
          | _ :: _ :: _ :: _, e => simp [pairsOf] at e
        | _ => simp [pairsOf] at e
      obtain ⟨k, y, rfl, e⟩ := hx
      obtain ⟨⟨ks', vs'⟩, e1, e2⟩ := Option.map_eq_some_iff.mp e
      cases e2
      obtain ⟨Tl, ys, a1, a2, a3, a4, a5, a6⟩ := pairs_ex I hK r2 v2 e1 fun z hz => hk z (List.mem_cons_of_mem _ hz)
      obtain ⟨T, vs2, rfl, q, rs⟩ := r1
      obtain ⟨vk, vy, rfl, rk, ry⟩ := rs.two
      obtain ⟨its2, rv2, tp, _⟩ := I.tuple (hK ▸ q)
      obtain ⟨uk, uy, rfl, ruk, ruy⟩ := rv2.two
      have tk := hk k List.mem_cons_self
      have hn := Rep.key I hK k vk uk (tup_part tk) rk ruk
      cases k with
      | tup ts =>
        obtain ⟨p, rfl, rfl⟩ := Rep.tupAt rk ruk
        cases (show u = Value.ref T from v1)
        refine ⟨T :: Tl, (keyP (.tup ts), p, uy) :: ys, by rw [a1]; rfl, by simp [a2], by simp [a3], ⟨_, _, _, _, vy, rfl, rfl, rfl, rk, ruy, ry, a4⟩, fun y hy => ?_, fun j y T' h1 h2 => ?_⟩
        · rcases List.mem_cons.mp hy with z | z
          · rw [z]; exact ⟨hn, tup_depth tk⟩
          · exact a5 y z
        · cases j with
          | zero => cases h1; cases h2; exact tp
          | succ j => exact a6 j y T' (by simpa using h1) (by simpa using h2)
      | _ => simp [tupKey] at tk
/-- the list as the library's rules want it -/
theorem pairs_arg {l : Addr} {its : List Value} {Tl : List Addr} {tb : List NX} {m : Nat} (a1 : its = Tl.map Value.ref) (a2 : tb.length = m) (a3 : Tl.length = m) (a6 : ∀ (j : Nat) (y : NX) (T : Addr), tb[j]? = some y → Tl[j]? = some T → s.heap.IsTuple T #[.ref y.2.1, y.2.2]) :
    PairItems s.heap its.toArray (fun j => Tl.getD j 0) (tb.map fun y => (Value.ref y.2.1, y.2.2)) := by
  refine ⟨by rw [List.size_toArray, a1, List.length_map, List.length_map, a2, a3], fun j k v hj => ?_⟩
  rw [List.getElem?_map] at hj
  obtain ⟨y, ey, e2⟩ := Option.map_eq_some_iff.mp hj
  cases e2
  have hlt : j < Tl.length := by
    have := (List.getElem?_eq_some_iff.mp ey).1
    omega
  have eT : Tl[j]? = some (Tl.getD j 0) := by
    rw [List.getD_eq_getElem?_getD, List.getElem?_eq_getElem hlt]
    rfl
  refine ⟨?_, .inl (a6 j y _ ey eT)⟩
  rw [a1, List.getElem?_toArray, List.getElem?_map, eT]
  rfl
theorem pairs_rel {tb : List NX} {i : Nat} {k v : Value} (hj : PairRel (tb.map fun y => (Value.ref y.2.1, y.2.2)) i k v) : ∃ k' b, tb[i]? = some (k', b, v) ∧ k = .ref b := by
  have hj : (tb.map fun y => (Value.ref y.2.1, y.2.2))[i]? = some (k, v) := hj
  rw [List.getElem?_map] at hj
  obtain ⟨y, ey, e2⟩ := Option.map_eq_some_iff.mp hj
  cases e2
  exact ⟨y.1, y.2.1, ey, rfl⟩
theorem cr_dict (hK : X.K = G.K) (hw : X.w = G.w) (hc : X.calm = true) (hu : X.A.units + 70 < cLine) : CallR X (.type "dict") (rP G .dict) := by
  intro pins s σ H vs us Q I rx h
  obtain ⟨Om, x, pv, v, om, rfl, r, sem, q⟩ := one_sem h fun pvs pv e => by
    cases pvs with
    | nil => cases e
    | cons x t => cases t with
      | nil => exact ⟨x, rfl⟩
      | cons y t => cases x <;> cases e
  cases x <;> simp only [opSem, opDict] at sem <;> first | (cases sem; done) | skip
  rename_i xs
  cases e : pairsOf xs with
  | none => rw [e] at sem; cases sem
  | some kv =>
    obtain ⟨ks, ys⟩ := kv
    rw [e] at sem
    simp only at sem
    split at sem
    · rename_i hg
      cases sem
      have hk := goodKeys_inv hg
      obtain ⟨l, ws, rfl, n, hH, rs⟩ := r
      obtain ⟨u, rfl, ru⟩ := vals1 rx
      cases ru
      obtain ⟨z, its, c0, rv, hl, eo⟩ := I.lstM hH
      obtain ⟨Tl, tb, a1, a2, a3, dx, a5, a6⟩ := pairs_ex I hK rs rv e hk
      have lt : ∀ {b : Addr} {o : Obj}, s.heap.get? b = some o → b ≠ s.heap.objs.size := fun q => Nat.ne_of_lt (Heap.lt_size q)
      have P := PairArg.list (prog := X.prog) (w := X.w) l its.toArray (fun j => Tl.getD j 0) (tb.map fun y => (Value.ref y.2.1, y.2.2))
      have pit := pairs_arg (l := l) a1 a2 a3 a6
      have hb := I.big
      refine call_dict_pairsH (knd := nestedKind X.prog X.w) (ps := tb) P (I.ok.hd hc) (by show X.A.units + 1 + 1 + 8 < cLine; omega) ⟨⟨_, _, eo, rfl, rfl, rfl⟩, pit⟩ ⟨(List.length_map _).symm, fun i k v hj => pairs_rel hj⟩ (fun h' hk' y hy => ?_) (by rw [List.length_map, a2, ← rs.length]; exact z) (fun h' tk hd' hk' => ?_)
      · obtain ⟨g1, g2⟩ := a5 y hy
        exact ⟨NestedIs.at (fun b ob vs n hb' hc' => hk' b ob (lt hb') (by simp) hb') _ _ g1, g2⟩
      · obtain ⟨dxa, nda⟩ := DX.putAll (Om := Om) (H := H) (ks := []) (vs := []) (xs := []) (fun z hz => tup_part (hk z hz)) dx (fun z hz => by cases hz) List.nodup_nil ⟨rfl, rfl⟩
        have hn := I.hok.fresh (Nat.le_refl s.heap.objs.size)
        have hlen : (storedAllH ([] : List NX) tb).length ≤ sizeLine := by
          have := storedAllH_length tb []
          rw [List.length_nil, Nat.zero_add, a2, ← rs.length] at this
          exact Nat.le_trans this z
        obtain ⟨d1, d2, _⟩ := DX.to X.prog dxa
        refine ⟨.ref s.heap.objs.size, upd H s.heap.objs.size (dO s.heap.objs.size ((storedAllH [] tb).map (entryOfKey (nestedKind X.prog X.w)))), I.laid (t' := tk) (fun c o e => hk' c o (by simp) e) (Nat.le_refl _) (dO_ok hd'), rfl, q _ _ (keep_new hn) ?_ fun _ => ⟨_, _, rfl, hn, upd_same⟩⟩
        refine ⟨s.heap.objs.size, _, rfl, om.new hn, upd_same, by rw [List.length_map]; exact hlen, beq_eq_false_iff_ne.mpr (Ne.symm (Nat.ne_of_lt hb)), nda, ?_, ?_⟩
        · rw [hw]; exact RepK.keep (W := none1) (keep_new hn) hw0 (fun _ z => z.elim) _ _ d1
        · rw [hw]; exact RepE.keep (W := none1) (keep_new hn) hw0 (fun _ z => z.elim) _ _ d2
    · cases sem

/-- d.update(pairs): x the own dict's tree -/
def rUpd (G : Gx) : V → List V → Hp → VK → Prop := fun o vs H Q => ∃ Om p x y v z, o = .ref p ∧ vs = [v] ∧ OmOk Om H ∧ Om p ∧ Root G Om H x p ∧ Rep G Om H y v ∧ updBy y x = some z ∧ ∀ H', Keep (fun b => b = p) H H' → OmOk Om H' → Root G Om H' z p → Q .non H'
theorem putAll_len : ∀ (as bs ks vs : List PV), (putAll ks vs as bs).1.length ≤ ks.length + as.length
  | [], bs, ks, vs => by simp [putAll]
  | k :: as, [], ks, vs => by simp [putAll]
  | k :: as, b :: bs, ks, vs => by
    simp only [putAll]
    have h1 := putAll_len as bs (putK k b ks vs).1 (putK k b ks vs).2
    have h2 := putK_len k b ks vs
    simp only [List.length_cons]
    omega
theorem pairsOf_len : ∀ {xs ks vs : List PV}, pairsOf xs = some (ks, vs) → ks.length = xs.length
  | [], ks, vs, h => by cases h; rfl
  | x :: xs, ks, vs, h => by
    cases x with
    | tup ts =>
      match ts, h with
      | [], h => simp [pairsOf] at h
      | [_], h => simp [pairsOf] at h
      | [k, y], h =>
        obtain ⟨⟨ks', vs'⟩, e1, e2⟩ := Option.map_eq_some_iff.mp (show (pairsOf xs).map (fun r => (k :: r.1, y :: r.2)) = some (ks, vs) from h)
        cases e2
        rw [List.length_cons, pairsOf_len e1, List.length_cons]
      | _ :: _ :: _ :: _, h => simp [pairsOf] at h
    | _ => simp [pairsOf] at h
theorem mt_upd (hK : X.K = G.K) (hw : X.w = G.w) (hc : X.calm = true) (hu : X.A.units + 70 < cLine) : MtR X "dict.update" (rUpd G) := by
  intro pins s σ H o vs ov us Q I ro rvs ⟨Om, p, x, y, v, z, eo, ev, om, op, rx, ry, sem, q⟩
  subst eo; subst ev
  cases ro
  obtain ⟨u, rfl, ru⟩ := vals1 rvs
  have hcl := cap_line
  cases x with
  | dct ks vs =>
    cases y with
    | lst ps =>
      simp only [updBy] at sem
      cases e : pairsOf ps with
      | none => rw [e] at sem; cases sem
      | some kv =>
        obtain ⟨as, bs⟩ := kv
        rw [e] at sem
        simp only at sem
        split at sem
        · rename_i hg
          split at sem
          · rename_i hs
            cases sem
            have hs := short_lt hs
            rw [List.length_append] at hs
            have hall := goodKeys_inv hg
            have hka : ∀ k ∈ as, tupKey k = true := fun k hk => hall k (List.mem_append_left _ hk)
            have hks : ∀ k ∈ ks, tupKey k = true := fun k hk => hall k (List.mem_append_right _ hk)
            obtain ⟨l, ws, rfl, nl, hH, rs⟩ := ry
            cases ru
            obtain ⟨zz, its, c0, rv, hl, eo⟩ := I.lstM hH
            obtain ⟨Tl, tb, a1, a2, a3, dx, a5, a6⟩ := pairs_ex I hK rs rv e hka
            obtain ⟨xs, hHd, hz, hS, nd, dxd, hd⟩ := Root.dx I hK hw hks rx
            obtain ⟨od, esd, epd, hod, hxd, hdat, _, hisd, _⟩ := id hd
            have P := PairArg.list (prog := X.prog) (w := X.w) l its.toArray (fun j => Tl.getD j 0) (tb.map fun y => (Value.ref y.2.1, y.2.2))
            have pit := pairs_arg (l := l) a1 a2 a3 a6
            have stay : ∀ {h' : Heap}, (∀ b o, b ≠ p → b ∉ ([] : List Addr) → s.heap.get? b = some o → h'.get? b = some o) → ∀ {k : NestedKey} {v : Value}, NestedIs s.heap k v → NestedIs h' k v := fun {h'} hk' {k v} g => NestedIs.at (fun b ob vs n hb' hc' => hk' b ob (fun z => by
              rw [z, hod] at hb'
              cases hb'
              rw [hdat] at hc'
              cases hc') (by simp) hb') _ _ g
            -- the dict is none of what is read
            have hdf : p ∉ l :: (List.range (tb.map fun y => (Value.ref y.2.1, y.2.2)).length).map fun j => Tl.getD j 0 := fun hm => by
              rcases List.mem_cons.mp hm with z | z
              · rw [z, eo] at hod
                cases hod
                cases hdat
              · obtain ⟨j, hj, ej⟩ := List.mem_map.mp z
                rw [List.mem_range, List.length_map] at hj
                have ey : tb[j]? = some tb[j] := List.getElem?_eq_getElem hj
                have hlt : j < Tl.length := by omega
                have eT : Tl[j]? = some (Tl.getD j 0) := by
                  rw [List.getD_eq_getElem?_getD, List.getElem?_eq_getElem hlt]
                  rfl
                obtain ⟨o', e1, e2, n2, e3⟩ := a6 j _ _ ey eT
                rw [show Tl.getD j 0 = p from ej, hod] at e1
                cases e1
                rw [hdat] at e3
                cases e3
            refine call_update_pairsH (knd := nestedKind X.prog X.w) (ps := tb) (acc := xs) P (I.ok.hd hc) (by show X.A.units + 1 + 8 < cLine; omega) ⟨⟨_, _, eo, rfl, rfl, rfl⟩, pit⟩ hdf ⟨(List.length_map _).symm, fun i k v hj => pairs_rel hj⟩ (fun h' hk' y hy => ?_) hd ?_ (fun h' tk hd' hk' => ?_)
            · rcases List.mem_append.mp hy with z | z
              · obtain ⟨g1, g2⟩ := hisd y z
                exact ⟨stay hk' g1, g2⟩
              · obtain ⟨g1, g2⟩ := a5 y z
                exact ⟨stay hk' g1, g2⟩
            · rw [List.length_map, a2, (DX.length dxd).1, ← pairsOf_len e]; omega
            · obtain ⟨dxa, nda⟩ := DX.putAll (Om := Om) (H := H) (fun z hz => tup_part (hka z hz)) dx (fun z hz => tup_part (hks z hz)) nd dxd
              have hll := (DX.length dxa).1
              have hpl := putAll_len as bs ks vs
              obtain ⟨ob, es2, ep2, ho2, _⟩ := id hd'
              refine ⟨.non, _, I.write (x := p) (e := p) (o := dO p ((storedAllH xs tb).map (entryOfKey (nestedKind X.prog X.w)))) (t' := tk) (by rw [hHd]; trivial) (.inl rfl) (fun c o hc e => hk' c o hc (by simp) e) ⟨ob, ho2⟩ (dO_ok hd'), rfl, ?_⟩
              refine q _ keep_upd (om_upd om (.inr ⟨_, rfl⟩)) (Root.ofDx (P := X.prog) (xs := storedAllH xs tb) ?_ (by omega) hS nda (dxa.keep keep_upd (hwA om op) (subA op)))
              rw [upd_same, hw]
          · cases sem
        · cases sem
    | _ => cases sem
  | _ => cases sem
end
end Sl

/-! Ev20: methods of dicts; raise. -/
namespace Sl
open PySem PySem.Spec PyProof.Rows L2
section
variable {G : Gx} {F : Fn} {wn : Nat} {hot : List Nat} {B : Bs} {W : WX} {X : Cx} {a b c : Expr} {ia ib ic : E} {pos : Pos}
/-- o.m(e, ..), o a dict that is told by its entries -/
def tBMD (r : V → List V → Hp → VK → Prop) (to : TE) (t : TA) : TE := fun σ H Q => to σ H fun x H1 => (∃ d es, x = .ref d ∧ H1 d = some (dO d es)) ∧ t σ H1 fun xs H2 => r x xs H2 Q
theorem pe_bmD {o e : Expr} {es : List Expr} {to : TE} {t : TA} {name : Str} {apos cpos : Pos} {id : String} {r : V → List V → Hp → VK → Prop} (pa : PlainAttrs "dict") (slot : Slot "dict" name id) (hty : typeOf (.builtin id) = pure (.type "method_descriptor")) (hm : MtR X id r) (ho : PE X o to) (ha : PA X (e :: es) t)
    (hbase : attributeBase o name X.env (eval o X.env) = eval o X.env := by rfl)
    (hfew : ((backTo cpos (starEach (e :: es) X.env)).all (fun x => !x.1) && (backToKw cpos (keywordEach [] X.env)).all (fun x => x.1.isSome) && decide ((e :: es).length + ([] : List Keyword).length + (if ([] : List Keyword).isEmpty then 0 else 1) < 30)) = true := by rfl)
    (hline : (apos.endLine == cpos.line) = true := by rfl) (hs : starEach (e :: es) X.env = (false, eval e X.env) :: starEach es X.env := by rfl) (hplain : (backTo cpos (starEach es X.env)).any (·.1) = false := by rfl) :
    PE X (.Call (.Attribute o name apos) (e :: es) [] cpos) (tBMD r to t) := by
  refine ⟨fun pins s σ H Q I h => ?_⟩
  refine wpAny_Call_method_late hbase hfew hline rfl (thn (ho.run pins s σ H _ I h) fun v s1 ⟨x, H1, I1, r1, ⟨d, ents, ex, hd⟩, q1⟩ => ?_)
  subst ex
  cases r1
  obtain ⟨h1, h2⟩ := dO_type (I1.hok d _ hd)
  refine ⟨"dict", id, pa, slot, hty, h1, h2, ?_⟩
  have hA := ha.run cpos pins s1 σ H1 _ I1 q1
  rw [hs] at hA ⊢
  refine Calls.callWith_builtin (by show (false || (backTo cpos (starEach es X.env)).any (·.1)) = false; rw [hplain]; rfl) (Calls.evalArgs_plain ?_)
  exact thn hA fun us s2 ⟨vs, H2, I2, r2, q2⟩ => hm pins s2 σ H2 (.ref d) vs _ us Q I2 rfl r2 q2
theorem hot_dct {Om : Addr → Prop} {env : Env} {σ : L2.St} {H : Hp} {i : Nat} (re : RE G hot B Om env σ H) (hi : i ∈ hot) (h : isDc (getE env i) = true) : ∃ p es, σ[i]? = some (some (.ref p)) ∧ Om p ∧ H p = some (dO p es) := by
  cases e : getE env i with
  | none => rw [e] at h; cases h
  | some o =>
    rw [e] at h
    obtain ⟨p, ep, hp, wp, r⟩ := re.root i o e hi
    cases o with
    | dct ks vs =>
      obtain ⟨es, q1, _⟩ := r
      exact ⟨p, es, ep, hp, q1⟩
    | _ => cases h
theorem tS_upd {i : Nat} {e : E} {D : Ends} {σ : L2.St} {H : Hp} (hi : i ∈ hot) (hp : disj (peeks e) hot = true) (h : tS G F wn hot B W (.upd i e) D σ H) : tDrop (tBMD (rUpd G) (tVar i) (tCons (tE G F hot B W e) tNil)) D σ H := by
  obtain ⟨Om, env, re, h⟩ := h
  simp only [ex] at h
  cases hl : isDc (getE env i) with
  | false => simp only [hl, Bool.false_eq_true, if_false] at h; exact h.elim
  | true =>
    simp only [hl, if_true] at h
    obtain ⟨p, es, e1, op, e2⟩ := hot_dct re hi hl
    refine ⟨.ref p, e1, ⟨p, es, rfl, e2⟩, tS_bind re h fun x env' v H' re' k r fr h => ?_⟩
    unfold onSlot at h
    cases e3 : getE env' i with
    | none => rw [e3] at h; exact h.elim
    | some o =>
      rw [e3] at h
      simp only at h
      cases e4 : updBy x o with
      | none => rw [e4] at h; exact h.elim
      | some z =>
        rw [e4] at h
        obtain ⟨p', ep', op', _, rr⟩ := re'.root i o e3 hi
        rw [e1] at ep'; cases ep'
        refine ⟨Om, p, o, x, v, z, rfl, rfl, re'.om, op', rr, r.of_cold hp, e4, fun H3 k3 om3 r3 => ?_⟩
        exact Pst.new h (k3.mono (subA op')) (fun _ q => .inl q) (re'.put hi e3 e1 k3 (fun _ q => q) (fun _ q => .inl q) re'.new om3 r3)
theorem pS_upd {x : Str} {p apos cpos : Pos} (i : Nat) (hK : X.K = G.K) (hw : X.w = G.w) (hc : X.calm = true) (hu : X.A.units + 70 < cLine) (ha : PE X a (tE G F hot B W ia)) (hi : i ∈ hot := by decide) (hp : disj (peeks ia) hot = true := by rfl) (hN : X.N[i]? = some x := by rfl)
    (hv : Vis X.env.scope x := by first | exact Or.inl rfl | exact Or.inr (Or.inl rfl) | exact Or.inr (Or.inr rfl)) (hd : (x == ("__debug__" : Str)) = false := by decide) (hcd : (x == ("__classdict__" : Str)) = false := by decide) (hbase : attributeBase (.Name x p) "update" X.env (eval (.Name x p) X.env) = eval (.Name x p) X.env := by rfl)
    (hfew : ((backTo cpos (starEach [a] X.env)).all (fun x => !x.1) && (backToKw cpos (keywordEach [] X.env)).all (fun x => x.1.isSome) && decide ([a].length + ([] : List Keyword).length + (if ([] : List Keyword).isEmpty then 0 else 1) < 30)) = true := by rfl) (hline : (apos.endLine == cpos.line) = true := by rfl)
    (hs : starEach [a] X.env = [(false, eval a X.env)] := by rfl) (hsw : swapsWith (.Call (.Attribute (.Name x p) "update" apos) [a] [] cpos) none pos.line X.env = pure false := by rfl) :
    PS X (.Expr (.Call (.Attribute (.Name x p) "update" apos) [a] [] cpos) pos) (tS G F wn hot B W (.upd i ia)) :=
  PS.imp (ps_expr (pe_bmD PySem.F.plainAttrs_dict PySem.F.slot_dict_update PySem.F.type_dict_update (mt_upd hK hw hc hu) (pe_var hN hv hd hcd) (pa_cons ha pa_nil hs) hbase hfew hline hs rfl) hsw) fun _ _ _ h => tS_upd hi hp h
end
end Sl

/-! Ev21: raise. -/
namespace Sl
open PySem PySem.Spec PyProof.Rows L2
section
variable {X : Cx} {C : Addr} {bmB : List Value} {Bn newId initId : String}
/-- C() -/
theorem pmk_zero {x : Str} {p pos : Pos} (Fx : ExcBaseFacts Bn newId initId bmB) (q : PySem.W.excIn X.K C bmB newId = true) (gC : X.mg x = some (.ref C)) (kC : PySem.W.keepIn X.K (.ref C) = true) (r : Raises X (.ref C)) (hg : Gl X x) (hdb : (x == ("__debug__" : Str)) = false := by decide) :
    PMk X (.Call (.Name x p) [] [] pos) (fun _ H Q => Q (.ref C) none H) := by
  intro pins s σ H Q I h
  refine wpAny_Call_Name_kw (ld_glob I hg gC ?_ hdb)
  refine PySem.W.callWith_K0 I.kIn kC ?_
  show wpAny _ _ (call (.ref C) []) _ _ _
  obtain ⟨bm, N, nm, qn, bs, hdct, sn, sub, ab, col, dd, k0, k1, k2, k3, k5, mN, hC, hN, hni, T⟩ := exc_obj I.kIn q
  refine wpAny_call_exc_subT Fx T hC hN hni (fun h' e hm => ?_) (Nat.zero_le _)
  exact mk_of I hm r h (I.hok.gone hm.new)
end
section
variable {G : Gx} {F : Fn} {wn : Nat} {hot : List Nat} {B : Bs} {W : WX} {X : Cx} {a b c : Expr} {ia ib ic : E} {pos : Pos}
theorem tS_raise0 {n : Nat} {D : Ends} {σ : L2.St} {H : Hp} (hn : G.kn n = true) (h : tS G F wn hot B W (.raise n .nil) D σ H) : W (.ref (G.ca n)) none σ H := by
  obtain ⟨Om, env, re, h⟩ := h
  simp only [ex, evs, R.bind, frozens, if_true] at h
  exact h Om _ none σ H re Ext.refl ⟨⟨hn, rfl⟩, .inl ⟨rfl, rfl⟩⟩
theorem pS_raise0 {x : Str} {p pc : Pos} (n : Nat) (hn : G.kn n = true) (hc : X.calm = true) (tk : Takes X W) (mk : PMk X (.Call (.Name x p) [] [] pc) (fun _ H Q => Q (.ref (G.ca n)) none H)) : PS X (.Raise (some (.Call (.Name x p) [] [] pc)) none pos) (tS G F wn hot B W (.raise n .nil)) :=
  PS.imp (ps_raise hc tk mk) fun D σ H h => tS_raise0 hn h
/-- C(e), the class's own __init__ keeps e as its field -/
def tMk1 (C : Addr) (f : Str) (ta : TA) : L2.St → Hp → XK → Prop := fun σ H Q => ta σ H fun vs H1 => ∃ v, vs = [v] ∧ ∀ d, H1 d = none → Q (.ref C) (some d) (upd H1 d (.xd [(f, v)]))
theorem tS_raise1 {n : Nat} {e : E} {D : Ends} {σ : L2.St} {H : Hp} (hn : G.kn n = true) (h : tS G F wn hot B W (.raise n (.cons e .nil)) D σ H) : tMk1 (G.ca n) (G.cf n) (tCons (tE G F hot B W e) tNil) σ H (fun cls d H' => W cls d σ H') := by
  obtain ⟨Om, env, re, h⟩ := h
  simp only [ex, evs] at h
  refine ⟨Om, env, re, ?_⟩
  cases e1 : ev F e env with
  | stk => rw [e1] at h; exact h
  | exc c pl env1 =>
    rw [e1] at h
    exact fun cls d H' k' re' er => h Om cls d σ H' re' ⟨k', fun _ z => .inl z⟩ er
  | ok x env1 =>
    rw [e1] at h
    intro v H1 k re1 r _
    simp only [R.bind] at h
    cases hf : frozens [x] with
    | false => simp only [hf, Bool.false_eq_true, if_false] at h; exact h.elim
    | true =>
      simp only [hf, if_true] at h
      have fx : frozen x = true := by
        cases q : frozen x with
        | true => rfl
        | false => simp [frozens, q] at hf
      refine ⟨v, rfl, fun d hd => ?_⟩
      have r' : Rep G Om H1 x v := Rep.free x v fx r
      exact h Om _ (some d) σ _ (re1.keep (keep_new hd)) ⟨Keep.trans k (keep_new (W := none1) hd) (fun _ z => z.1) fun _ z => z.elim, fun _ z => .inl z⟩ ⟨⟨hn, rfl⟩, .inr ⟨x, d, v, rfl, rfl, upd_same, fx, Rep.new (W := none1) hd r'⟩⟩
theorem pS_raise1 {x : Str} {p pc : Pos} (n : Nat) (hn : G.kn n = true) (hc : X.calm = true) (tk : Takes X W) (ha : PE X a (tE G F hot B W ia)) (mk : ∀ {ta : TA}, PA X [a] ta → PMk X (.Call (.Name x p) [a] [] pc) (tMk1 (G.ca n) (G.cf n) ta)) (hs : starEach [a] X.env = [(false, eval a X.env)] := by rfl) :
    PS X (.Raise (some (.Call (.Name x p) [a] [] pc)) none pos) (tS G F wn hot B W (.raise n (.cons ia .nil))) :=
  PS.imp (ps_raise hc tk (mk (pa_cons ha pa_nil hs))) fun D σ H h => tS_raise1 hn h
end
end Sl

/-! Ev22: try with clauses that name their exception. -/
namespace Sl
open PySem PySem.Spec PyProof.Rows L2
abbrev Cls1 := Value × Nat × (Addr → Value → Option Addr → TS)
/-- behind a suite its name goes -/
def goneD (i : Nat) (D : Ends) : Ends := { nx := fun st Hx => D.nx (st.set i none) Hx, rt := D.rt, bk := fun st Hx => D.bk (st.set i none) Hx, ct := fun st Hx => D.ct (st.set i none) Hx }
def wClauses (K : PySem.W.Frag) (Wo : WX) (D : Ends) : List Cls1 → WX
  | [] => Wo
  | (cv, i, ts) :: more => fun cls dd st Hx => ∃ hit, PySem.W.exmOne K cls cv = some hit ∧ (hit = true → ∀ e, Hx e = none → ts e cls dd (goneD i D) (st.set i (some (.ref e))) Hx) ∧ (hit = false → wClauses K Wo D more cls dd st Hx)
inductive Clauses (X : Cx) : List ExceptHandler → List Cls1 → Prop
  | nil : Clauses X [] []
  | cons {x n : Str} {cv : Value} {i : Nat} {ts : Addr → Value → Option Addr → TS} {s0 : Stmt} {suite : List Stmt} {np hp : Pos} {rest : List ExceptHandler} {more : List Cls1} (hc : Names X x cv) (hi : X.N[i]? = some n) (hl : X.env.kindOf n = some .local)
      (hs : ∀ (e : Addr) (oe : Obj) (cls : Value) (dd : Option Addr) (pn : List (Addr × Obj)), Zc cls dd oe → (∃ vs, oe.data = .fields vs) → PSs (X.suite e ((e, oe) :: pn)) (s0 :: suite) (ts e cls dd)) (hr : Clauses X rest more) :
      Clauses X (.ExceptHandler (some (.Name x np)) (some n) (s0 :: suite) hp :: rest) ((cv, i, ts) :: more)
section
variable {X : Cx} {body : List Stmt} {h0 : ExceptHandler} {rest : List ExceptHandler} {cl : List Cls1} {pos : Pos} {tb : WX → TS} {Wo : WX}
theorem ps_clauses (stk : X.stack = X.env :: X.outer) (frm : X.env.frame = some X.env.locals) (nd : X.N.Nodup) (tk : Takes X Wo)
    (hb : ∀ (W : WX) (pn : List (Addr × Obj)) (xe : Value → Shared → Prop), Takes (X.tr pn xe) W → PassesOwn (model X.prog X.w) X.A X.env xe → PSs (X.tr pn xe) body (tb W)) (hh : Clauses X (h0 :: rest) cl) :
    PS X (.Try body (h0 :: rest) [] [] pos) (fun D σ H => tb (wClauses X.K Wo D cl) D σ H) := by
  refine ⟨fun pins s σ H D I wish => ?_⟩
  have okX := I.ok
  have frames : X.A.frames = some (X.env :: X.outer) := okX.frames.trans (by rw [stk])
  refine wpAny_Try_except ?_
  let XE1 : Value → Shared → Prop := fun ev s₁ => wpAny (model X.prog X.w) X.A (noteFrame ev X.env) (fun _ s₂ => wpAny (model X.prog X.w) X.A (setFlight ev none) (fun _ s₃ => wpAny (model X.prog X.w) X.A (handleBy ev X.env (h0 :: rest)) (SP X pins D) X.xe s₃) X.xe s₂) X.xe s₁
  have caught : Takes (X.tr (X.pn ++ pins) XE1) (wClauses X.K Wo D cl) := fun ev st inAir => by
    obtain ⟨e, ground, sI, pins2, σ2, H2, cls, dd, rfl, J0, below, upTo, sky, untr, osE, bareE, w⟩ := inAir
    have J : Inv X pins σ2 H2 sI := J0.ofTry okX
    have sky2 : Sky ground (X.env :: X.outer) e (Zc cls dd) X.env.locals st.heap := stk ▸ sky
    show wpAny (model X.prog X.w) X.A (noteFrame (.ref e) X.env) _ _ _
    refine Sky.land Zc.steady frames frm sky2 fun hA flyA upA => ?_
    have JA : Inv X pins σ2 H2 { st with heap := hA } := J.landed below flyA.1 (upTo.trans upA) osE bareE
    obtain ⟨oA, vA, atA, zA, dA⟩ := flyA.there
    have offFrames : e ∉ frs (X.env :: X.outer) := fun hm => by
      obtain ⟨_, o2, e2, noF⟩ := flyA.2.2.1.mem hm
      rw [atA] at e2
      cases e2
      exact noF _ dA
    have neL : e ≠ X.env.locals := fun z => offFrames (List.mem_filterMap.mpr ⟨X.env, List.mem_cons_self, by rw [frm, z]⟩)
    have neF : e ∉ X.fs := fun hm => by
      obtain ⟨fr, hfr, q⟩ := List.mem_filterMap.mp hm
      exact offFrames (List.mem_filterMap.mpr ⟨fr, List.mem_cons_of_mem _ hfr, q⟩)
    have SA := JA.suite atA dA untr neL neF
    have go : ∀ {hs : List ExceptHandler} {cs : List Cls1}, Clauses X hs cs → wClauses X.K Wo D cs cls dd σ2 H2 → wpAny (model X.prog X.w) X.A (handleBy (.ref e) X.env hs) (SP X pins D) X.xe { st with heap := hA } := by
      intro hs cs hk
      induction hk with
      | nil =>
        intro w
        refine wpAny_handleBy_nil ?_
        obtain ⟨k1, k2, k3, oe, vs, T, oT, ts', he, hz, hd, h1, hr⟩ := id flyA
        unfold PySem.passOn
        refine wpAny_bind (wpAny_field he hd h1 ?_)
        rw [if_neg (show ¬ ((Value.ref T == Value.none) = true) from by simp)]
        have onward : wpAny (model X.prog X.w) X.A (setFlight (.ref e) X.env.frame) (fun _ s4 => wpAny (model X.prog X.w) X.A (throw (.ref e) : Sem Flow) (SP X pins D) X.xe s4) X.xe { st with heap := hA } := by
          rw [frm]
          exact HandSPX.setFlight_upZ flyA fun h4 hh4 up4 => wpAny_throw (tk _ _ ⟨e, ground, sI, pins, σ2, H2, cls, dd, rfl, J, below, (upTo.trans upA).trans up4, .inr (.inr (by rw [stk]; exact hh4)), untr, osE, bareE, w⟩)
        first
          | exact wpAny_bind (wpAny_pure (wpAny_bind onward))
          | exact wpAny_bind onward
      | @cons x n cv i ts s0 suite np hp rest2 more hc hi hl hsu hr ih =>
        intro w
        obtain ⟨hit, eh, yes, no⟩ := w
        refine wpAny_handleBy_cons (codeAny_handlers_test ?_) (by intro q; cases q)
        have LT : PySem.W.Looks (model X.prog X.w) hA (typeOf (.ref e)) cls := fun _ _ _ _ kp qq => wpAny_typeOf_ref (kp _ _ atA) (by rw [zA.1]; exact qq)
        have LM := PySem.W.exm_one (M := model X.prog X.w) JA.kIn LT eh
        have named : ∀ {Q : Value → Shared → Prop} {E : Value → Shared → Prop}, Q cv { st with heap := hA } → wpAny (model X.prog X.w) (X.A.mark (some (.ref e))) (eval (.Name x np) X.env) Q E { st with heap := hA } := fun {Q E} qq => by
          obtain ⟨gl, dbg, inM | ⟨inM, inB, nn⟩⟩ := hc
          · exact ld_glob (X := X.suite e ((e, oA) :: (X.pn ++ pins))) SA gl inM qq dbg
          · exact ld_blt (X := X.suite e ((e, oA) :: (X.pn ++ pins))) SA gl inM inB qq nn dbg
        refine named (LM.here ?_)
        cases hit with
        | true =>
          refine codeAny_handlers_suite_as ?_
          refine HandSPX.lands_againZ flyA fun hB flyB upB => ?_
          have JB : Inv X pins σ2 H2 { st with heap := hB } := J.landed below flyB.1 ((upTo.trans upA).trans upB) osE bareE
          obtain ⟨oB, vB, atB, zB, dB⟩ := flyB.there
          have SB := JB.suite atB dB untr neL neF
          refine store_ok (X := X.suite e ((e, oB) :: (X.pn ++ pins))) (v := .ref e) SB nd hi (.inl hl) rfl (fun s5 S5 => ?_) (.inr hl)
          refine wpAny_mono ((hsu e oB cls dd (X.pn ++ pins) zB ⟨_, dB⟩).run [] s5 _ H2 _ S5 (yes rfl e untr)) (fun fl s6 endsp => ?_) (fun _ _ z => False.elim z)
          have away : ∀ {σ6 : L2.St} {H6 : Hp} {Q : Shared → Prop}, Inv (X.suite e ((e, oB) :: (X.pn ++ pins))) [] σ6 H6 s6 → (∀ s7, Inv X pins (σ6.set i none) H6 s7 → Q s7) →
              wpAny (model X.prog X.w) X.A (do bindName X.env n .none; unbindBehindTheSuite X.env n hp) (fun _ s7 => Q s7) X.xe s6 := fun {σ6 H6 Q} S6 hq => gone_ok (S6.unsuite okX) nd hi hl hq
          cases fl with
          | next => obtain ⟨σ6, H6, S6, q6⟩ := endsp; exact away S6 fun s7 J7 => ⟨_, _, J7, q6⟩
          | brk => obtain ⟨σ6, H6, S6, q6⟩ := endsp; exact away S6 fun s7 J7 => ⟨_, _, J7, q6⟩
          | cont => obtain ⟨σ6, H6, S6, q6⟩ := endsp; exact away S6 fun s7 J7 => ⟨_, _, J7, q6⟩
          | ret u => obtain ⟨v6, σ6, H6, S6, r6, q6⟩ := endsp; exact away S6 fun s7 J7 => ⟨_, _, _, J7, r6, q6⟩
        | false => exact ih (no rfl)
    exact go hh w
  refine wpAny_mono ((hb (wClauses X.K Wo D cl) (X.pn ++ pins) XE1 caught PassesOwn.looking).run [] s σ H D (I.toTry _) wish) (fun fl s1 endsp => ?_) (fun ev s1 he => he)
  cases fl with
  | next => obtain ⟨σ', H', J', q⟩ := endsp; exact wpAny_execs_nil ⟨σ', H', J'.ofTry okX, q⟩
  | brk => obtain ⟨σ', H', J', q⟩ := endsp; exact ⟨σ', H', J'.ofTry okX, q⟩
  | cont => obtain ⟨σ', H', J', q⟩ := endsp; exact ⟨σ', H', J'.ofTry okX, q⟩
  | ret u => obtain ⟨v, σ', H', J', r, q⟩ := endsp; exact ⟨v, σ', H', J'.ofTry okX, r, q⟩
end

section
variable {G : Gx} {F : Fn} {wn : Nat} {hot : List Nat} {B : Bs} {W : WX} {X : Cx} {pos : Pos}
def inExc (B : Bs) (i : Nat) (e : Addr) (cls : Value) (dd : Option Addr) : Bs := { B with exc := some (i, e, cls, dd) }
/-- the clauses of the small language -/
def clsOf (G : Gx) (F : Fn) (wn : Nat) (hot : List Nat) (B : Bs) : Hs → List Cls1
  | .nil => []
  | .cons n x b r => (.ref (G.ca n), x.getD 0, fun e cls dd => tSs G F wn hot (inExc B (x.getD 0) e cls dd) WF b) :: clsOf G F wn hot B r
/-- each clause names its exception by a slot that is not hot, its class is known -/
def hsOk (kn : Nat → Bool) (hot : List Nat) : Hs → Bool
  | .nil => true
  | .cons n x _ r => kn n && (match x with | some i => !hot.contains i | none => false) && hsOk kn hot r
theorem RE.enter {Om : Addr → Prop} {env : Env} {σ : L2.St} {H : Hp} {i c : Nat} {pl : List PV} {e : Addr} {cls : Value} {dd : Option Addr} (hB : B.exc = none) (hi : i ∉ hot) (h : RE G hot B Om env σ H) (er : ExcRep G Om H c pl cls dd) :
    RE G hot (inExc B i e cls dd) Om (setE env i (some (.exn c pl))) (σ.set i (some (.ref e))) H := by
  have ne : ∀ {j : Nat}, j ∈ hot → j ≠ i := fun hj q => hi (by rw [← q]; exact hj)
  have gs : ∀ {j : Nat}, j ≠ i → (σ.set i (some (.ref e)))[j]? = σ[j]? := fun n => List.getElem?_set_ne (Ne.symm n)
  have ge : ∀ {j : Nat}, j ≠ i → getE (setE env i (some (.exn c pl))) j = getE env j := fun n => by rw [getE_setE, if_neg n]
  have nx : ∀ {j c' : Nat} {pl' : List PV}, getE env j ≠ some (.exn c' pl') := fun {j c' pl'} q => by
    obtain ⟨a, cl, d, e1, _⟩ := h.exn j c' pl' q
    rw [hB] at e1; cases e1
  refine ⟨by rw [List.length_set, len_setE]; exact h.len, h.om, fun j x q n hx => ?_, fun j x q hj => ?_, fun j v hj q => ?_, fun j l a h1 h2 e1 e2 => ?_, fun j c' pl' q => ?_, h.base, h.kept, h.new, h.wtr, h.bom, h.wio, fun p hp => ?_⟩
  · by_cases hji : j = i
    · subst hji
      rw [getE_setE, if_pos rfl] at q
      split at q
      · cases q; cases hx
      · cases q
    · rw [ge hji] at q
      rw [gs hji]
      exact h.cold j x q n hx
  · rw [ge (ne hj)] at q
    rw [gs (ne hj)]
    exact h.root j x q hj
  · rw [gs (ne hj)] at q
    rw [ge (ne hj)]
    exact h.live j v hj q
  · rw [gs (ne h1)] at e1
    rw [gs (ne h2)] at e2
    exact h.inj j l a h1 h2 e1 e2
  · by_cases hji : j = i
    · subst hji
      rw [getE_setE, if_pos rfl] at q
      split at q
      · rename_i hl
        cases q
        exact ⟨e, cls, dd, rfl, List.getElem?_set_self (by rw [h.len]; exact hl), er⟩
      · cases q
    · rw [ge hji] at q
      exact absurd q nx
  · obtain ⟨h1, h2⟩ := h.io p hp
    exact ⟨h1, by rw [gs (ne h1)]; exact h2⟩
theorem RE.exit {Om : Addr → Prop} {env : Env} {σ : L2.St} {H : Hp} {i : Nat} {e : Addr} {cls : Value} {dd : Option Addr} (hi : i ∉ hot) (h : RE G hot (inExc B i e cls dd) Om env σ H) : RE G hot B Om (setE env i none) (σ.set i none) H := by
  have ne : ∀ {j : Nat}, j ∈ hot → j ≠ i := fun hj q => hi (by rw [← q]; exact hj)
  have gs : ∀ {j : Nat}, j ≠ i → (σ.set i none)[j]? = σ[j]? := fun n => List.getElem?_set_ne (Ne.symm n)
  have ge : ∀ {j : Nat}, j ≠ i → getE (setE env i none) j = getE env j := fun n => by rw [getE_setE, if_neg n]
  have gi : ∀ {y : PV}, getE (setE env i none) i ≠ some y := fun {y} q => by
    rw [getE_setE, if_pos rfl] at q
    split at q <;> cases q
  refine ⟨by rw [List.length_set, len_setE]; exact h.len, h.om, fun j x q n hx => ?_, fun j x q hj => ?_, fun j v hj q => ?_, fun j l a h1 h2 e1 e2 => ?_, fun j c' pl' q => ?_, h.base, h.kept, h.new, h.wtr, h.bom, h.wio, fun p hp => ?_⟩
  · by_cases hji : j = i
    · subst hji; exact absurd q gi
    · rw [ge hji] at q
      rw [gs hji]
      exact h.cold j x q n hx
  · rw [ge (ne hj)] at q
    rw [gs (ne hj)]
    exact h.root j x q hj
  · rw [gs (ne hj)] at q
    rw [ge (ne hj)]
    exact h.live j v hj q
  · rw [gs (ne h1)] at e1
    rw [gs (ne h2)] at e2
    exact h.inj j l a h1 h2 e1 e2
  · by_cases hji : j = i
    · subst hji; exact absurd q gi
    · rw [ge hji] at q
      obtain ⟨a, cl, d, e1, _⟩ := h.exn j c' pl' q
      cases e1
      exact absurd rfl hji
  · obtain ⟨h1, h2⟩ := h.io p hp
    exact ⟨h1, by rw [gs (ne h1)]; exact h2⟩
theorem wCl_of (hB : B.exc = none) (exm : ∀ c n, G.kn c = true → G.kn n = true → PySem.W.exmOne X.K (.ref (G.ca c)) (.ref (G.ca n)) = some (Nat.beq c n)) {D : Ends} : ∀ {hs : Hs} {c : Nat} {pl : List PV} {Om : Addr → Prop} {env : Env} {σ : L2.St} {H : Hp} {cls : Value} {dd : Option Addr}, hsOk G.kn hot hs = true →
    RE G hot B Om env σ H → ExcRep G Om H c pl cls dd → Pst G hot B W D Om H (exh F wn hs c pl env) → wClauses X.K W D (clsOf G F wn hot B hs) cls dd σ H
  | .nil, c, pl, Om, env, σ, H, cls, dd, _, re, er, h => h Om cls dd σ H re Ext.refl er
  | .cons n x b r, c, pl, Om, env, σ, H, cls, dd, ok, re, er, h => by
    simp only [hsOk, Bool.and_eq_true] at ok
    obtain ⟨⟨kn, hx⟩, okr⟩ := ok
    obtain ⟨⟨kc, ecls⟩, erest⟩ := id er
    subst ecls
    simp only [exh] at h
    refine ⟨_, exm c n kc kn, fun yes e he => ?_, fun no => ?_⟩
    · rw [yes] at h
      simp only [if_true] at h
      cases x with
      | none => simp at hx
      | some i =>
        have hi : i ∉ hot := by simpa using hx
        simp only at h
        refine ⟨Om, _, re.enter hB hi er, ?_⟩
        show Pst G hot (inExc B i e _ dd) WF (goneD i D) Om H (exs F wn b (setE env i (some (.exn c pl))))
        cases q : exs F wn b (setE env i (some (.exn c pl))) with
        | stk => rw [q] at h; exact h
        | exc c2 pl2 env2 => rw [q] at h; exact h.elim
        | ok f env2 =>
          rw [q] at h
          cases f with
          | next => exact fun Om' σ' H' re' x' => h Om' _ H' (RE.exit hi re') x'
          | cont => exact fun Om' σ' H' re' x' => h Om' _ H' (RE.exit hi re') x'
          | ret y => exact fun Om' v σ' H' re' x' r' fr' => h Om' v _ H' (RE.exit hi re') x' r' fr'
    · rw [no] at h
      simp only [Bool.false_eq_true, if_false] at h
      exact wCl_of hB exm okr re er h
theorem tS_try (hB : B.exc = none) (exm : ∀ c n, G.kn c = true → G.kn n = true → PySem.W.exmOne X.K (.ref (G.ca c)) (.ref (G.ca n)) = some (Nat.beq c n)) {b : Ss} {hs : Hs} (ok : hsOk G.kn hot hs = true) {D : Ends} {σ : L2.St} {H : Hp} (h : tS G F wn hot B W (.try_ b hs) D σ H) :
    tSs G F wn hot B (wClauses X.K W D (clsOf G F wn hot B hs)) b D σ H := by
  obtain ⟨Om, env, re, h⟩ := h
  simp only [ex] at h
  refine ⟨Om, env, re, ?_⟩
  cases q : exs F wn b env with
  | stk => rw [q] at h; exact h
  | exc c pl env1 =>
    rw [q] at h
    exact fun Om' cls dd σ' H' re' x' er => wCl_of hB exm ok re' er (Pst.back x' h)
  | ok f env1 =>
    rw [q] at h
    cases f with
    | next => exact h
    | cont => exact h
    | ret y => exact h
theorem pS_try {body : List Stmt} {h0 : ExceptHandler} {rest : List ExceptHandler} {b : Ss} {hs : Hs} (sx : Sx X G W) (stk : X.stack = X.env :: X.outer) (frm : X.env.frame = some X.env.locals) (hB : B.exc = none) (exm : ∀ c n, G.kn c = true → G.kn n = true → PySem.W.exmOne X.K (.ref (G.ca c)) (.ref (G.ca n)) = some (Nat.beq c n)) (ok : hsOk G.kn hot hs = true)
    (hb : ∀ (W' : WX) (pn : List (Addr × Obj)) (xe : Value → Shared → Prop), Takes (X.tr pn xe) W' → PassesOwn (model X.prog X.w) X.A X.env xe → PSs (X.tr pn xe) body (tSs G F wn hot B W' b)) (hh : Clauses X (h0 :: rest) (clsOf G F wn hot B hs)) :
    PS X (.Try body (h0 :: rest) [] [] pos) (tS G F wn hot B W (.try_ b hs)) := PS.imp (ps_clauses stk frm sx.nd sx.tk hb hh) fun D σ H h => tS_try hB exm ok h
/-- a clause and its suite -/
theorem clause {x nm : Str} {n i : Nat} {s0 : Stmt} {suite : List Stmt} {np hp : Pos} {rest : List ExceptHandler} {b : Ss} {r : Hs} (hc : Names X x (.ref (G.ca n))) (hi : X.N[i]? = some nm) (hl : X.env.kindOf nm = some .local)
    (hs : ∀ (e : Addr) (oe : Obj) (cls : Value) (dd : Option Addr) (pn : List (Addr × Obj)), Zc cls dd oe → (∃ vs, oe.data = .fields vs) → PSs (X.suite e ((e, oe) :: pn)) (s0 :: suite) (tSs G F wn hot (inExc B i e cls dd) WF b)) (hr : Clauses X rest (clsOf G F wn hot B r)) :
    Clauses X (.ExceptHandler (some (.Name x np)) (some nm) (s0 :: suite) hp :: rest) (clsOf G F wn hot B (.cons n (some i) b r)) := .cons hc hi hl hs hr
end
end Sl

/-! Ev23: the exception that a suite holds: its field, its class. -/
namespace PySem.W
open PySem PySem.Spec PySem.Calls PyProof.Rows
section
variable {prog : Program} {w : World} {A : Around} {E : Value → Shared → Prop} {s : Shared} {K : Frag} {x D : Addr} {ox : Obj} {dct : Option Obj}
theorem sl_findObj {C : Addr} {nm : Str} {at1 gt : Value} (q1 : (clsIn K C).isSome = true) (q2 : findIn K (.ref C) nm = some (some at1)) (q3 : specialIn K at1 "__get__" = some (some gt)) (q4 : takesIn K at1 = some true) : findObj K C dct nm = some (.bind gt at1) := by
  obtain ⟨cdat, q1⟩ := Option.isSome_iff_exists.mp q1
  unfold findObj
  rw [q1, Option.bind_some, q2, Option.bind_some]
  simp [q3, q4]
structure SlExc (K : Frag) (D : Addr) : Prop where
  g1 : findIn K (.ref D) "__getattribute__" = some (some (.builtin "BaseException.__getattribute__"))
  g2 : findIn K (.ref D) "__getattr__" = some none
  g3 : subIn K (.ref D) (.type "BaseException") = some true
  g4 : hasDictIn K D = true
  g5 : findIn K (.ref D) "__class__" = some (some (.builtin "object.__class__"))
  g6 : specialIn K (.builtin "object.__class__") "__get__" = some (some (.builtin "getset_descriptor.__get__"))
  g7 : takesIn K (.builtin "object.__class__") = some true
  g8 : mroIn K D (.type "object") = some true
theorem sl_class {Q : Option Value → Shared → Prop} (T : SlExc K D) (inK : K.In s.heap) (inst : InstAt s.heap x ox D dct) (h : Q (some (.ref D)) { s with toks := s.toks + 1 }) : wpAny (model prog w) A (getAttr? (.ref x) "__class__") Q E s := by
  have found : findObj K D dct "__class__" = some (.bind (.builtin "getset_descriptor.__get__") (.builtin "object.__class__")) := sl_findObj (by obtain ⟨cd, hc, _⟩ := any_some T.g4; rw [hc]; rfl) T.g5 T.g6 T.g7
  obtain ⟨hp, gs, dr, tk, os⟩ := s
  have K0 := inst.type (M := model prog w)
  have K1 := looks_findIn (M := model prog w) inK T.g1
  have K2 := looks_findIn (M := model prog w) inK T.g2
  have K3 := looks_find (M := model prog w) inK inst found
  have isE : Looks (model prog w) hp (isInstance (.ref x) (.type "BaseException")) true := K0.andThen (looks_subIn inK T.g3)
  have b0 : (false && onTheHeap (Value.builtin "BaseException.__getattribute__")) = false := rfl
  have b2 : (Value.builtin "BaseException.__getattribute__" == Value.builtin "object.__getattribute__") = false := by decide +kernel
  have b1 : (onTheHeap (Value.ref D) && Value.builtin "BaseException.__getattribute__" == Value.builtin "object.__getattribute__") = false := by rw [b2]; rfl
  unfold getAttr? getAttrBy? getAttrBy
  refine wpAny_bind (wpAny_mkText (wpAny_bind (wpAny_attempt (wpAny_holding (wpAny_bind (K0.at (wpAny_bind (K1.at ?_))))))))
  show wpAny _ _ (if (onTheHeap (Value.ref D) && Value.builtin "BaseException.__getattribute__" == Value.builtin "object.__getattribute__") = true then _ else _) _ _ ⟨hp, gs, dr, tk + 1, os⟩
  rw [b1, if_neg Bool.false_ne_true]
  unfold getAttrByItsOwn hookBefore
  refine wpAny_bind ?_
  rw [if_pos (show onTheHeap (.ref D) = true from rfl)]
  refine K2.at ?_
  refine wpAny_bind (wpAny_attempt (wpAny_holding ?_))
  unfold callGetattribute
  rw [b0, if_neg Bool.false_ne_true]
  unfold boundAndCalled
  rw [PySem.F.excAttr_ValueError.ga.bind (.ref x)]
  refine wpAny_bind (wpAny_pure ?_)
  show wpAny _ _ (call (.builtin "BaseException.__getattribute__") [.ref x, .str "__class__" tk]) _ _ ⟨hp, gs, dr, tk + 1, os⟩
  refine wpAny_call (codeAny_call_builtin PySem.F.excAttr_ValueError.ga.plain PySem.F.entry_bexc_ga ?_)
  refine @check_slot (model prog w) _ _ ⟨hp, gs, dr, tk + 1, os⟩ "BaseException.__getattribute__" "BaseException" "__getattribute__" (.ref x) [.str "__class__" tk] [] _ (by decide +kernel) (by decide +kernel) isE (PySem.F.args_bexc_ga (.ref x) (.str "__class__" tk)) ?_
  unfold Builtin.«object.__getattribute__»
  refine wpAny_bind (wpAny_of_eq (a := ((Value.ref x : Value), [Value.str "__class__" tk])) (by first | rfl | (simp only [slotArgs]; rfl)) ?_)
  refine wpAny_bind (wpAny_pure (wpAny_bind (K0.at (wpAny_bind (K3.at ?_)))))
  show wpAny _ _ (holding [Value.builtin "object.__class__"] (call (.builtin "getset_descriptor.__get__") [.builtin "object.__class__", .ref x, .ref D]) >>= ret) _ _ ⟨hp, gs, dr, tk + 1, os⟩
  refine wpAny_bind (wpAny_holding (wpAny_call (class_get (s := ⟨hp, gs, dr, tk + 1, os⟩) (ox := ox) (od := dct) inK inst T.g8 ?_)))
  refine wpAny_pure ?_
  show wpAny _ _ (handedOut (.ref D)) _ _ ⟨hp, gs, dr, tk + 1, os⟩
  rw [handedOut_of (v := .ref D) rfl]
  first
    | exact wpAny_pure (wpAny_pure h)
    | exact wpAny_pure h
    | exact wpAny_pure (wpAny_bind (wpAny_pure (wpAny_pure h)))
theorem sl_kitx (T : SlExc K D) : KitX K (.ref x) (.ref D) (fun h => InstAt h x ox D dct) where
  ty := fun _ _ _ inst => inst.type
  it := fun _ _ inK _ => by
    obtain ⟨cdD, hcD, _⟩ := any_some T.g4
    unfold clsIn at hcD
    split at hcD
    · rename_i c' d' cd' sl' ho
      intro A' Q' E' s' k q
      unfold isType loadHead
      exact wpAny_bind (wpAny_loadPart (k _ _ (inK _ _ ho)) (wpAny_pure q))
    · cases hcD
  ne := fun h tp dd its n sl inK htp => by
    obtain ⟨cdD, hcD, _⟩ := any_some T.g4
    refine Bool.eq_false_iff.mpr fun q => ?_
    have e : D = tp := Value.ref.inj (beq_iff_eq.mp q)
    subst e
    unfold clsIn at hcD
    split at hcD
    · rename_i c' d' cd' sl' ho
      have z := (inK _ _ ho).symm.trans htp
      cases z
    · cases hcD
  ca := fun inK inst k => sl_class T inK inst k
end
end PySem.W
namespace Sl
open PySem PySem.Spec PyProof.Rows L2
section
variable {G : Gx} {F : Fn} {wn : Nat} {hot : List Nat} {B : Bs} {W : WX} {X : Cx} {a : Addr} {oe : Obj} {cls : Value} {dd : Option Addr} {pn : List (Addr × Obj)} {pos : Pos}
theorem held {Om : Addr → Prop} {env : Env} {σ : L2.St} {H : Hp} {i d : Nat} {pl : List PV} (re : RE G hot (inExc B i a cls dd) Om env σ H) (e : getE env i = some (.exn d pl)) : σ[i]? = some (some (.ref a)) ∧ ExcRep G Om H d pl cls dd := by
  obtain ⟨a', cls', d', e1, e2, er⟩ := re.exn i d pl e
  cases e1
  exact ⟨e2, er⟩
theorem pE_fld {x f : Str} {px : Pos} {c i : Nat} (T : XfC X.K (G.ca c)) (hcf : G.cf c = f) (hno : PySem.W.findIn X.K (.ref (G.ca c)) f = some none) (hz : Zc cls dd oe) (hf : ∃ vs, oe.data = .fields vs) (hN : X.N[i]? = some x := by rfl) (hv : Vis X.env.scope x := by first | exact Or.inl rfl | exact Or.inr (Or.inl rfl) | exact Or.inr (Or.inr rfl))
    (hd : (x == ("__debug__" : Str)) = false := by decide) (hcd : (x == ("__classdict__" : Str)) = false := by decide) (hb : attributeBase (.Name x px) f X.env (eval (.Name x px) X.env) = eval (.Name x px) X.env := by rfl) :
    PE (X.suite a ((a, oe) :: pn)) (.Attribute (.Name x px) f pos) (tE G F hot (inExc B i a cls dd) WF (.fld c i)) := by
  refine PE.imp (pe_xf T hno hz hf (pe_var hN hv hd hcd) hb) fun σ H Q ⟨Om, env, re, h⟩ => ?_
  simp only [ev] at h
  cases e : getE env i with
  | none => rw [e] at h; exact h.elim
  | some o =>
    rw [e] at h
    cases o with
    | exn d pl =>
      simp only at h
      cases q : Nat.beq c d with
      | false => simp [q] at h
      | true =>
        simp only [q, if_true] at h
        have ed := Nat.eq_of_beq_eq_true q
        subst ed
        obtain ⟨es, er⟩ := held re e
        obtain ⟨⟨_, ec⟩, er | ⟨y, d1, v, rfl, rfl, hx, fz, r⟩⟩ := er
        · rw [er.1] at h
          exact h.elim
        · refine ⟨.ref a, es, rfl, ec, d1, _, v, rfl, hx, by rw [hcf]; simp [List.lookup], ?_⟩
          exact h v H (Keep.refl H) re r.toCut fun z => Bool.noConfusion z
    | _ => exact h.elim
/-- isinstance(e, T), e the exception held, with a dict of its own or not -/
theorem call_isX {D : Addr} (C : PySem.W.SlExc X.K D) (hz : Zc (.ref D) dd oe) (hf : ∃ vs, oe.data = .fields vs) : CallR (X.suite a ((a, oe) :: pn)) (.builtin "isinstance") (fun xs H Q => (∀ d1, dd = some d1 → ∃ fs, H d1 = some (.xd fs)) ∧ rIsE X.K D a xs H Q) := by
  intro pins s σ H xs us Q I r ⟨hx, c, cv, b, ex, hcv, e, q⟩
  subst ex
  obtain ⟨u1, u2, rfl, r1, r2⟩ := vals2 r
  cases r1
  have ec := hcv _ r2
  subst ec
  obtain ⟨hget, _⟩ := I.pin (a, oe) (List.mem_append.mpr (.inl List.mem_cons_self))
  obtain ⟨vs, hv⟩ := hf
  obtain ⟨oc, od, oda, osl⟩ := oe
  obtain ⟨h1, h2⟩ := hz
  dsimp only at h1 h2 hv
  subst h1
  subst hv
  have fin : ∀ {w : Option Obj}, PySem.W.InstAt s.heap a ({ cls := .ref D, dict := od, data := .fields vs, slots := osl } : Obj) D w → wpAny (model X.prog X.w) (X.suite a ((a, { cls := .ref D, dict := od, data := .fields vs, slots := osl }) :: pn)).A (call (.builtin "isinstance") [.ref a, u2]) (EP (X.suite a ((a, { cls := .ref D, dict := od, data := .fields vs, slots := osl }) :: pn)) pins σ Q) (X.suite a ((a, { cls := .ref D, dict := od, data := .fields vs, slots := osl }) :: pn)).xe s := fun {w} J =>
    PySem.W.kia_one (PySem.W.sl_kitx C) I.kIn J e (fun z => nomatch z) fun tk => ⟨.bl b, H, I.kept (t' := tk) fun _ _ z => z, rfl, q⟩
  cases dd with
  | none =>
    cases h2
    exact fin (w := none) ⟨hget, rfl, rfl, trivial⟩
  | some d1 =>
    cases h2
    obtain ⟨fs, hd1⟩ := hx d1 rfl
    obtain ⟨mA, hns, _⟩ := I.hok d1 _ hd1
    obtain ⟨ob, hob, _⟩ := lookIn_ns hns
    exact fin (w := some ob) ⟨hget, rfl, rfl, hob⟩
/-- isinstance(e, T), T a built-in class of exceptions -/
theorem pE_isx {x T : Str} {Ts : String} {px pT p : Pos} {m i : Nat} (hz : Zc cls dd oe) (hf : ∃ vs, oe.data = .fields vs) (hC : ∀ c, G.kn c = true → PySem.W.SlExc X.K (G.ca c) ∧ PySem.W.kitOne X.K (.ref (G.ca c)) (.type Ts) = some (Nat.beq (baseOf c) m)) (hg : Gl X "isinstance") (hm : X.mg "isinstance" = none) (hgT : Gl X T) (hmT : X.mg T = none) (hvT : bootBuiltins T = some (.type Ts))
    (hN : X.N[i]? = some x := by rfl) (hv : Vis X.env.scope x := by first | exact Or.inl rfl | exact Or.inr (Or.inl rfl) | exact Or.inr (Or.inr rfl)) (hd : (x == ("__debug__" : Str)) = false := by decide) (hcd : (x == ("__classdict__" : Str)) = false := by decide) (hnT : T ≠ "__name__" := by decide) (hdT : (T == ("__debug__" : Str)) = false := by decide)
    (he : starEach [.Name x px, .Name T pT] X.env = (false, eval (.Name x px) X.env) :: starEach [.Name T pT] X.env := by rfl) (he2 : starEach [.Name T pT] X.env = [(false, eval (.Name T pT) X.env)] := by rfl) (hpl : (backTo pos (starEach [.Name T pT] X.env)).any (·.1) = false := by rfl) :
    PE (X.suite a ((a, oe) :: pn)) (.Call (.Name "isinstance" p) [.Name x px, .Name T pT] [] pos) (tE G F hot (inExc B i a cls dd) WF (.isx m i)) := by
  refine ⟨fun pins s σ H Q I h => ?_⟩
  obtain ⟨Om, env, re, h⟩ := h
  simp only [ev] at h
  cases e : getE env i with
  | none => rw [e] at h; exact h.elim
  | some o =>
    rw [e] at h
    cases o with
    | exn c pl =>
      simp only at h
      obtain ⟨es, er⟩ := held re e
      obtain ⟨⟨kc, ec⟩, er⟩ := er
      obtain ⟨T1, T2⟩ := hC c kc
      subst ec
      have rule := pe_callB (X := X.suite a ((a, oe) :: pn)) (pos := pos) (p := p) (call_isX (X := X) (a := a) (pn := pn) T1 hz hf) hg hm PyProof.Rows.boot_isinstance (pa_cons (pe_var (X := X.suite a ((a, oe) :: pn)) (pos := px) hN hv hd hcd) (pa_cons (pe_bltn (X := X.suite a ((a, oe) :: pn)) (pos := pT) (v := .ty Ts) hgT hmT hvT rfl hnT hdT) pa_nil he2) he) (by decide) (by decide) he hpl
      refine rule.run pins s σ H Q I ⟨.ref a, es, fun d1 ed => ?_, .ty Ts, .type Ts, _, rfl, fun u r => r, T2, h _ H (Keep.refl H) re rfl fun z => Bool.noConfusion z⟩
      rcases er with er | ⟨y, d2, v, _, e2, hx, _⟩
      · rw [er.2] at ed; cases ed
      · rw [ed] at e2; cases e2
        exact ⟨_, hx⟩
    | _ => exact h.elim
end
end Sl

/-! Ev24: a def that a value is, called. -/
namespace Sl
open PySem PySem.Spec PyProof.Rows L2
section
variable {G : Gx} {F : Fn} {wn : Nat} {hot : List Nat} {B : Bs} {W : WX} {X : Cx} {a b c fe : Expr} {ia ib ic ife : E} {pos : Pos}
/-- a def by its number alone -/
structure Kv (P : Program) (w : World) (K : PySem.W.Frag) (mg : Str → Option Value) (base : Heap) (G : Gx) (F : Fn) (k : Nat) (g : Nat) : Prop where
  ex : ∃ (fd : FuncData) (ps : List Str), FnOk P w K mg base (CX P w) k (G.fa g) fd ps (spF G F g none) ∧ PySem.W.keepIn K (.ref (G.fa g)) = true ∧ Binds K fd ps []
theorem Kn.kv {P : Program} {w : World} {K : PySem.W.Frag} {mg : Str → Option Value} {base : Heap} {k g : Nat} {x : Str} {st : Stmt} {ps : List Str} (N : Kn P w K mg base G F k g none x st ps) : Kv P w K mg base G F k g := by
  obtain ⟨f, fd, Fk, hm, hk, hb, e, _⟩ := N.ex
  subst e
  exact ⟨fd, ps, Fk, hk, hb⟩
theorem pE_callv {es : List Expr} {r : Es} {k : Nat} {gs : List Nat} (sx : Sx X G W) (hr : Room k X.A) (N : ∀ g ∈ gs, Kv X.prog X.w X.K X.mg X.base G F k g) (hf : PE X fe (tE G F hot B W ife)) (ha : PA X (a :: es) (tEs G F hot B W r))
    (ht : eval (.Call fe (a :: es) [] pos) X.env = (do callWith pos (← eval fe X.env) [] (backTo pos (starEach (a :: es) X.env)) (backToKw pos (keywordEach [] X.env))) := by rfl)
    (he : starEach (a :: es) X.env = (false, eval a X.env) :: starEach es X.env := by rfl) (hpl : (backTo pos (starEach es X.env)).any (·.1) = false := by rfl) : PE X (.Call fe (a :: es) [] pos) (tE G F hot B W (.callv gs ife r)) := by
  refine ⟨fun pins s σ H Q I h => ?_⟩
  have h2 : tE G F hot B W ife σ H fun y H1 => ∃ g, g ∈ gs ∧ y = .ref (G.fa g) ∧ tEs G F hot B W r σ H1 fun vs H2 => spF G F g none vs H2 Q (fun cls d H' => W cls d σ H') := by
    obtain ⟨Om, env, re, h⟩ := h
    simp only [ev] at h
    refine ⟨Om, env, re, ?_⟩
    cases e1 : ev F ife env with
    | stk => rw [e1] at h; exact h
    | exc c pl env1 => rw [e1] at h; exact h
    | ok x env1 =>
      rw [e1] at h
      simp only [R.bind] at h
      intro v H1 k1 re1 r1 _
      cases x with
      | fn g =>
        simp only at h
        cases hg : gs.any fun z => Nat.beq z g with
        | false => simp [hg] at h
        | true =>
          simp only [hg, if_true] at h
          obtain ⟨z, hz, ez⟩ := List.any_eq_true.mp hg
          have ez := Nat.eq_of_beq_eq_true ez
          subst ez
          refine ⟨z, hz, r1, Om, env1, re1, ?_⟩
          cases e2 : evs F r env1 with
          | stk => rw [e2] at h; exact h
          | exc c pl env2 => rw [e2] at h; exact fun cls d H' k' re' er => h cls d H' (k1.om k') re' er
          | ok xs env2 =>
            rw [e2] at h
            intro vs H2 k2 re2 r2
            have kk : Keep (rt hot Om σ (muts ife ++ mutss r)) H H2 := Keep.trans k1 k2 (fun a z => rt_mono (fun j q => List.mem_append_left _ q) z) fun a z => rt_mono (fun j q => List.mem_append_right _ q) z
            exact call_none (ps := peekss r) re2 r2 (fun a z => keep_none re1.om k1 (keep_none re2.om k2 z)) kk (by
              simp only at h
              cases e3 : fromFR [] env2 (F z xs) with
              | stk => rw [e3] at h; exact h
              | exc c pl env3 => rw [e3] at h; exact h
              | ok x env3 => rw [e3] at h; exact fun v H' k re r fr => h v H' k re r fun z => Bool.noConfusion z)
      | _ => exact h.elim
  refine Call_ (thn (hf.run pins s σ H _ I h2) fun u s1 ⟨y, H1, I1, ry, g, hg, ey, q⟩ => ?_) ht
  subst ey
  obtain rfl : u = Value.ref (G.fa g) := ry
  obtain ⟨fd, ps, Fk, hk, hb⟩ := (N g hg).ex
  refine PySem.W.callWith_K (h₀ := X.base) I.ok.mod.kin hk (thn (ha.run pos pins s1 σ H1 _ I1 q) fun us s2 ⟨vs, H2, I2, r, q2⟩ => ⟨I2.kIn, ?_⟩) he hpl
  exact run_fnS (E := fun σ cls d H' => W cls d σ H') Fk hr hb (passAt sx σ) I2 r q2
end
end Sl

/-! Ev25: the least, the greatest of a list. -/
namespace Sl
open PySem PySem.Spec PyProof.Rows L2
mutual
theorem data_inj : ∀ x y : PV, isData x = true → isData y = true → dataP x = dataP y → x = y
  | .non, y, _, hy, e => by cases y <;> simp_all [dataP, isData]
  | .bl b, y, _, hy, e => by cases y <;> simp_all [dataP, isData]
  | .int i, y, _, hy, e => by cases y <;> simp_all [dataP, isData]
  | .str x, y, _, hy, e => by cases y <;> simp_all [dataP, isData]
  | .tup xs, y, hx, hy, e => by
    cases y with
    | tup ys =>
      simp only [dataP, PyData.tuple.injEq] at e
      rw [datas_inj xs ys (by simpa [isData] using hx) (by simpa [isData] using hy) e]
    | _ => simp_all [dataP, isData]
  | .lst xs, y, hx, hy, e => by
    cases y with
    | lst ys =>
      simp only [dataP, PyData.list.injEq] at e
      rw [datas_inj xs ys (by simpa [isData] using hx) (by simpa [isData] using hy) e]
    | _ => simp_all [dataP, isData]
  | .dct _ _, _, h, _, _ => by simp [isData] at h
  | .fn _, _, h, _, _ => by simp [isData] at h
  | .exn _ _, _, h, _, _ => by simp [isData] at h
  | .scr _, _, h, _, _ => by simp [isData] at h
theorem datas_inj : ∀ xs ys : List PV, areData xs = true → areData ys = true → dataPs xs = dataPs ys → xs = ys
  | [], [], _, _, _ => rfl
  | [], y :: ys, _, _, e => by simp [dataPs] at e
  | x :: xs, [], _, _, e => by simp [dataPs] at e
  | x :: xs, y :: ys, hx, hy, e => by
    simp only [dataPs, List.cons.injEq] at e
    obtain ⟨h1, h2⟩ := areData_cons hx
    obtain ⟨h3, h4⟩ := areData_cons hy
    rw [data_inj x y h1 h3 e.1, datas_inj xs ys h2 h4 e.2]
end
theorem dataPs_map : ∀ xs : List PV, dataPs xs = xs.map dataP
  | [] => rfl
  | x :: xs => by rw [dataPs, dataPs_map xs]; rfl
theorem areData_mem : ∀ {xs : List PV}, areData xs = true → ∀ x ∈ xs, isData x = true
  | [], _, x, h => by cases h
  | y :: xs, hd, x, h => by
    obtain ⟨h1, h2⟩ := areData_cons hd
    rcases List.mem_cons.mp h with e | e
    · rw [e]; exact h1
    · exact areData_mem h2 x e
theorem allAlike_mem : ∀ {xs : List PV}, allAlike xs = true → ∀ x ∈ xs, ∀ y ∈ xs, alike x y = true
  | [], _, x, h, _, _ => by cases h
  | z :: xs, ha, x, hx, y, hy => by
    simp only [allAlike, Bool.and_eq_true, List.all_eq_true] at ha
    obtain ⟨⟨h1, h2⟩, h3⟩ := ha
    rcases List.mem_cons.mp hx with e | e
    · rcases List.mem_cons.mp hy with e' | e'
      · rw [e, e']; exact h2
      · rw [e]; exact (h1 y e').1
    · rcases List.mem_cons.mp hy with e' | e'
      · rw [e']; exact (h1 x e).2
      · exact allAlike_mem h3 x e y e'
theorem alikeAll_of {xs : List PV} (h : allAlike xs = true) : PySem.W.AlikeAll (dataPs xs) := by
  rw [dataPs_map]
  refine ⟨fun x hx y hy => ?_, fun x hx => ?_⟩
  · obtain ⟨x', h1, rfl⟩ := List.mem_map.mp hx
    obtain ⟨y', h2, rfl⟩ := List.mem_map.mp hy
    exact alike_W _ _ (allAlike_mem h x' h1 y' h2)
  · obtain ⟨x', h1, rfl⟩ := List.mem_map.mp hx
    exact alike_none (allAlike_mem h x' h1 x' h1)
theorem least_mem (lt : PV → PV → Bool) : ∀ (xs : List PV) (m : PV), leastBy lt m xs ∈ m :: xs
  | [], m => by simp [leastBy]
  | x :: xs, m => by
    simp only [leastBy]
    have := least_mem lt xs (if lt x m then x else m)
    rcases List.mem_cons.mp this with e | e
    · rw [e]
      split <;> simp
    · simp [e]
theorem great_mem (lt : PV → PV → Bool) : ∀ (xs : List PV) (m : PV), greatestBy lt m xs ∈ m :: xs
  | [], m => by simp [greatestBy]
  | x :: xs, m => by
    simp only [greatestBy]
    have := great_mem lt xs (if lt m x then x else m)
    rcases List.mem_cons.mp this with e | e
    · rw [e]
      split <;> simp
    · simp [e]
theorem least_data : ∀ (xs : List PV) (m : PV), (∀ x ∈ m :: xs, ∀ y ∈ m :: xs, alike x y = true) → dataP (leastBy pyLt m xs) = PySem.W.minD (dataP m) (dataPs xs)
  | [], m, _ => rfl
  | x :: xs, m, h => by
    have hxm : alike x m = true := h x (by simp) m (by simp)
    simp only [leastBy, dataPs, PySem.W.minD, List.foldl_cons]
    rw [pyLt_eq x m hxm]
    have sub : ∀ z ∈ (if PySem.W.dataLt (dataP x) (dataP m) = true then x else m) :: xs, z ∈ m :: x :: xs := fun z hz => by
      rcases List.mem_cons.mp hz with e | e
      · rw [e]; split <;> simp
      · simp [e]
    have := least_data xs (if PySem.W.dataLt (dataP x) (dataP m) = true then x else m) fun a ha b hb => h a (sub a ha) b (sub b hb)
    rw [this]
    unfold PySem.W.minD
    congr 1
    split <;> rfl
theorem great_data : ∀ (xs : List PV) (m : PV), (∀ x ∈ m :: xs, ∀ y ∈ m :: xs, alike x y = true) → dataP (greatestBy pyLt m xs) = PySem.W.maxD (dataP m) (dataPs xs)
  | [], m, _ => rfl
  | x :: xs, m, h => by
    have hxm : alike m x = true := h m (by simp) x (by simp)
    simp only [greatestBy, dataPs, PySem.W.maxD, List.foldl_cons]
    rw [pyLt_eq m x hxm]
    have sub : ∀ z ∈ (if PySem.W.dataLt (dataP m) (dataP x) = true then x else m) :: xs, z ∈ m :: x :: xs := fun z hz => by
      rcases List.mem_cons.mp hz with e | e
      · rw [e]; split <;> simp
      · simp [e]
    have := great_data xs (if PySem.W.dataLt (dataP m) (dataP x) = true then x else m) fun a ha b hb => h a (sub a ha) b (sub b hb)
    rw [this]
    unfold PySem.W.maxD
    congr 1
    split <;> rfl
section
variable {G : Gx} {X : Cx}
theorem extreme_inv {f : (PV → PV → Bool) → PV → List PV → PV} {x pv : PV} (h : extreme f [x] = some pv) : ∃ y ys, x = .lst (y :: ys) ∧ areData (y :: ys) = true ∧ allAlike (y :: ys) = true ∧ depths (y :: ys) < 60 ∧ pv = f pyLt y ys := by
  unfold extreme at h
  split at h
  · rename_i y ys e
    cases e
    split at h
    · rename_i hc
      simp only [Bool.and_eq_true] at hc
      cases h
      exact ⟨y, ys, rfl, hc.1.1, hc.1.2, blt_lt hc.2, rfl⟩
    · cases h
  · cases h
theorem cr_ext {fn : String} {o : Op} {f : (PV → PV → Bool) → PV → List PV → PV} {g : PyData → List PyData → PyData} (hK : X.K = G.K) (hc : X.calm = true) (hu : X.A.units + 80 < cLine) (ho : opSem o = extreme f) (hfr : freshOp o = false) (hm : ∀ xs m, f pyLt m xs ∈ m :: xs) (hd : ∀ xs m, (∀ x ∈ m :: xs, ∀ y ∈ m :: xs, alike x y = true) → dataP (f pyLt m xs) = g (dataP m) (dataPs xs))
    (rule : ∀ {E : Value → Shared → Prop} {s : Shared} {l : Addr} {vs : Array Value} {x : PyData} {xs : List PyData} {as : List Addr} {Q : Value → Shared → Prop}, X.A.handled = none → s.heap.IsList l vs → ReadsAll s.heap vs.toList (x :: xs) as → PySem.W.AlikeAll (x :: xs) → X.A.units + 1 + PyData.depthAll (x :: xs) < cLine →
      (∀ (i : Nat) v h' tk bs, vs[i]? = some v → Reads h' v (g x xs) bs → (∀ b o, s.heap.get? b = some o → h'.get? b = some o) → Q v { s with heap := h', toks := tk }) → wpAny (model X.prog X.w) X.A (call (.builtin fn) [.ref l]) Q E s) : CallR X (.builtin fn) (rP G o) := by
  intro pins s σ H vs us Q I rx ⟨Om, pvs, pv, om, rp, sem, q⟩
  rw [ho] at sem
  obtain ⟨x, rfl⟩ : ∃ x, pvs = [x] := by
    match pvs, sem with
    | [], sem => cases sem
    | [x], _ => exact ⟨x, rfl⟩
    | .lst (_ :: _) :: _ :: _, sem => cases sem
    | .lst [] :: _ :: _, sem => cases sem
    | .non :: _ :: _, sem => cases sem
    | .bl _ :: _ :: _, sem => cases sem
    | .int _ :: _ :: _, sem => cases sem
    | .str _ :: _ :: _, sem => cases sem
    | .tup _ :: _ :: _, sem => cases sem
    | .dct _ _ :: _ :: _, sem => cases sem
    | .fn _ :: _ :: _, sem => cases sem
    | .exn _ _ :: _ :: _, sem => cases sem
    | .scr _ :: _ :: _, sem => cases sem
  obtain ⟨y, ys, rfl, h1, h2, h3, rfl⟩ := extreme_inv sem
  obtain ⟨v, rfl, r⟩ := rp.one
  obtain ⟨l, ws, rfl, n, hH, rs⟩ := r
  obtain ⟨u, rfl, ru⟩ := vals1 rx
  cases ru
  obtain ⟨z, its, c0, rv, hl, eo⟩ := I.lstM hH
  obtain ⟨as, ra⟩ := Dp.readsAll I _ _ _ (hK ▸ Reps.dp (y :: ys) ws h1 rs) rv
  have hdep := datas_depth (y :: ys)
  refine rule (I.ok.hd hc) ⟨_, eo, rfl, _, rfl⟩ ra (alikeAll_of h2) (by show X.A.units + 1 + PyData.depthAll (dataPs (y :: ys)) < cLine; omega) fun i v h' tk bs hv hr hk => ?_
  have hv : its[i]? = some v := by simpa using hv
  have hlt : i < (y :: ys).length := by
    have := (List.getElem?_eq_some_iff.mp hv).1
    rw [← rv.length, rs.length] at this
    exact this
  obtain ⟨w, hw, rw'⟩ := rs.get (List.getElem?_eq_getElem hlt)
  obtain ⟨v', hv', rwv⟩ := rv.get hw
  rw [hv] at hv'; cases hv'
  -- the item is that one
  have hmem := hm ys y
  have dI : isData (y :: ys)[i] = true := areData_mem h1 _ (List.getElem_mem hlt)
  have dF : isData (f pyLt y ys) = true := areData_mem h1 _ hmem
  obtain ⟨as2, r2⟩ := cmp_reads I hK dI rw' rwv
  have r3 := Reads.keeps hk r2
  rw [← hd ys y (allAlike_mem h2)] at hr
  have e : (y :: ys)[i] = f pyLt y ys := data_inj _ _ dI dF ((SeqAt.readOf_eq (data_lay _ dI) r3).symm.trans (SeqAt.readOf_eq (data_lay _ dF) hr))
  refine ⟨w, H, I.kept hk, rwv, q w H (Keep.refl H) (by rw [← e]; exact rw') fun z => by rw [hfr] at z; cases z⟩
theorem cr_min1 (hK : X.K = G.K) (hc : X.calm = true) (hu : X.A.units + 80 < cLine) : CallR X (.builtin "min") (rP G .min1) :=
  cr_ext (f := leastBy) (g := PySem.W.minD) hK hc hu rfl rfl (fun xs m => least_mem pyLt xs m) (fun xs m h => least_data xs m h) fun hh hl hr ha hu h => PySem.W.min_list_data hh hl hr ha hu h
theorem cr_max1 (hK : X.K = G.K) (hc : X.calm = true) (hu : X.A.units + 80 < cLine) : CallR X (.builtin "max") (rP G .max1) :=
  cr_ext (f := greatestBy) (g := PySem.W.maxD) hK hc hu rfl rfl (fun xs m => great_mem pyLt xs m) (fun xs m h => great_data xs m h) fun hh hl hr ha hu h => PySem.W.max_list_data hh hl hr ha hu h
end
end Sl

/-! Ev26: sorted of a list. -/
namespace Sl
open PySem PySem.Spec PyProof.Rows L2
/-- the order of the sort -/
def leP : PV → PV → Bool := PySem.W.dataLe false dataP
theorem leP_total : PySem.W.TotalLe leP := PySem.W.sortLe_total (PyProof.Rows.listOrd PyProof.Rows.itemOrd) false fun b => PySem.W.keyToks (dataP b)
theorem leP_lt {x y : PV} (h : alike x y = true) : pyLt x y = !leP y x := by
  rw [pyLt_eq x y h]
  have e : leP y x = !PySem.W.dataLt (dataP x) (dataP y) := rfl
  rw [e, Bool.not_not]
theorem insBy_mem {lt : PV → PV → Bool} {x z : PV} : ∀ {acc : List PV}, z ∈ insBy lt x acc → z = x ∨ z ∈ acc
  | [], h => by simp [insBy] at h; exact .inl h
  | y :: ys, h => by
    simp only [insBy] at h
    split at h
    · rcases List.mem_cons.mp h with e | e
      · exact .inl e
      · exact .inr e
    · rcases List.mem_cons.mp h with e | e
      · exact .inr (by rw [e]; simp)
      · rcases insBy_mem e with e | e
        · exact .inl e
        · exact .inr (List.mem_cons_of_mem _ e)
theorem insBy_ok {x : PV} : ∀ {acc : List PV}, (∀ y ∈ acc, alike x y = true) → acc.Pairwise (fun a b => leP a b = true) →
    (insBy pyLt x acc).Pairwise (fun a b => leP a b = true) ∧ ∀ c, (insBy pyLt x acc).filter (PySem.W.sameRank leP c) = acc.filter (PySem.W.sameRank leP c) ++ [x].filter (PySem.W.sameRank leP c)
  | [], _, _ => ⟨by simp [insBy], fun c => by simp [insBy]⟩
  | y :: ys, ha, hs => by
    have h1 := leP_lt (ha y (by simp))
    obtain ⟨s1, s2⟩ := List.pairwise_cons.mp hs
    simp only [insBy]
    split
    · rename_i hl
      rw [h1] at hl
      have hn : leP y x = false := by simpa using hl
      have hxy : leP x y = true := (leP_total.total x y).elim id fun e => by rw [hn] at e; cases e
      have hall : ∀ z ∈ y :: ys, leP y z = true := fun z hz => by
        rcases List.mem_cons.mp hz with e | e
        · rw [e]; exact leP_total.refl y
        · exact s1 z e
      refine ⟨List.pairwise_cons.mpr ⟨fun z hz => leP_total.trans _ _ _ hxy (hall z hz), hs⟩, fun c => ?_⟩
      cases hc : PySem.W.sameRank leP c x with
      | false =>
        rw [List.filter_cons_of_neg (by rw [hc]; simp), List.filter_cons_of_neg (l := []) (by rw [hc]; simp)]
        simp
      | true =>
        have hz : (y :: ys).filter (PySem.W.sameRank leP c) = [] := by
          rw [List.filter_eq_nil_iff]
          intro z hz hcz
          unfold PySem.W.sameRank at hc hcz
          rw [Bool.and_eq_true] at hc hcz
          have : leP y x = true := leP_total.trans _ _ _ (hall z hz) (leP_total.trans _ _ _ hcz.2 hc.1)
          rw [hn] at this; cases this
        rw [List.filter_cons_of_pos hc, List.filter_cons_of_pos (l := []) hc, hz]
        simp
    · rename_i hl
      rw [h1] at hl
      have hyx : leP y x = true := by simpa using hl
      obtain ⟨i1, i2⟩ := insBy_ok (fun z hz => ha z (by simp [hz])) s2
      refine ⟨List.pairwise_cons.mpr ⟨fun z hz => ?_, i1⟩, fun c => ?_⟩
      · rcases insBy_mem hz with e | e
        · rw [e]; exact hyx
        · exact s1 z e
      · cases hc : PySem.W.sameRank leP c y with
        | true => rw [List.filter_cons_of_pos hc, List.filter_cons_of_pos hc, i2 c]; rfl
        | false => rw [List.filter_cons_of_neg (by rw [hc]; simp), List.filter_cons_of_neg (by rw [hc]; simp), i2 c]
theorem sortBy_ok : ∀ {xs acc : List PV}, (∀ x ∈ acc ++ xs, ∀ y ∈ acc ++ xs, alike x y = true) → acc.Pairwise (fun a b => leP a b = true) →
    (sortBy pyLt acc xs).Pairwise (fun a b => leP a b = true) ∧ ∀ c, (sortBy pyLt acc xs).filter (PySem.W.sameRank leP c) = (acc ++ xs).filter (PySem.W.sameRank leP c)
  | [], acc, _, hs => ⟨hs, fun c => by simp [sortBy]⟩
  | x :: xs, acc, ha, hs => by
    obtain ⟨i1, i2⟩ := insBy_ok (x := x) (fun y hy => ha x (by simp) y (by simp [hy])) hs
    have sub : ∀ z ∈ insBy pyLt x acc ++ xs, z ∈ acc ++ x :: xs := fun z hz => by
      rcases List.mem_append.mp hz with e | e
      · rcases insBy_mem e with e | e
        · rw [e]; simp
        · simp [e]
      · simp [e]
    obtain ⟨j1, j2⟩ := sortBy_ok (xs := xs) (fun a h1 b h2 => ha a (sub a h1) b (sub b h2)) i1
    refine ⟨j1, fun c => ?_⟩
    show (sortBy pyLt (insBy pyLt x acc) xs).filter _ = _
    rw [j2 c, List.filter_append, i2 c, ← List.filter_append, ← List.filter_append]
    simp
theorem sortBy_eq {xs : List PV} (h : allAlike xs = true) : sortBy pyLt [] xs = xs.mergeSort leP := by
  obtain ⟨h1, h2⟩ := sortBy_ok (xs := xs) (acc := []) (by simpa using allAlike_mem h) List.Pairwise.nil
  exact PySem.W.sort_unique leP_total h1 fun c => by simpa using h2 c
theorem insBy_len (lt : PV → PV → Bool) (x : PV) : ∀ acc : List PV, (insBy lt x acc).length = acc.length + 1
  | [] => rfl
  | y :: ys => by
    simp only [insBy]
    split
    · rfl
    · rw [List.length_cons, insBy_len lt x ys]; rfl
theorem sortBy_len (lt : PV → PV → Bool) : ∀ xs acc : List PV, (sortBy lt acc xs).length = acc.length + xs.length
  | [], acc => rfl
  | x :: xs, acc => by
    show (sortBy lt (insBy lt x acc) xs).length = _
    rw [sortBy_len lt xs, insBy_len, List.length_cons]; omega
section
variable {G : Gx} {X : Cx}
theorem each_to {pins : List (Addr × Obj)} {s : Shared} {σ : L2.St} {H : Hp} {Om : Addr → Prop} (I : Inv X pins σ H s) (hK : X.K = G.K) : ∀ {xs : List PV} {ws : List V} {its : List Value}, areData xs = true → Reps G Om H xs ws → Vals ws its →
    PySem.W.EachIs (fun u x => ∃ w, RelV w u ∧ Rep G Om H x w) its xs ∧ PySem.W.EachIs (fun u x => ∃ as, Reads s.heap u (dataP x) as) its xs
  | [], ws, its, _, h, r => by
    have h : ws = [] := h
    subst h
    cases r
    exact ⟨.nil, .nil⟩
  | x :: xs, ws, its, d, h, r => by
    obtain ⟨v, t, e, h1, h2⟩ := h
    subst e
    cases r with
    | cons r1 r2 =>
      obtain ⟨d1, d2⟩ := areData_cons d
      obtain ⟨i1, i2⟩ := each_to I hK d2 h2 r2
      exact ⟨.cons ⟨_, r1, h1⟩ i1, .cons (cmp_reads I hK d1 h1 r1) i2⟩
theorem each_from {H : Hp} {Om : Addr → Prop} : ∀ {its : List Value} {xs : List PV}, PySem.W.EachIs (fun u x => ∃ w, RelV w u ∧ Rep G Om H x w) its xs → ∃ ws, Reps G Om H xs ws ∧ Vals ws its
  | _, _, .nil => ⟨[], rfl, .nil⟩
  | _, _, .cons ⟨w, r, h⟩ t => by
    obtain ⟨ws, h1, h2⟩ := each_from t
    exact ⟨w :: ws, ⟨w, ws, rfl, h, h1⟩, .cons r h2⟩
theorem depths_mem : ∀ {xs : List PV} {x : PV}, x ∈ xs → depth x ≤ depths xs
  | y :: ys, x, h => by
    simp only [depths]
    rcases List.mem_cons.mp h with e | e
    · rw [e]; omega
    · have := depths_mem e; omega
theorem sortable_W {xs : List PV} (ha : allAlike xs = true) (h : (xs.all fun x => match x with | .int _ => true | .str _ => true | .tup (_ :: _) => true | _ => false) = true) : PySem.W.Sortable (xs.map dataP) := by
  rw [List.all_eq_true] at h
  cases xs with
  | nil => exact .inr fun d hd => by cases hd
  | cons x xs =>
    have h0 := h x (by simp)
    have hal := fun y (hy : y ∈ x :: xs) => allAlike_mem ha x (by simp) y hy
    cases x with
    | tup ts =>
      refine .inl fun d hd => ?_
      obtain ⟨y, hy, rfl⟩ := List.mem_map.mp hd
      have h1 := hal y hy
      have h2 := h y hy
      cases y with
      | tup us => cases us with
        | nil => simp at h2
        | cons u us => exact ⟨dataP u, dataPs us, rfl⟩
      | _ => simp [alike] at h1
    | int i =>
      refine .inr fun d hd => ?_
      obtain ⟨y, hy, rfl⟩ := List.mem_map.mp hd
      have h1 := hal y hy
      cases y with
      | int j => exact ⟨by simp [dataP], by simp [dataP]⟩
      | _ => simp [alike] at h1
    | str i =>
      refine .inr fun d hd => ?_
      obtain ⟨y, hy, rfl⟩ := List.mem_map.mp hd
      have h1 := hal y hy
      cases y with
      | str j => exact ⟨by simp [dataP], by simp [dataP]⟩
      | _ => simp [alike] at h1
    | _ => simp at h0
end
end Sl

/-! Ev27: enumerate(xs), zip(xs, ys). -/
namespace Sl
open PySem PySem.Spec PyProof.Rows L2
theorem enumFrom_get : ∀ (xs : List PV) (k i : Nat) (x : PV), (enumFrom k xs)[i]? = some x → ∃ y, xs[i]? = some y ∧ x = .tup [.int (Int.ofNat (k + i)), y]
  | [], k, i, x, h => by simp [enumFrom] at h
  | y :: ys, k, 0, x, h => by
    simp [enumFrom] at h
    exact ⟨y, by simp, by rw [← h]; rfl⟩
  | y :: ys, k, i + 1, x, h => by
    simp only [enumFrom, List.getElem?_cons_succ] at h
    obtain ⟨z, h1, h2⟩ := enumFrom_get ys (k + 1) i x h
    exact ⟨z, by simpa using h1, by rw [h2, show k + 1 + i = k + (i + 1) by omega]⟩
theorem enumFrom_len : ∀ (xs : List PV) (k : Nat), (enumFrom k xs).length = xs.length
  | [], _ => rfl
  | x :: xs, k => by simp [enumFrom, enumFrom_len xs]
theorem zipP_get : ∀ (xs ys : List PV) (i : Nat) (x : PV), (zipP xs ys)[i]? = some x → ∃ a b, xs[i]? = some a ∧ ys[i]? = some b ∧ x = .tup [a, b]
  | [], ys, i, x, h => by simp [zipP] at h
  | a :: xs, [], i, x, h => by simp [zipP] at h
  | a :: xs, b :: ys, 0, x, h => by
    simp [zipP] at h
    exact ⟨a, b, by simp, by simp, h.symm⟩
  | a :: xs, b :: ys, i + 1, x, h => by
    simp only [zipP, List.getElem?_cons_succ] at h
    obtain ⟨c, d, h1, h2, h3⟩ := zipP_get xs ys i x h
    exact ⟨c, d, by simpa using h1, by simpa using h2, h3⟩
theorem zipP_len : ∀ (xs ys : List PV), (zipP xs ys).length = min xs.length ys.length
  | [], ys => by simp [zipP]
  | a :: xs, [] => by simp [zipP]
  | a :: xs, b :: ys => by simp only [zipP, List.length_cons, zipP_len xs ys]; omega
section
variable {G : Gx} {F : Fn} {hot : List Nat} {B : Bs} {W : WX} {X : Cx}
theorem wk_enum {Om : Addr → Prop} {H : Hp} {p : Addr} {xs : List PV} {vs : List V} (om : OmOk Om H) (hq : ∀ {Om' H'}, Ext Om H Om' H' → SqL X.K H' p vs) (r : Reps G Om H xs vs) : Wk G Om H (Ite X.K p) (enumFrom 0 xs) := by
  intro Om' H' e om' i
  have q := hq e
  have r' := e.reps om r
  refine ⟨fun x hx => ?_, fun hl => ⟨vs, q, by rw [r.length]; rw [enumFrom_len] at hl; exact hl⟩⟩
  obtain ⟨y, hy, rfl⟩ := enumFrom_get xs 0 i x hx
  obtain ⟨v, hv, rv⟩ := r'.get hy
  refine ⟨⟨vs, v, q, hv⟩, fun u H'' ⟨T, z, e1, hn, e2, f⟩ => ?_⟩
  subst e1; subst e2
  have := f vs q
  rw [hv] at this; cases this
  exact ⟨keep_new hn, Rep.tupNew hn ⟨_, _, rfl, by show V.int _ = V.int _; simp, _, _, rfl, rv, rfl⟩⟩
theorem wk_zip {Om : Addr → Prop} {H : Hp} {p p2 : Addr} {xs ys : List PV} {vs ws : List V} (om : OmOk Om H) (hq : ∀ {Om' H'}, Ext Om H Om' H' → SqL X.K H' p vs) (hq2 : ∀ {Om' H'}, Ext Om H Om' H' → SqL X.K H' p2 ws) (r : Reps G Om H xs vs) (r2 : Reps G Om H ys ws) : Wk G Om H (Itz X.K p p2) (zipP xs ys) := by
  intro Om' H' e om' i
  have q := hq e
  have q2 := hq2 e
  have r' := e.reps om r
  have r2' := e.reps om r2
  refine ⟨fun x hx => ?_, fun hl => ⟨vs, ws, q, q2, by rw [zipP_len] at hl; rw [r.length, r2.length]; omega⟩⟩
  obtain ⟨a, b, ha, hb, rfl⟩ := zipP_get xs ys i x hx
  obtain ⟨v, hv, rv⟩ := r'.get ha
  obtain ⟨w, hw, rw'⟩ := r2'.get hb
  refine ⟨⟨vs, ws, v, w, q, q2, hv, hw⟩, fun u H'' ⟨T, z, z2, e1, hn, e2, f, f2⟩ => ?_⟩
  subst e1; subst e2
  have := f vs q
  rw [hv] at this; cases this
  have := f2 ws q2
  rw [hw] at this; cases this
  exact ⟨keep_new hn, Rep.tupNew hn ⟨_, _, rfl, rv, _, _, rfl, rw', rfl⟩⟩
theorem wk_zipT {Om : Addr → Prop} {H : Hp} {p p2 : Addr} {xs ys : List PV} {vs ws : List V} (om : OmOk Om H) (hq : ∀ {Om' H'}, Ext Om H Om' H' → SqT X.K H' p vs) (hq2 : ∀ {Om' H'}, Ext Om H Om' H' → SqT X.K H' p2 ws) (r : Reps G Om H xs vs) (r2 : Reps G Om H ys ws) : Wk G Om H (RZ.ItzT X.K p p2) (zipP xs ys) := by
  intro Om' H' e om' i
  have q := hq e
  have q2 := hq2 e
  have r' := e.reps om r
  have r2' := e.reps om r2
  refine ⟨fun x hx => ?_, fun hl => ⟨vs, ws, q, q2, by rw [zipP_len] at hl; rw [r.length, r2.length]; omega⟩⟩
  obtain ⟨a, b, ha, hb, rfl⟩ := zipP_get xs ys i x hx
  obtain ⟨v, hv, rv⟩ := r'.get ha
  obtain ⟨w, hw, rw'⟩ := r2'.get hb
  refine ⟨⟨vs, ws, v, w, q, q2, hv, hw⟩, fun u H'' ⟨T, z, z2, e1, hn, e2, f, f2⟩ => ?_⟩
  subst e1; subst e2
  have := f vs q
  rw [hv] at this; cases this
  have := f2 ws q2
  rw [hw] at this; cases this
  exact ⟨keep_new hn, Rep.tupNew hn ⟨_, _, rfl, rv, _, _, rfl, rw', rfl⟩⟩
theorem tI_enum {i : E} {σ : L2.St} {H : Hp} {Rr : L2.It → Hp → Prop} (hK : X.K = G.K) (hp : disj (peekss (.cons i .nil)) hot = true) (h : tI G F hot B W (.enum i) σ H Rr) : iEnum X.K (tEs G F hot B W (.cons i .nil)) σ H Rr := by
  obtain ⟨Om, env, re, h⟩ := h
  refine ⟨Om, env, re, ?_⟩
  simp only [evi] at h
  simp only [evs]
  cases e1 : ev F i env with
  | stk => rw [e1] at h; exact h
  | exc c pl env1 => rw [e1] at h; exact h
  | ok x env1 =>
    rw [e1] at h
    simp only [R.bind] at h
    intro vs H1 k re1 r
    obtain ⟨v, rfl, r1⟩ := r.one
    have r := r1.of_cold hp
    have k : Keep (rt hot Om σ (mutsI (.enum i))) H H1 := by
      have k : Keep (rt hot Om σ (muts i ++ [])) H H1 := k
      rw [List.append_nil] at k
      exact k
    cases x with
    | lst xs =>
      obtain ⟨p, vs, rfl, n, q, rs⟩ := r
      exact ⟨p, vs, rfl, .inl (.inl q), h _ H1 k re1 (wk_enum re1.om (fun e => Ext.sqL n e (.inl q)) rs)⟩
    | scr xs =>
      obtain ⟨p, vs, rfl, n, rs⟩ := r
      have n : Nl X.K Om H1 p vs := hK ▸ n
      exact ⟨p, vs, rfl, n.sq, h _ H1 k re1 (wk_enum re1.om (fun e => n.ext e) rs)⟩
    | _ => exact h.elim
theorem pI_enum {a : Expr} {ia : E} {p pos tpos : Pos} {elts : List Expr} {kk : Nat} (hK : X.K = G.K) (hg : Gl X "enumerate") (hm : X.mg "enumerate" = none) (ha : PE X a (tE G F hot B W ia)) (hp : disj (peekss (.cons ia .nil)) hot = true := by rfl) (hs : starEach [a] X.env = [(false, eval a X.env)] := by rfl) :
    PI X (.Tuple elts kk tpos) (.Call (.Name "enumerate" p) [a] [] pos) (tI G F hot B W (.enum ia)) :=
  PI.imp (pi_enum hg hm (pAs_cons ha pAs_nil (List.all_eq_true.mpr fun _ _ => rfl) hs) hs) fun _ _ _ h => tI_enum hK hp h
theorem tI_zip {i j : E} {σ : L2.St} {H : Hp} {Rr : L2.It → Hp → Prop} (hK : X.K = G.K) (hp : disj (peekss (.cons i (.cons j .nil))) hot = true) (h : tI G F hot B W (.zip i j) σ H Rr) : RZ.iZipA X.K (tEs G F hot B W (.cons i (.cons j .nil))) σ H Rr := by
  obtain ⟨Om, env, re, h⟩ := h
  refine ⟨Om, env, re, ?_⟩
  simp only [evi] at h
  simp only [evs]
  cases e1 : ev F i env with
  | stk => rw [e1] at h; exact h
  | exc c pl env1 => rw [e1] at h; exact h
  | ok x env1 =>
    rw [e1] at h
    simp only [R.bind] at h ⊢
    cases e2 : ev F j env1 with
    | stk => rw [e2] at h; exact h
    | exc c pl env2 => rw [e2] at h; exact h
    | ok y env2 =>
      rw [e2] at h
      simp only [R.bind] at h ⊢
      intro vs H1 k re1 r
      obtain ⟨v, t, rfl, r1, r⟩ := r
      obtain ⟨w, rfl, r2⟩ := r.one
      have r1 := r1.of_cold hp
      have r2 := r2.of_cold hp
      have k : Keep (rt hot Om σ (mutsI (.zip i j))) H H1 := by
        have k : Keep (rt hot Om σ (muts i ++ (muts j ++ []))) H H1 := k
        rw [List.append_nil] at k
        exact k
      have lists : ∀ {z : PV} {zs : List PV} {u : V}, listOf z = some zs → Rep G Om H1 z u → ∃ p ws, u = .ref p ∧ Nl X.K Om H1 p ws ∧ Reps G Om H1 zs ws := fun {z zs u} hz r => by
        cases z with
        | lst xs =>
          obtain ⟨p, vs, rfl, n, q, rs⟩ := r
          cases hz
          exact ⟨p, vs, rfl, .inl ⟨.inl q, n⟩, rs⟩
        | scr xs =>
          obtain ⟨p, vs, rfl, n, rs⟩ := r
          cases hz
          exact ⟨p, vs, rfl, hK ▸ n, rs⟩
        | _ => cases hz
      cases e3 : bothOf x y with
      | none => rw [e3] at h; exact h.elim
      | some pr =>
        obtain ⟨xs, ys⟩ := pr
        rw [e3] at h
        have both : listOf x = some xs → listOf y = some ys → ∃ a b xs ys, [v, w] = [.ref a, .ref b] ∧ ((SqL X.K H1 a xs ∧ SqL X.K H1 b ys ∧ Rr (Itz X.K a b) H1) ∨ (SqT X.K H1 a xs ∧ SqT X.K H1 b ys ∧ Rr (RZ.ItzT X.K a b) H1)) := fun hx hy => by
          obtain ⟨p, us, rfl, n, rs⟩ := lists hx r1
          obtain ⟨p2, ws, rfl, n2, rs2⟩ := lists hy r2
          exact ⟨p, p2, us, ws, rfl, .inl ⟨n.sq, n2.sq, h _ H1 k re1 (wk_zip re1.om (fun e => n.ext e) (fun e => n2.ext e) rs rs2)⟩⟩
        have two : ∀ {z : PV}, (match listOf z, listOf y with | some xs, some ys => some (xs, ys) | _, _ => none) = some (xs, ys) → listOf z = some xs ∧ listOf y = some ys := fun {z} e => by
          cases q1 : listOf z with
          | none => rw [q1] at e; cases e
          | some a => cases q2 : listOf y with
            | none => rw [q1, q2] at e; cases e
            | some b => rw [q1, q2] at e; cases e; exact ⟨rfl, rfl⟩
        cases x with
        | tup us =>
          cases y with
          | tup ws =>
            cases e3
            obtain ⟨p, us, rfl, q, rs⟩ := r1
            obtain ⟨p2, ws, rfl, q2, rs2⟩ := r2
            have q : SqT X.K H1 p us := hK ▸ q
            have q2 : SqT X.K H1 p2 ws := hK ▸ q2
            exact ⟨p, p2, us, ws, rfl, .inr ⟨q, q2, h _ H1 k re1 (wk_zipT re1.om (fun e => Ext.sqT re1.om e q) (fun e => Ext.sqT re1.om e q2) rs rs2)⟩⟩
          | _ => cases e3
        | lst us => exact both (two (z := .lst us) e3).1 (two (z := .lst us) e3).2
        | scr us => exact both (two (z := .scr us) e3).1 (two (z := .scr us) e3).2
        | _ => cases e3
theorem pI_zip {a b : Expr} {ia ib : E} {p pos tpos : Pos} {elts : List Expr} {kk : Nat} (hK : X.K = G.K) (hg : Gl X "zip") (hm : X.mg "zip" = none) (ha : PE X a (tE G F hot B W ia)) (hb : PE X b (tE G F hot B W ib)) (hp : disj (peekss (.cons ia (.cons ib .nil))) hot = true := by rfl) (hd : disj (peeks ia) (mutss (.cons ib .nil)) = true := by rfl)
    (hs : starEach [a, b] X.env = (false, eval a X.env) :: starEach [b] X.env := by rfl) (hs2 : starEach [b] X.env = [(false, eval b X.env)] := by rfl) (hpl : (backTo pos (starEach [b] X.env)).any (·.1) = false := by rfl) :
    PI X (.Tuple elts kk tpos) (.Call (.Name "zip" p) [a, b] [] pos) (tI G F hot B W (.zip ia ib)) :=
  PI.imp (RZ.pi_zipA hg hm (pAs_cons ha (pAs_cons hb pAs_nil (List.all_eq_true.mpr fun _ _ => rfl) hs2) hd hs) hs hpl) fun _ _ _ h => tI_zip hK hp h
end
end Sl

/-! Ev28: sorted of a tuple. -/
namespace Sl
open PySem PySem.W PySem.Spec PyProof.Rows L2
section
variable {prog : Program} {w : World} {A : Around} {E : Value → Shared → Prop} {s : Shared}
theorem collect_tup {l : Addr} {vs : List Value} {Q : List Value → Shared → Prop} (hl : s.heap.IsTuple l vs.toArray)
    (h : Q vs { s with heap := (s.heap.push (seqObj "list" #[] 0)).update s.heap.objs.size (Obj.mapSeq (· ++ vs.toArray)) }) (hsz : vs.length ≤ sizeLine) :
    wpAny (model prog w) A (collect (.ref l)) Q E s := by
  obtain ⟨o, ho, hc, n, hd⟩ := id hl
  unfold collect
  refine wpAny_bind (wpAny_runValue (codeAny_builtin entry_proto_collect' ?_))
  show wpAny _ _ (do again (.builtin "list.__iadd__" ⟨[← newList [], .ref l], []⟩)) _ _ s
  refine wpAny_bind (wpAny_newList (wpAny_pure ⟨Code.quiet_builtin _ (by decide +kernel), codeAny_builtin entry_list_iadd' ?_⟩))
  show wpAny _ _ (Builtin.List.listExtendWith (.ref s.heap.objs.size) (.ref l) (.ref s.heap.objs.size)) _ _ { s with heap := s.heap.push (seqObj "list" #[] 0) }
  unfold Builtin.List.listExtendWith
  have o2 : (s.heap.push (seqObj "list" #[] 0)).get? l = some o := Heap.get?_push_of_some _ ho
  refine wpAny_bind (wpAny_typeOf (T := "tuple") ⟨o, o2, hc⟩ ?_)
  rw [if_pos (by rw [show (Value.type "tuple" == Value.type "tuple") = true by rfl]; simp)]
  refine wpAny_bind (listItems_at o2 hd ?_)
  refine wpAny_bind (listItems_at (xs := #[]) (n := 0) (Heap.get?_push_size _ rfl) rfl ?_)
  rw [if_neg (by simp)]
  refine wpAny_bind (listUpdate_at (xs := #[]) (n := 0) (Heap.get?_push_size _ rfl) rfl ?_ (Nat.zero_le _) (by show (#[] ++ vs.toArray).size ≤ sizeLine + 1; simp only [Array.size_append, List.size_toArray, List.length_nil]; omega))
  refine wpAny_pure ?_
  refine wpAny_bind (wpAny_load (get?_update_seq (Heap.get?_push_size _ rfl) _) ?_)
  show wpAny _ _ (pure ((#[] : Array Value) ++ vs.toArray).toList) Q E _
  rw [show ((#[] : Array Value) ++ vs.toArray).toList = vs by simp]
  exact wpAny_pure h
/-- sorted(t) -/
theorem sorted_tup {β : Type} {vs : List Value} {bs : List β} {enc : β → PyData} {R : Value → β → Prop} {l : Addr} {Q : Value → Shared → Prop} (hl : s.heap.IsTuple l vs.toArray) (e : EachIs R vs bs) (er : EachIs (fun v b => ∃ as, Reads s.heap v (enc b) as) vs bs) (hal : AllAlike (bs.map enc)) (hk : Sortable (bs.map enc)) (hL : bs.length ≤ sizeLine)
    (hu : ∀ b, b ∈ bs → A.units + 2 + (enc b).depth < cLine) (h : ∀ out, out.length = bs.length → EachIs R out (bs.mergeSort (dataLe false enc)) → Q (.ref (s.heap.objs.size + 1)) { s with heap := sortedAll s.heap vs (List.toArray out) }) :
    wpAny (model prog w) A (call (.builtin "sorted") [.ref l]) Q E s := by
  have hv : vs.length ≤ sizeLine := by rw [e.length]; exact hL
  refine call_function_entry_kw kind_sorted plain_sorted entry_sorted (args_sorted1 _) ?_
  unfold Builtin.«sorted»
  refine wpAny_bind (m := checkCount "sorted" 1 1 _) (wpAny_pure ?_)
  refine wpAny_bind (collect_tup hl ?_ hv)
  refine wpAny_bind (wpAny_newList ?_ hv)
  have hsz : ((s.heap.push (seqObj "list" #[] 0)).update s.heap.objs.size (Obj.mapSeq (· ++ vs.toArray))).objs.size = s.heap.objs.size + 1 := by
    rw [Heap.size_update, size_push']
  show wpAny _ _ _ _ _ { s with heap := copyHeap s.heap vs }
  rw [hsz]
  have eb : EachIs (fun v b => ∃ as, Reads (sortingHeap (copyHeap s.heap vs) (s.heap.objs.size + 1) vs) v (enc b) as) vs bs := er.mono fun _ _ ⟨as, r⟩ => ⟨as, PyProof.Rows.Reads.keeps (fun _ _ => sorting_copy_old) r⟩
  refine wpAny_bind (wpAny_holding (wpAny_call_entry_kw slot_list_sort ⟨_, copyHeap_at s.heap vs, rfl⟩ entry_list_sort ?body (args_list_sort _)))
  case body =>
    refine list_sort_vals (s := { s with heap := copyHeap s.heap vs }) (copyHeap_at s.heap vs) (SortsAt.data (s := { s with heap := sortingHeap (copyHeap s.heap vs) (s.heap.objs.size + 1) vs }) (each_map (R := fun v d => ∃ as, Reads (sortingHeap (copyHeap s.heap vs) (s.heap.objs.size + 1) vs) v d as) enc eb) hal hk (bound_map hu)) hv ⟨_, rfl, wpAny_pure ⟨_, rfl, ?_⟩⟩
    exact h _ (by rw [sortVals_length false rfl]; exact e.length) (sortVals_data false e eb hal)
end
section
variable {G : Gx} {X : Cx}
theorem sortable_inv {xs : List PV} (hc : (sortable xs && short xs) = true) : areData xs = true ∧ allAlike xs = true ∧ depths xs < 60 ∧ xs.length < cap ∧ PySem.W.Sortable (xs.map dataP) := by
  simp only [sortable, Bool.and_eq_true] at hc
  obtain ⟨⟨⟨⟨h1, h2⟩, h3⟩, h4⟩, h5⟩ := hc
  exact ⟨h1, h2, blt_lt h3, short_lt h5, sortable_W h2 h4⟩
theorem cr_sorted (hK : X.K = G.K) (hu : X.A.units + 80 < cLine) : CallR X (.builtin "sorted") (rP G .sorted) := by
  intro pins s σ H vs us Q I rx h
  obtain ⟨Om, x, pv, v, om, rfl, r, sem, q⟩ := one_sem h fun pvs pv e => by
    cases pvs with
    | nil => cases e
    | cons x t => cases t with
      | nil => exact ⟨x, rfl⟩
      | cons y t => cases x <;> cases e
  have hcl := cap_line
  have hcp : cap = 100000 := rfl
  have deep : ∀ {xs : List PV}, depths xs < 60 → ∀ b, b ∈ xs → X.A.units + 2 + (dataP b).depth < cLine := fun {xs} h3 b hb => by
    have := depths_mem hb
    have := data_depth b
    omega
  have fin : ∀ {xs : List PV} {its : List Value}, allAlike xs = true → xs.length < cap → pv = .lst (sortBy pyLt [] xs) → ∀ out : List Value, out.length = xs.length →
      PySem.W.EachIs (fun u x => ∃ w, RelV w u ∧ Rep G Om H x w) out (xs.mergeSort (PySem.W.dataLe false dataP)) → EP X pins σ Q (.ref (s.heap.objs.size + 1)) { s with heap := sortedAll s.heap its (List.toArray out) } := fun {xs its} h2 h5 hpv out ho eo' => by
    have eo' : PySem.W.EachIs _ out (xs.mergeSort leP) := eo'
    rw [← sortBy_eq h2] at eo'
    obtain ⟨ws', g1, g2⟩ := each_from eo'
    obtain ⟨c, hd'⟩ := sortedAll_at s.heap its out.toArray
    have hn := I.hok.fresh (Nat.le_succ s.heap.objs.size)
    have hlen := g2.length
    subst hpv
    exact ⟨.ref (s.heap.objs.size + 1), upd H (s.heap.objs.size + 1) (.lst ws'), I.laid (t' := s.toks) (fun b o e => sortedAll_old e) (Nat.le_succ _) (show ObjOk X.prog X.w _ _ _ (.lst ws') from ⟨by omega, out, c, g2, hd'⟩), rfl, q _ _ (keep_new hn) (Rep.lstNew om hn g1) fun _ => FreshR.lst hn⟩
  cases x <;> simp only [opSem, opSorted] at sem <;> first | (cases sem; done) | skip
  · rename_i xs
    split at sem
    · rename_i hc
      obtain ⟨h1, h2, h3, h5, h4⟩ := sortable_inv hc
      obtain ⟨l, ws, rfl, qt, rs⟩ := r
      obtain ⟨u, rfl, ru⟩ := vals1 rx
      cases ru
      obtain ⟨its, rv, pl, hz⟩ := I.tuple (hK ▸ qt)
      obtain ⟨e1, e2⟩ := each_to I hK h1 rs rv
      exact sorted_tup (enc := dataP) (show s.heap.IsTuple l its.toArray from pl) e1 e2 (by rw [← dataPs_map]; exact (alikeAll_of h2).1) h4 (by omega) (deep h3) (fin h2 h5 (Option.some.inj sem).symm)
    · cases sem
  · rename_i xs
    split at sem
    · rename_i hc
      obtain ⟨h1, h2, h3, h5, h4⟩ := sortable_inv hc
      obtain ⟨l, ws, rfl, n, hH, rs⟩ := r
      obtain ⟨u, rfl, ru⟩ := vals1 rx
      cases ru
      obtain ⟨z, its, c0, rv, hl, eo⟩ := I.lstM hH
      obtain ⟨e1, e2⟩ := each_to I hK h1 rs rv
      exact PySem.W.sorted_data (enc := dataP) ⟨_, eo, rfl, _, rfl⟩ e1 e2 (by rw [← dataPs_map]; exact (alikeAll_of h2).1) h4 (by omega) (deep h3) (fin h2 h5 (Option.some.inj sem).symm)
    · cases sem
end
end Sl

/-! Ev29: min(a, b), max(a, b). -/
namespace Sl
open PySem PySem.Spec PyProof.Rows L2
section
variable {G : Gx} {X : Cx}
theorem two_ints {f : List PV → Option PV} {g : Int → Int → Int} (hf : ∀ xs pv, f xs = some pv → ∃ a b, xs = [.int a, .int b] ∧ pv = .int (g a b)) {o : Op} (ho : opSem o = f) (hfr : freshOp o = false) {vs : List V} {H : Hp} {Q : VK} (h : rP G o vs H Q) : ∃ a b, vs = [.int a, .int b] ∧ Q (.int (g a b)) H := by
  obtain ⟨Om, pvs, pv, om, rp, sem, q⟩ := h
  rw [ho] at sem
  obtain ⟨a, b, rfl, rfl⟩ := hf _ _ sem
  obtain ⟨v, t, rfl, r1, r⟩ := rp
  obtain ⟨w, rfl, r2⟩ := r.one
  have r1 : v = .int a := r1
  have r2 : w = .int b := r2
  subst r1 r2
  refine ⟨a, b, rfl, q _ _ (Keep.refl H) rfl fun z => by rw [hfr] at z; cases z⟩
theorem int_pair {f : List PV → Option PV} {g : Int → Int → Int} (h2 : ∀ a b, f [.int a, .int b] = some (.int (g a b))) (h0 : ∀ xs pv, f xs = some pv → ∃ a b, xs = [.int a, .int b]) : ∀ xs pv, f xs = some pv → ∃ a b, xs = [.int a, .int b] ∧ pv = .int (g a b) := fun xs pv h => by
  obtain ⟨a, b, rfl⟩ := h0 xs pv h
  rw [h2] at h
  cases h
  exact ⟨a, b, rfl, rfl⟩
theorem cr_max2 (hc : X.calm = true) : CallR X (.builtin "max") (rP G .max2) := by
  intro pins s σ H vs us Q I rx h
  obtain ⟨a, b, e, q⟩ := two_ints (g := fun a b => if b > a then b else a) (int_pair (fun a b => by
    show some (PV.int (if iLt a b then b else a)) = _
    rw [iLt_eq]
    by_cases h : a < b
    · simp [h]
    · simp [h]) fun xs pv h => by
      simp only [opSem] at h
      unfold opMax2 at h
      split at h
      · exact ⟨_, _, rfl⟩
      · cases h) rfl rfl h
  exact call_max2 hc pins s σ H _ us Q I rx ⟨a, b, e, q⟩
theorem cr_min2 (hc : X.calm = true) : CallR X (.builtin "min") (rP G .min2) := by
  intro pins s σ H vs us Q I rx h
  obtain ⟨a, b, e, q⟩ := two_ints (g := fun a b => if b < a then b else a) (int_pair (fun a b => by
    show some (PV.int (if iLt b a then b else a)) = _
    rw [iLt_eq]
    by_cases h : b < a
    · simp [h]
    · simp [h]) fun xs pv h => by
      simp only [opSem] at h
      unfold opMin2 at h
      split at h
      · exact ⟨_, _, rfl⟩
      · cases h) rfl rfl h
  exact call_min2 hc pins s σ H _ us Q I rx ⟨a, b, e, q⟩
end
end Sl

/-! Ev30: assignments to tuples of names; small words for the printed walks. -/
namespace Sl
open PySem PySem.Spec PyProof.Rows L2
mutual
/-- a target of plain names, as a for has it -/
def gOf : T → Option Sl.G
  | .name i => some (.name i)
  | .new _ => none
  | .sub _ _ => none
  | .tup ts => (gsOf ts).map .tup
def gsOf : Ts → Option Gs
  | .nil => some .nil
  | .cons t r => match gOf t with
    | some g => (gsOf r).map (.cons g)
    | none => none
end
mutual
theorem asg_bind {F : Fn} : ∀ {t : T} {g : Sl.G}, gOf t = some g → ∀ (v : PV) (env : Env), asgT F t v env = match bindG g v env with
    | some e => .ok () e
    | none => .stk
  | .name i, g, h, v, env => by
    cases h
    rfl
  | .new _, _, h, _, _ => by cases h
  | .sub _ _, _, h, _, _ => by cases h
  | .tup ts, g, h, v, env => by
    simp only [gOf, Option.map_eq_some_iff] at h
    obtain ⟨gs, e, rfl⟩ := h
    cases v <;> first | rfl | skip
    simp only [asgT, bindG]
    exact asgs_bind e _ env
theorem asgs_bind {F : Fn} : ∀ {ts : Ts} {gs : Gs}, gsOf ts = some gs → ∀ (vs : List PV) (env : Env), asgTs F ts vs env = match bindGs gs vs env with
    | some e => .ok () e
    | none => .stk
  | .nil, gs, h, vs, env => by
    cases h
    cases vs <;> rfl
  | .cons t r, gs, h, vs, env => by
    simp only [gsOf] at h
    cases e : gOf t with
    | none => rw [e] at h; cases h
    | some g =>
      rw [e] at h
      simp only [Option.map_eq_some_iff] at h
      obtain ⟨gr, e2, rfl⟩ := h
      cases vs with
      | nil => rfl
      | cons v vs =>
        simp only [asgTs, bindGs]
        rw [asg_bind e]
        cases bindG g v env with
        | none => rfl
        | some env1 =>
          simp only [R.bind]
          exact asgs_bind e2 vs env1
end
section
variable {G : Gx} {F : Fn} {wn : Nat} {hot : List Nat} {B : Bs} {W : WX} {X : Cx} {a b c tg : Expr} {ia ib ic : E} {pos : Pos}
theorem tS_tgt {t : T} {g : Sl.G} {e : E} {D : Ends} {σ : L2.St} {H : Hp} (hg : gOf t = some g) (hp : disj (peeks e) hot = true) (h : tS G F wn hot B W (.asg t e) D σ H) : tAsg (tE G F hot B W e) (tG G hot B g) D σ H := by
  obtain ⟨Om, env, re, h⟩ := h
  simp only [ex] at h
  refine tS_bind re h fun x env' v H' re' k r fr h => ?_
  rw [asg_bind hg] at h
  refine ⟨Om, env', x, re', r.of_cold hp, ?_⟩
  cases q : bindG g x env' with
  | none => rw [q] at h; exact h.elim
  | some env2 =>
    rw [q] at h
    exact fun σ' re2 _ => h Om σ' H' re2 Ext.refl
/-- (x, .., (y, ..)) = e -/
theorem pS_tgt {t : T} {g : Sl.G} (ha : PE X a (tE G F hot B W ia)) (ht : PG X tg (tG G hot B g)) (hg : gOf t = some g := by rfl) (hp : disj (peeks ia) hot = true := by rfl) (hs : swapsWithSole [tg] a pos.line X.env = pure false := by rfl) (hw : swappedStores [tg] a X.env = pure none := by rfl)
    (h1 : (assignEach [tg] X.env).map (·.2) = [assign tg X.env] := by rfl) : PS X (.Assign [tg] a pos) (tS G F wn hot B W (.asg t ia)) := PS.imp (ps_asg ha ht hs hw h1) fun _ _ _ h => tS_tgt hg hp h
theorem Sx.u70 (sx : Sx X G W) : X.A.units + 70 < cLine := by have := sx.un; omega
theorem Sx.tr (sx : Sx X G W) {pn : List (Addr × Obj)} {xe : Value → Shared → Prop} {W' : WX} (tk : Takes (X.tr pn xe) W') : Sx (X.tr pn xe) G W' := ⟨sx.K, sx.w, sx.un, sx.nd, tk⟩
theorem Sx.su (sx : Sx X G W) {e : Addr} {pn : List (Addr × Obj)} : Sx (X.suite e pn) G WF := ⟨sx.K, sx.w, sx.un, sx.nd, takes0⟩
end
/-- what is known of an own exception's class -/
structure Ec (K : PySem.W.Frag) (mg : Str → Option Value) (x : Str) (C : Addr) : Prop where
  g : mg x = some (.ref C)
  k : PySem.W.keepIn K (.ref C) = true
  b : PySem.W.subIn K (.ref C) (.type "BaseException") = some true
  t : PySem.W.typeIn K (.ref C) = some (.type "type")
theorem mk_zero {X : Cx} {x : Str} {C : Addr} {bmB : List Value} {Bn newId initId : String} {p pos : Pos} (e : Ec X.K X.mg x C) (Fx : ExcBaseFacts Bn newId initId bmB) (q : PySem.W.excIn X.K C bmB newId = true) (hg : Gl X x) (hdb : (x == ("__debug__" : Str)) = false := by decide) :
    PMk X (.Call (.Name x p) [] [] pos) (fun _ H Q => Q (.ref C) none H) := pmk_zero Fx q e.g e.k (raises_own e.b e.t) hg hdb
theorem Fun.ofD {K : PySem.W.Frag} {x qual : Str} {st : Stmt} {f : Addr} {fd : FuncData} (F : FunD K x qual (defArgs st) (defBody st) (defScope st) [] [] f fd) : L2.Fun K x qual st f fd := by
  obtain ⟨⟨oc, od, dV, kV, doc, pm, an, cdv, ct, osl, e, l, c, d, _⟩, kp⟩ := F
  have ed : dV = .none := by
    rcases d with ⟨_, h⟩ | ⟨h, _⟩
    · exact h
    · exact absurd rfl h
  subst ed
  exact ⟨⟨oc, od, kV, doc, pm, an, cdv, ct, osl, e, l, c⟩, kp⟩
/-- a def of the text, as the head tells it -/
structure Df1 (K : PySem.W.Frag) (mg : Str → Option Value) (x : Str) (st : Stmt) (ps : List Str) : Prop where
  fd : ∃ fd, L2.Fun K x x st (He.ga K x) fd ∧ Binds K fd ps []
  mg : mg x = some (.ref (He.ga K x))
theorem kn_of {P : Program} {w : World} {K : PySem.W.Frag} {mg : Str → Option Value} {base : Heap} {G : Gx} {F : Fn} {n g : Nat} {io : Option Nat} {x : Str} {st : Stmt} {ps : List Str} (D : Df1 K mg x st ps) (hfa : G.fa g = He.ga K x)
    (ok : ∀ {fd : FuncData}, L2.Fun K x x st (He.ga K x) fd → FnOk P w K mg base (L2.CX P w) n (He.ga K x) fd ps (spF G F g io)) : Kn P w K mg base G F n g io x st ps := by
  obtain ⟨fd, h1, h2⟩ := D.fd
  exact ⟨He.ga K x, fd, ok h1, D.mg, h1.kp, h2, hfa, h1⟩
theorem ok_none {P : Program} {w : World} {K : PySem.W.Frag} {mg : Str → Option Value} {base : Heap} {G : Gx} {T : Nat → Option Df} {wn n g : Nat} {io : Option Nat} {f : Addr} {fd : FuncData} {ps : List Str} : FnOk P w K mg base (L2.CX P w) n f fd ps (spF G (runF T wn 0) g io) :=
  ⟨fun vs H Q E ⟨_, _, _, _, h⟩ => h.elim, fun A outer s H args us vs Q E _ _ _ _ ⟨_, _, _, _, h⟩ => h.elim⟩
theorem hf_add : ∀ x y z : Int, opSem .add [.int x, .int y] = some (.int z) → z = x + y := fun x y z h => by
  simp only [opSem, opAdd, Option.some.injEq, PV.int.injEq] at h
  exact h.symm
theorem hf_sub : ∀ x y z : Int, opSem .sub [.int x, .int y] = some (.int z) → z = x - y := fun x y z h => by
  simp only [opSem, Option.some.injEq, PV.int.injEq] at h
  exact h.symm
theorem boot_len' : bootBuiltins "len" = some (.builtin "len") := by decide +kernel
theorem boot_sum' : bootBuiltins "sum" = some (.builtin "sum") := by decide +kernel
theorem boot_all' : bootBuiltins "all" = some (.builtin "all") := by decide +kernel
theorem boot_any' : bootBuiltins "any" = some (.builtin "any") := by decide +kernel
theorem boot_abs' : bootBuiltins "abs" = some (.builtin "abs") := by decide +kernel
theorem boot_min' : bootBuiltins "min" = some (.builtin "min") := by decide +kernel
theorem boot_max' : bootBuiltins "max" = some (.builtin "max") := by decide +kernel
theorem boot_sorted' : bootBuiltins "sorted" = some (.builtin "sorted") := by decide +kernel
theorem boot_int' : bootBuiltins "int" = some (.type "int") := by decide +kernel
theorem boot_bool' : bootBuiltins "bool" = some (.type "bool") := by decide +kernel
theorem boot_str' : bootBuiltins "str" = some (.type "str") := by decide +kernel
theorem boot_tuple' : bootBuiltins "tuple" = some (.type "tuple") := by decide +kernel
theorem boot_list' : bootBuiltins "list" = some (.type "list") := by decide +kernel
theorem boot_dict' : bootBuiltins "dict" = some (.type "dict") := by decide +kernel
theorem boot_set' : bootBuiltins "set" = some (.type "set") := by decide +kernel
theorem boot_ValueError' : bootBuiltins "ValueError" = some (.type "ValueError") := by decide +kernel
theorem boot_LookupError' : bootBuiltins "LookupError" = some (.type "LookupError") := by decide +kernel
end Sl

/-! Ev31: own exceptions whose __init__ says super().__init__(x) and keeps x. -/
namespace Sl
open PySem PySem.W PySem.Calls PyProof.Rows
/-- the text of such an __init__ -/
def suA (f : Str) (p1 p2 : Pos) : Arguments := { posonlyargs := [], args := [{ arg := "self", annotation := none, pos := p1 }, { arg := f, annotation := none, pos := p2 }], vararg := none, kwonlyargs := [], kw_defaults := [], kwarg := none, defaults := [] }
def suB (f : Str) (q1 q2 q3 q4 q5 q6 q7 q8 q9 q10 : Pos) : List Stmt := [.Expr (.Call (.Attribute (.Call (.Name "super" q1) [] [] q2) "__init__" q3) [.Name f q4] [] q5) q6, .Assign [.Attribute (.Name "self" q7) f q8] (.Name f q9) q10]
def suS (f : Str) : Scope := { kind := .function, names := [(PySem.Str.ofString "self", .local), (f, .local), (PySem.Str.ofString "__class__", .free), (PySem.Str.ofString "super", .globalImplicit)], isGenerator := false, isCoroutine := false, more := [] }
/-- super().__init__(x) is evaluated as a method's call -/
def SuEv (fd : FuncData) (f : Str) (q1 q2 q3 q4 q5 : Pos) : Prop := ∀ L a : Addr, ∃ pl : Sem Bool, eval (.Call (.Attribute (.Call (.Name "super" q1) [] [] q2) "__init__" q3) [.Name f q4] [] q5) (callEnv fd L a) = (do
      let ov ← attributeBase (.Call (.Name "super" q1) [] [] q2) "__init__" (callEnv fd L a) (eval (.Call (.Name "super" q1) [] [] q2) (callEnv fd L a))
      standAt q3.atName
      let (m, first) ← holding [ov] (getMethod ov "__init__" pl)
      callWith q5 m first (backTo q5 (starEach [.Name f q4] (callEnv fd L a))) [])
/-- what the written part says of such a class -/
structure SupC (P : Program) (K : Frag) (mg : Str → Option Value) (C : Addr) (f : Str) : Prop where
  base : ∃ (B newId initId : String) (bmB : List Value), ExcBaseFacts B newId initId bmB ∧ KxsFacts B initId ∧ StoreFacts B bmB "object.__setattr__" "object" ∧ excInitIn K C bmB newId = true ∧ excOver K C bmB = true ∧ subIn K (.ref C) (.type B) = some true ∧ ks_superIn K C C "__init__" = some (some (.builtin initId))
  sa : findIn K (.ref C) "__setattr__" = some (some (.builtin "object.__setattr__"))
  tk : takerIn K C f = some none
  hd : hasDictIn K C = true
  self : mroIn K C (.ref C) = some true
  opq : nsIn K cStatics "thirdparty.any" = some none
  sup : mg "super" = none
  top : (P.main.scope.names.lookup ("super" : Str)).isSome = false
  nf : (("self" : Str) == f) = false
  fd : (f == ("__debug__" : Str)) = false
  ks : (suS f).names.lookup ("super" : Str) = some .globalImplicit
  kc : (suS f).names.lookup ("__class__" : Str) = some .free
  bd : ∀ (qual : Str) (body : List Stmt) (cc : Addr) (doc pm cdv ct : Value) (an : Option Addr) (p1 p2 : Pos) (a b : Value), bindArgs (fnX "__init__" qual (suA f p1 p2) body (suS f) [("__class__", cc)] .none .none doc pm an cdv ct) ⟨[a, b], []⟩ = pure [((PySem.Str.ofString "self" : Str), a), (f, b)]
  fn : ∃ (fI cc cda : Addr) (oc ccl cl doc pm ct : Value) (od cdd cld an : Option Addr) (osl ccs csl : Array (Option Value)) (vs : Array Value) (file qual : Str) (tf : Tok) (p1 p2 q1 q2 q3 q4 q5 q6 q7 q8 q9 q10 : Pos),
    findIn K (.ref C) "__init__" = some (some (.ref fI)) ∧ isFn K (.ref fI) = true ∧
    K.lookup fI = some ⟨oc, od, .func (fnX "__init__" qual (suA f p1 p2) (suB f q1 q2 q3 q4 q5 q6 q7 q8 q9 q10) (suS f) [("__class__", cc)] .none .none doc pm an (.ref cda) ct), osl⟩ ∧ codeIn K (.ref cda) qual = true ∧
    K.lookup cda = some ⟨ccl, cdd, .fields vs, ccs⟩ ∧ vs[2]? = some (.str file tf) ∧ ((P.main.file : Str) == file) = true ∧ K.lookup cc = some ⟨cl, cld, .cell (some (.ref C)), csl⟩ ∧ SuEv (fnX "__init__" qual (suA f p1 p2) (suB f q1 q2 q3 q4 q5 q6 q7 q8 q9 q10) (suS f) [("__class__", cc)] .none .none doc pm an (.ref cda) ct) f q1 q2 q3 q4 q5
/-- what __init__ leaves of a fresh exception at x -/
structure SupEnd (h h' : Heap) (x C dx t1 : Addr) (f : Str) (v : Value) : Prop where
  keep : ∀ b o, b ≠ x → h.get? b = some o → h'.get? b = some o
  obj : h'.get? x = some { cls := .ref C, dict := some dx, data := .fields #[.ref t1, .none, .none, .none, .bool false, .none] }
  dbig : h.objs.size ≤ dx
  dne : dx ≠ x
  ns : h'.Ns1 dx (fun y => if y = f then some v else none)
section
variable {prog : Program} {w : World} {A : Around} {E : Value → Shared → Prop} {R : Result → Shared → Prop} {s : Shared} {K : Frag} {mg mb : Str → Option Value} {C : Addr} {f : Str}
theorem su_ld {M : Model} {env : PySem.Env} {m : Str → Option Value} {x : Str} {pos : Pos} {v : Value} {Q : Value → Shared → Prop} {A : Around} {E : Value → Shared → Prop} (hn : s.heap.Ns env.locals m) (hv : m x = some v) (h : Q v s)
    (hk : env.scope.kind = .function) (hl : env.kindOf x = some .local) (hd : (x == ("__debug__" : Str)) = false) : wpAny M A (eval (.Name x pos) env) Q E s := wpAny_Name (wpAny_loadName_local hk hl hn hv h) hd
/-- the wrapper's call: the args are laid anew -/
theorem su_wrap {h : Heap} {g : Array GenState} {d : Drawn} {t : Nat} {os : OsState} {u e t0 : Addr} {rest : List Value} {B newId initId : String} {bmB : List Value} {nm q : Str} {N : Addr} {bs bm : List Value} {hdct : Bool} {sn : List Str} {sub : List Value} {ab : Bool} {col : Option Bool} {dd : Option Addr} {k0 k1 k2 k3 k5 : Option Value} {Q : Value → Shared → Prop}
    (FB : ExcBaseFacts B newId initId bmB) (hC : h.get? C = some (excClassObj nm q C N bs bm hdct sn sub ab col dd k0 k1 k2 k3 k5 newId)) (he : h.get? e = some (excObj C t0 none .none)) (hu : h.get? u = some (kxs_mw initId e)) (hz : rest.length ≤ sizeLine)
    (hq : ∀ h' t1, (∀ b o, b ≠ e → h.get? b = some o → h'.get? b = some o) → h'.get? e = some (excObj C t1 none .none) → Q .none ⟨h', g, d, t, os⟩) :
    wpAny (model prog w) A (call (.ref u) rest) Q E ⟨h, g, d, t, os⟩ := by
  refine wpAny_call (codeAny_of_tree ?_)
  show wpAny _ A.in1 (callAny (.ref u) ⟨rest, []⟩) _ _ _
  simp only [callAny]
  refine wpAny_bind (wpAny_load hu ?_)
  simp only [kxs_mw, show (Value.type "method-wrapper" == Value.type "method" || Value.type "method-wrapper" == Value.type "builtin_function_or_method" || Value.type "method-wrapper" == Value.type "method-wrapper") = true by decide, if_true]
  refine KFB.if_so (by decide) ?_
  refine wpAny_bind (check_bound_init FB.toExcCallFacts hC he rfl ?_)
  refine wpAny_bind (wpAny_pure (wpAny_pure ?_))
  refine ⟨plainId_quiet FB.init.plain _, codeAny_builtin FB.initEntry ?_⟩
  exact exc_init_tree (cls := .ref C) (t0 := t0) (dv := none) (c2 := .none) (c3 := .none) (b4 := .bool false) he hz fun h' k e' _ => hq h' _ k e'
theorem su_set {hp : Heap} {g : Array GenState} {d : Drawn} {t : Nat} {os : OsState} {x t0 : Addr} {v : Value} {tk : Tok} {B : String} {bmB : List Value} (X : K.In hp) (SF : StoreFacts B bmB "object.__setattr__" "object") (hov : excOver K C bmB = true) (htk : takerIn K C f = some none) (hh : hasDictIn K C = true)
    (hx : hp.get? x = some (excObj C t0 none .none)) (hq : ∀ h' tk' dx, SupEnd hp h' x C dx t0 f v → R (.ok (.ret .none)) ⟨h', g, d, tk', os⟩) :
    codeAny (model prog w) A (.call (.builtin "object.__setattr__") ⟨[.ref x, .str f tk, v], []⟩) R ⟨hp, g, d, t, os⟩ := by
  refine osa_openX (od := none) SF X ⟨hx, rfl, rfl, trivial⟩ hov htk fun b => ?_
  obtain ⟨cd, hc, hd'⟩ := any_some hh
  have hxs : x ≠ hp.objs.size := Nat.ne_of_lt (Heap.lt_size hx)
  refine wpAny_bind (wpAny_pure (wpAny_bind (instanceDict_exc (s := ⟨hp, g, d, t, os⟩) hx (looks_clsIn X hc) hd' ?_)))
  show wpAny _ _ (Builtin.ObjectAttr.storeInDict hp.objs.size (.str f tk) f v) _ _ _
  have hx₁ : (hp.push (dictOf [] 0)).get? x = some (excObj C t0 none .none) := Heap.get?_push_of_some _ hx
  refine HandSPX.store_in_new ⟨_, #[], _, (Heap.get?_update_ne _ _ _ _ hxs.symm).trans (Heap.get?_push_at rfl rfl), rfl, fun e he => absurd he (by simp), fun _ => rfl⟩ fun h' tk' hn' hs => ?_
  refine hq h' tk' hp.objs.size ⟨fun b o hb ho => (hs.2 b (Nat.ne_of_lt (Heap.lt_size ho))).trans ((Heap.get?_update_ne _ _ _ _ hb).trans (Heap.get?_push_of_some _ ho)), (hs.2 x hxs).trans (Heap.get?_update_self _ hx₁ rfl), Nat.le_refl _, hxs.symm, hn'⟩
theorem su_init (T : SupC prog K mg C f) {fI x t0 : Addr} {v : Value} (hf : findIn K (.ref C) "__init__" = some (some (.ref fI))) (X : K.In s.heap) (Gm : s.heap.Ns mainGlobals mg) (Bm : s.heap.Ns builtinsNs mb) (hmb : mb "super" = some (.type "super")) (hlim : s.heap.NoLimit)
    (hx : s.heap.get? x = some (excObj C t0 none .none)) (hnx : K.lookup x = none) (hroom : A.depth < recursionLimit) (hq : ∀ h' tk dx t1, SupEnd s.heap h' x C dx t1 f v → R (.ok (.ret .none)) { s with heap := h', toks := tk }) :
    codeAny (model prog w) A (.call (.ref fI) ⟨[.ref x, v], []⟩) R s := by
  obtain ⟨fI', cc, cda, oc, ccl, cl, doc, pm, ct, od, cdd, cld, an, osl, ccs, csl, vs, file, qual, tf, p1, p2, q1, q2, q3, q4, q5, q6, q7, q8, q9, q10, hf', hfn, ho, hcd, hco, hvs, hfile, hcell, hev⟩ := T.fn
  obtain ⟨B, newId, initId, bmB, FB, KF, SF, hin, hov, hsB, hsup⟩ := T.base
  rw [hf] at hf'
  cases hf'
  have nf : ¬ f = PySem.Str.ofString "self" := fun z => by
    have := T.nf
    rw [z] at this
    simp at this
  have nf' : (f == PySem.Str.ofString "self") = false := beq_eq_false_iff_ne.mpr nf
  have l1 : (suS f).names.lookup (PySem.Str.ofString "self") = some .local := by simp [suS, List.lookup]
  have l2 : (suS f).names.lookup f = some .local := by simp [suS, List.lookup, nf']
  obtain ⟨nm, N', qn, bs, bm, hdct, sn, sub, ab, col, dd, k0, k1, k2, k3, k5, hC, hT⟩ := excInit_of X hin
  refine ks_codeAny_call_defAt (binds := [("self", .ref x), (f, v)]) hroom (X _ _ ho) rfl hlim (codeRec_of X hcd) rfl (BindsTo.of_eq (T.bd _ _ _ _ _ _ _ _ _ _ _ _)) ?_ ?_ (fun h₁ hn k => ?_) rfl rfl rfl
  · intro y hy
    simp only [suS, List.mem_cons, List.not_mem_nil, or_false] at hy
    rcases hy with rfl | rfl | rfl | rfl <;> simp
  · intro y hy
    simp only [List.mem_cons, List.not_mem_nil, or_false] at hy
    rcases hy with rfl | rfl
    · exact l1
    · exact l2
  · have k : ∀ b o, s.heap.get? b = some o → h₁.get? b = some o := k
    have hxL : s.heap.objs.size ≠ x := Nat.ne_of_gt (Heap.lt_size hx)
    have X₁ : K.In h₁ := X.keeps k
    have hx₁ := k _ _ hx
    have mS : [(PySem.Str.ofString "self", Value.ref x), (f, v)].reverse.lookup (PySem.Str.ofString "self") = some (.ref x) := by simp [List.lookup, T.nf]
    have mF : [(PySem.Str.ofString "self", Value.ref x), (f, v)].reverse.lookup f = some v := by simp [List.lookup]
    obtain ⟨pl, he⟩ := hev s.heap.objs.size fI
    refine ks_wpAt_execs_cons (ks_wpAt_Expr_any (ks_wpAt_MethodCall (pl := pl) ?_ he))
    refine ks_wpAt_super_base (fd := fnX "__init__" qual (suA f p1 p2) (suB f q1 q2 q3 q4 q5 q6 q7 q8 q9 q10) (suS f) [("__class__", cc)] .none .none doc pm an (.ref cda) ct) (f := fI) (cc := cda) T.ks T.kc (by decide) rfl (k _ _ (X _ _ ho)) rfl rfl rfl (k _ _ (X _ _ hco)) rfl hvs hfile T.top ?_
    refine ks_loadName_global rfl T.ks (loadGlobal_builtin (Gm.keeps (fun b o e => k b o e)) T.sup (Bm.keeps (fun b o e => k b o e)) hmb ⟨rfl, ?_⟩)
    refine wpAny_loadName_free rfl T.kc rfl ⟨_, k _ _ (X _ _ hcell), rfl⟩ ?_
    refine wpAny_loadName_local rfl l1 hn mS ?_
    refine ks_wpAny_isType_cls (k _ _ hC) rfl ⟨rfl, ?_⟩
    refine ks_wpAny_call_super (k _ _ hC) rfl hx₁ rfl (fun c e => by cases e) (looks_mroIn X₁ T.self) (fun h₂ e₂ k₂ => ?_)
    have X₂ : K.In h₂ := X₁.keeps k₂
    cases hcls : clsIn K C with
    | none => unfold ks_superIn at hsup; rw [hcls] at hsup; cases hsup
    | some cd =>
      unfold ks_superIn at hsup
      rw [hcls] at hsup
      have I2 : InstAt h₂ x (excObj C t0 none .none) C none := ⟨k₂ _ _ hx₁, rfl, rfl, trivial⟩
      refine kxs_getMethod KF e₂ (looks_opaque X₂ T.opq) (l₀ := cd.mro) (fun A Q E s k q => wpAny_bind ((looks_clsIn X₂ hcls) A _ E s k (wpAny_pure q))) rfl X₂ hsup (I2.type.andThen (looks_subIn X₂ hsB)) (ks_ne X₂ I2 hcls) (by decide) ?_
      have hn₂ := hn.keeps (fun b o e => Heap.get?_push_of_some (kxs_mw initId x) (k₂ b o e))
      refine kxs_callWith (i := initId) (x := x) rfl ?_
      refine evalArgs_plain (spliced_cons ?_)
      refine su_ld hn₂ mF ?_ rfl l2 T.fd
      refine spliced_nil ⟨Heap.get?_push_at rfl rfl, ?_⟩
      refine su_wrap FB (Heap.get?_push_of_some _ (k₂ _ _ (k _ _ hC))) (Heap.get?_push_of_some _ (k₂ _ _ hx₁)) (Heap.get?_push_at rfl rfl) (by rw [sizeLine_eq]; exact (by decide : 1 ≤ 16777216)) fun h₄ t1 k₄ e₄ => ?_
      have k₅ : ∀ b o, b ≠ x → s.heap.get? b = some o → h₄.get? b = some o := fun b o hb e => k₄ b o hb (Heap.get?_push_of_some _ (k₂ _ _ (k _ _ e)))
      have X₄ : K.In h₄ := fun b o e => k₅ b o (fun z => by rw [z, hnx] at e; cases e) (X b o e)
      have hn₄ : h₄.Ns s.heap.objs.size (fun y => [(PySem.Str.ofString "self", Value.ref x), (f, v)].reverse.lookup y) := by
        obtain ⟨oL, es, ep, hL, r⟩ := hn₂
        exact ⟨oL, es, ep, k₄ _ _ hxL hL, r⟩
      refine wpAt_of_wpAny ?_
      show wpAny _ _ (execs _ _) _ _ _
      refine wpAny_execs_cons (plainObj_wpAny_Assign_Attribute ?_)
      refine su_ld hn₄ mF ?_ rfl l2 T.fd
      refine su_ld hn₄ mS ?_ rfl l1 (by decide)
      refine set_plain X₄ (ox := excObj C t1 none .none) (od := none) ⟨e₄, rfl, rfl, trivial⟩ T.sa ?_
      refine su_set X₄ SF hov T.tk T.hd e₄ fun h₆ tk dx M => ?_
      show wpAny _ _ (execs _ _) _ _ _
      refine wpAny_execs_nil (hq h₆ tk dx t1 ⟨fun b o hb e => M.keep b o hb (k₅ b o hb e), M.obj, ?_, M.dne, M.ns⟩)
      obtain ⟨oL, es, ep, hL, _⟩ := hn₄
      exact Nat.le_trans (Nat.le_of_lt (Heap.lt_size hL)) M.dbig
/-- a made exception -/
structure SupMade (h h' : Heap) (e C d : Addr) (f : Str) (v : Value) : Prop where
  keep : ∀ b o, h.get? b = some o → h'.get? b = some o
  new : h.objs.size ≤ e
  obj : ∃ oe vs, h'.get? e = some oe ∧ oe.cls = .ref C ∧ oe.dict = some d ∧ oe.data = .fields vs ∧ vs[1]? = some .none
  dbig : h.objs.size ≤ d
  dne : d ≠ e
  ns : h'.Ns1 d (fun y => if y = f then some v else none)
theorem su_made (T : SupC prog K mg C f) {v : Value} (X : K.In s.heap) (Gm : s.heap.Ns mainGlobals mg) (Bm : s.heap.Ns builtinsNs mb) (hmb : mb "super" = some (.type "super")) (hlim : s.heap.NoLimit) (hroom : A.depth + 1 < recursionLimit)
    (hq : ∀ h' tk e d, SupMade s.heap h' e C d f v → R (.ok (.ret (.ref e))) { s with heap := h', toks := tk }) :
    codeAny (model prog w) A (.call (.ref C) ⟨[v], []⟩) R s := by
  obtain ⟨B, newId, initId, bmB, FB, KF, SF, hin, hov, hsB, hsup⟩ := id T.base
  obtain ⟨fI, cc, cda, oc, ccl, cl, doc, pm, ct, od, cdd, cld, an, osl, ccs, csl, vs, file, qual, tf, p1, p2, q1, q2, q3, q4, q5, q6, q7, q8, q9, q10, hf, hfn, ho, _⟩ := id T.fn
  obtain ⟨nm, N', qn, bs, bm, hdct, sn, sub, ab, col, dd, k0, k1, k2, k3, k5, hC, hT⟩ := excInit_of X hin
  obtain ⟨oI, hoI, hcI⟩ : ∃ oI, s.heap.get? fI = some oI ∧ oI.cls = .type "function" := by
    obtain ⟨o, ho, hc⟩ := Option.map_eq_some_iff.mp (show (K.lookup fI).map (·.cls) = some (.type "function") from beq_iff_eq.mp hfn)
    exact ⟨o, X _ _ ho, hc⟩
  obtain ⟨hp, g, dr, tk, os⟩ := s
  have k : ∀ b o, hp.get? b = some o → ((hp.push (kdv_tup [v])).push (HandSPX.excO C hp.objs.size)).get? b = some o := fun b o e => Heap.get?_push_of_some _ (Heap.get?_push_of_some _ e)
  have hz : (hp.push (kdv_tup [v])).objs.size = hp.objs.size + 1 := Heap.size_push ..
  have hget : ((hp.push (kdv_tup [v])).push (HandSPX.excO C hp.objs.size)).get? (hp.objs.size + 1) = some (HandSPX.excO C hp.objs.size) := Heap.get?_push_at hz.symm rfl
  have hnx : K.lookup (hp.objs.size + 1) = none := by
    cases e : K.lookup (hp.objs.size + 1) with
    | none => rfl
    | some o =>
      have z : hp.get? (hp.objs.size + 1) = some o := X _ _ e
      exact absurd (Nat.lt_of_succ_lt (Heap.lt_size z)) (Nat.lt_irrefl _)
  refine HandSPX.call_own FB hT hC (looks_findIn X hf) (fun self => exc_bind hoI hcI self) (by rw [sizeLine_eq]; exact (by decide : 1 ≤ 16777216)) ?_
  refine su_init (s := ⟨(hp.push (kdv_tup [v])).push (HandSPX.excO C hp.objs.size), g, dr, tk, os⟩) (t0 := hp.objs.size) T hf (X.keeps k) (Gm.keeps k) (Bm.keeps k) hmb (hlim.keeps k) hget hnx ?_ fun h' tk' dx t1 M => ?_
  · show A.depth + 1 < recursionLimit
    exact hroom
  · have old : ∀ b o, hp.get? b = some o → h'.get? b = some o := fun b o e => M.keep b o (Nat.ne_of_lt (Nat.lt_succ_of_lt (Heap.lt_size e))) (k b o e)
    have z : hp.objs.size + 1 + 1 ≤ dx := by
      have q := M.dbig
      have q2 : ((hp.push (kdv_tup [v])).push (HandSPX.excO C hp.objs.size)).objs.size = hp.objs.size + 1 + 1 := by rw [Heap.size_push, hz]
      rw [← q2]
      exact q
    exact ⟨rfl, hq h' tk' (hp.objs.size + 1) dx ⟨old, Nat.le_succ _, ⟨_, _, M.obj, rfl, rfl, rfl, rfl⟩, Nat.le_trans (Nat.le_trans (Nat.le_succ _) (Nat.le_succ _)) z, M.dne, M.ns⟩⟩
end
end Sl
namespace Sl
open PySem PySem.Spec PyProof.Rows L2
theorem relO_sup {f : Str} {v : V} {v' : Value} (r : RelV v v') (g : Str) : RelO (List.lookup g [(f, v)]) (if g = f then some v' else none) := by
  by_cases hw : g = f
  · subst hw
    rw [if_pos rfl, show List.lookup g [(g, v)] = some v by simp [List.lookup]]
    exact r
  · rw [if_neg hw, show List.lookup g [(f, v)] = none by
      have qw : (g == f) = false := by simpa using hw
      simp [List.lookup, qw]]
    trivial
theorem pmk_sup {X : Cx} {a : Expr} {ta : TA} {x f : Str} {C : Addr} {p pos : Pos} {k : Nat} (e : Ec X.K X.mg x C) (T : SupC X.prog X.K X.mg C f) (hr : Room k X.A) (ha : PA X [a] ta) (hg : Gl X x) (hdb : (x == ("__debug__" : Str)) = false := by decide)
    (he : starEach (a :: []) X.env = (false, eval a X.env) :: starEach [] X.env := by rfl) (hpl : (backTo pos (starEach [] X.env)).any (·.1) = false := by rfl) : PMk X (.Call (.Name x p) [a] [] pos) (tMk1 C f ta) := by
  intro pins s σ H Q I h
  refine wpAny_Call_Name_kw (ld_glob I hg e.g ?_ hdb)
  refine PySem.W.callWith_K (h₀ := X.base) I.ok.mod.kin e.k (thn (ha.run pos pins s σ H _ I h) fun us s1 hh => ?_) he hpl
  obtain ⟨vs, H1, I1, r1, v, ev, q1⟩ := hh
  subst ev
  refine ⟨I1.kIn, ?_⟩
  obtain ⟨v', rfl, rv⟩ := vals1 r1
  show wpAny _ _ (call (.ref C) [v']) _ _ _
  obtain ⟨mb, b1, b2⟩ := I1.mod.blt
  have Gm : s1.heap.Ns mainGlobals X.mg := I1.mod.glob.keeps I1.bk
  have Bm : s1.heap.Ns builtinsNs mb := b1.keeps I1.bk
  have hmb : mb "super" = some (.type "super") := (b2 "super" (by decide)).trans (by decide +kernel)
  have hlim := I1.nolimit
  have hkin := I1.kIn
  obtain ⟨hp, g, dr, tk, os⟩ := s1
  refine wpAny_call (su_made T hkin Gm Bm hmb hlim (by have := hr.dp; omega) fun h' tk' e' d M => ?_)
  show MkP X pins σ Q (.ref e') ⟨h', g, dr, tk', os⟩
  obtain ⟨oe, fv, hoe, hc, hd, hdat, h1⟩ := M.obj
  obtain ⟨G', g1, g2⟩ := restrict h' fun b => decide (b ≠ e')
  have gk : ∀ b, b ≠ e' → G'.get? b = h'.get? b := fun b hb => g1 b (decide_eq_true hb)
  have ge : G'.get? e' = none := g2 e' (by simp)
  have old : ∀ b o, hp.get? b = some o → G'.get? b = some o := fun b o q => (gk b (Nat.ne_of_lt (Nat.lt_of_lt_of_le (Heap.lt_size q) M.new))).trans (M.keep b o q)
  have ob : ObjOk X.prog X.w (upd H1 d (.xd [(f, v)])) G' d (.xd [(f, v)]) := ⟨_, M.ns.at (fun o q => (gk d M.dne).trans q), fun g => relO_sup rv g⟩
  have J : L2.Inv X pins σ (upd H1 d (.xd [(f, v)])) ⟨G', g, dr, tk', os⟩ := I1.laid (t' := tk') old M.dbig ob
  refine ⟨e', oe, fv, ⟨G', g, dr, tk', os⟩, _, .ref C, some d, rfl, J, fun b o q => ?_, ge, hoe, ⟨hc, hd⟩, hdat, h1, ?_, rfl, I1.bare, raises_own e.b e.t, q1 d (I1.hok.fresh M.dbig)⟩
  · by_cases hb : b = e'
    · have q' : G'.get? b = some o := q
      rw [hb, ge] at q'; cases q'
    · exact (gk b hb).symm.trans q
  · rw [upd_ne (Ne.symm M.dne)]
    exact I1.hok.fresh M.new
end Sl

/-! Ev32: t[::-1]. -/
namespace Sl
open PySem PySem.W PySem.Spec PyProof.Rows L2
section
variable {prog : Program} {w : World} {A : Around} {E : Value → Shared → Prop} {s : Shared}
theorem rev_adjust (n : Nat) : Builtin.Slice.sliceAdjust none none (-1) (n : Int) = ((n : Int) - 1, -1) := by
  unfold Builtin.Slice.sliceAdjust
  simp
theorem rev_places (n : Nat) : Builtin.Slice.slicePlaces ((n : Int) - 1) (-1) (-1) = n := by
  unfold Builtin.Slice.slicePlaces
  have h1 : ¬ ((-1 : Int) > 0) := by omega
  rw [if_neg h1]
  by_cases h : (n : Int) - 1 > -1
  · rw [if_pos h]
    simp only [Int.neg_neg, Int.ediv_one]
    omega
  · rw [if_neg h]
    omega
theorem rev_pick (xs : Array Value) : ((List.range xs.size).filterMap fun (k : Nat) => xs[((xs.size : Int) - 1 + (k : Int) * -1).toNat]?).toArray = xs.toList.reverse.toArray := by
  have e : ∀ k ∈ List.range xs.size, xs[((xs.size : Int) - 1 + (k : Int) * -1).toNat]? = xs[xs.size - 1 - k]? := fun k hk => by
    have := List.mem_range.mp hk
    rw [show ((xs.size : Int) - 1 + (k : Int) * -1).toNat = xs.size - 1 - k by omega]
  have e2 : (List.range xs.size).filterMap (fun (k : Nat) => xs[((xs.size : Int) - 1 + (k : Int) * -1).toNat]?) = ((List.range xs.size).map fun k => xs.size - 1 - k).filterMap (xs[·]?) := by
    rw [List.filterMap_map]
    have key : ∀ l : List Nat, (∀ k ∈ l, k ∈ List.range xs.size) → l.filterMap (fun (k : Nat) => xs[((xs.size : Int) - 1 + (k : Int) * -1).toNat]?) = l.filterMap ((xs[·]?) ∘ fun k => xs.size - 1 - k) := fun l => by
      induction l with
      | nil => exact fun _ => rfl
      | cons k l ih =>
        intro hl
        simp only [List.filterMap_cons, Function.comp]
        rw [e k (hl k List.mem_cons_self), ih fun j hj => hl j (List.mem_cons_of_mem _ hj)]
    exact key _ fun _ z => z
  rw [e2, krv_range, List.filterMap_reverse, krv_all]
theorem rev_tup {t sl : Addr} {items : Array Value} {vs : Value} {Q : Value → Shared → Prop} (ht : IsTup s.heap t items) (hs : s.heap.IsSliceOf sl .none .none vs) (ps : IsPart vs (some (-1)))
    (h : Q (.ref s.heap.objs.size) { s with heap := s.heap.push { cls := .type "tuple", data := .seq items.toList.reverse.toArray } }) (hsz : items.size ≤ sizeLine) : wpAny (model prog w) A (getItem (.ref t) (.ref sl)) Q E s := by
  obtain ⟨os, hos, hcs, hds⟩ := id hs
  have hTs : s.TypeIs (.ref sl) "slice" := ⟨os, hos, hcs⟩
  have fit : sizeOk (.seq items.toList.reverse.toArray) := by
    show items.toList.reverse.toArray.size ≤ sizeLine
    rw [List.size_toArray, List.length_reverse, Array.length_toList]
    exact hsz
  unfold getItem
  try with_reducible refine wpAny_holding ?_
  first | refine wpAny_bind (wpAny_pure ?_) | skip
  refine wpAny_bind (wpAny_sequenceKey ht.typeIs (by decide) ?_)
  refine wpAny_bind (wpAny_callSpecial?_slot (name := Str.ofString "__getitem__") ht.typeIs PyProof.Rows.slot_tuple_getitem
    (wpAny_call_entry PyProof.Rows.slot_tuple_getitem ht.typeIs entry_tuple_getitem ?_ (args_tuple_getitem _ _)))
  show wpAny _ _ (Builtin.Tuple.tupleItemsOf (.ref t) >>= _) _ _ s
  refine wpAny_bind (PyProof.Rows.tupleItemsOf_ ht ?_)
  refine wpAny_bind (wpAny_typeOf hTs ?_)
  rw [if_pos (by decide)]
  have cut : ∀ {Q' : Int × Int × Nat → Shared → Prop}, Q' ((items.size : Int) - 1, -1, items.size) s → wpAny (model prog w) A.in1 (Builtin.Slice.sliceApplied (.ref sl) (pure (items.size : Int))) Q' E s := fun {Q'} hq => by
    unfold Builtin.Slice.sliceApplied Builtin.Slice.sliceFields
    refine wpAny_bind (wpAny_bind (wpAny_field hos hds (x := .none) rfl (wpAny_bind (wpAny_field hos hds (x := .none) rfl (wpAny_bind (wpAny_field hos hds (x := vs) rfl (wpAny_pure ?_)))))))
    refine wpAny_bind (HT.slicePart_ ps ?_)
    show wpAny _ _ (if ((-1 : Int) == 0) = true then _ else _) _ _ s
    rw [if_neg (by decide)]
    refine wpAny_bind (HT.slicePart_ .none (wpAny_bind (HT.slicePart_ .none (wpAny_bind (wpAny_pure ?_)))))
    show wpAny _ _ (match Builtin.Slice.sliceAdjust none none (-1) (items.size : Int) with | (lo, hi) => pure (lo, (-1 : Int), Builtin.Slice.slicePlaces lo hi (-1))) _ _ s
    rw [rev_adjust]
    show wpAny _ _ (pure ((items.size : Int) - 1, (-1 : Int), Builtin.Slice.slicePlaces ((items.size : Int) - 1) (-1) (-1))) _ _ s
    rw [rev_places]
    exact wpAny_pure hq
  refine wpAny_bind (cut ?_)
  show wpAny _ _ (if (((items.size : Int) - 1) == 0 && (-1 : Int) == 1 && items.size == items.size) = true then _ else _) _ _ s
  rw [if_neg (by simp), rev_pick]
  first
    | exact wpAny_bind (m := Builtin.Tuple.tupleExact _) (wpAny_newObj_type (wpAny_pure ⟨_, rfl, wpAny_pure h⟩) fit)
    | exact wpAny_bind (m := Builtin.Tuple.tupleExact _) (wpAny_newObj_type (wpAny_bind (wpAny_pure (wpAny_pure ⟨_, rfl, wpAny_pure h⟩))) fit)
    | exact wpAny_bind (wpAny_bind (m := Builtin.Tuple.tupleExact _) (wpAny_newObj_type (wpAny_pure (wpAny_pure ⟨_, rfl, wpAny_pure h⟩)) fit))
    | exact wpAny_bind (wpAny_bind (m := Builtin.Tuple.tupleExact _) (wpAny_newObj_type (wpAny_pure ⟨_, rfl, wpAny_pure h⟩) fit))
end
section
variable {X : Cx}
/-- x[::-1], x a list or a tuple -/
def tRevA (K : PySem.W.Frag) (te : TE) : TE := fun σ H Q => te σ H fun x H1 => ∃ a xs, x = .ref a ∧ ((SqL K H1 a xs ∧ ∀ p, H1 p = none → Q (.ref p) (upd H1 p (.lst xs.reverse))) ∨ (SqT K H1 a xs ∧ ∀ p, H1 p = none → Q (.ref p) (upd H1 p (.tup xs.reverse))))
theorem pe_revA {e : Expr} {te : TE} {k : Nat} {p1 p2 p3 pos : Pos} (he : PE X e te) : PE X (.Subscript e (.Slice none none (some (.UnaryOp .USub (.Constant (.int 1) k p1) p2)) p3) pos) (tRevA X.K te) := by
  refine ⟨fun pins s σ H Q I h => ?_⟩
  refine Subscript_ (thn (he.run pins s σ H _ I h) fun v s1 ⟨x, H1, I1, r1, a, xs, ex, hx⟩ => ?_)
  subst ex
  cases r1
  have step : PO X (some (.UnaryOp .USub (.Constant (.int 1) k p1) p2)) (tPart (tUn (rU fun i => .int (-i)) (tC (.int 1)))) := po_some (pe_un un_neg pe_int)
  refine wpAny_Slice (thn (po_none.run pins s1 σ H1 (fun o H2 => o = none ∧ H2 = H1) I1 ⟨rfl, rfl⟩) fun vl s2 ⟨l, H2, I2, pl, el, e2⟩ => ?_)
  subst el e2
  refine thn (po_none.run pins s2 σ H2 (fun o H3 => o = none ∧ H3 = H2) I2 ⟨rfl, rfl⟩) fun vu s3 ⟨u, H3, I3, pu, eu, e3⟩ => ?_
  subst eu e3
  refine thn (step.run pins s3 σ H3 (fun o H4 => o = some (-1) ∧ H4 = H3) I3 ⟨1, rfl, -1, rfl, rfl, rfl⟩) fun vs s4 ⟨o, H4, I4, ps, eo, e4⟩ => ?_
  subst eo e4
  have I5 : Inv X pins σ H4 { s4 with heap := s4.heap.push { cls := .type "slice", data := .fields #[vl, vu, vs] } } := I4.kept (t' := s4.toks) fun b ob q => Heap.get?_push_of_some _ q
  rcases hx with ⟨hx, q⟩ | ⟨hx, q⟩
  · obtain ⟨its, r, ht, hz⟩ := I5.list hx
    show wpAny (model X.prog X.w) X.A (subscriptTail e (.Slice none none (some (.UnaryOp .USub (.Constant (.int 1) k p1) p2)) p3) (.ref a) (.ref s4.heap.objs.size)) (EP X pins σ Q) X.xe { s4 with heap := s4.heap.push { cls := .type "slice", data := .fields #[vl, vu, vs] } }
    have hlen := r.length
    refine tail_any (ops := [.ref a, .ref s4.heap.objs.size]) ht.isList.typeIs (PySem.slot_list_getitem.lookup) ?_ (by with_unfolding_all rfl)
    refine wpAny_getItem_list_slice ht.isList (Heap.IsSliceOf.new _ vl vu vs) pl pu ps (by decide) ?_ (by rw [List.size_toArray]; omega)
    rw [PySem.W.krv_pick]
    refine ⟨.ref _, _, I5.laid (t' := s4.toks) (o := .lst xs.reverse) (fun b ob q => Heap.get?_push_of_some _ q) (Nat.le_refl _) ?_, rfl, q _ (I5.hok.fresh (Nat.le_refl _))⟩
    exact ⟨by rw [List.length_reverse]; exact hz, _, 0, r.reverse, Heap.get?_push_size _ rfl⟩
  · obtain ⟨its, r, ht, hz⟩ := I5.tuple hx
    show wpAny (model X.prog X.w) X.A (subscriptTail e (.Slice none none (some (.UnaryOp .USub (.Constant (.int 1) k p1) p2)) p3) (.ref a) (.ref s4.heap.objs.size)) (EP X pins σ Q) X.xe { s4 with heap := s4.heap.push { cls := .type "slice", data := .fields #[vl, vu, vs] } }
    have hlen := r.length
    cases pl
    cases pu
    refine tail_any (ops := [.ref a, .ref s4.heap.objs.size]) ht.typeIs (PyProof.Rows.slot_tuple_getitem.lookup) ?_ (by with_unfolding_all rfl)
    refine rev_tup ht (Heap.IsSliceOf.new _ _ _ vs) ps ?_ (by rw [List.size_toArray]; omega)
    refine ⟨.ref _, _, I5.laid (t' := s4.toks) (o := .tup xs.reverse) (fun b ob q => Heap.get?_push_of_some _ q) (Nat.le_refl _) ?_, rfl, q _ (I5.hok.fresh (Nat.le_refl _))⟩
    exact ⟨by rw [List.length_reverse]; exact hz, _, r.reverse, IsTup.new _ _⟩
end
section
variable {G : Gx} {F : Fn} {wn : Nat} {hot : List Nat} {B : Bs} {W : WX} {X : Cx} {a : Expr} {ia : E} {pos : Pos}
theorem Reps.rev {Om : Addr → Prop} {H : Hp} {xs : List PV} {vs : List V} (r : Reps G Om H xs vs) : Reps G Om H xs.reverse vs.reverse := by
  induction xs generalizing vs with
  | nil =>
    rw [show vs = [] from r]
    exact rfl
  | cons x xs ih =>
    obtain ⟨v, t, rfl, h1, h2⟩ := r
    rw [List.reverse_cons, List.reverse_cons]
    exact Reps.append (ih h2) ⟨v, [], rfl, h1, rfl⟩
theorem tE_rev {i : E} {σ : L2.St} {H : Hp} {Q : VK} (hK : X.K = G.K) (h : tE G F hot B W (.op .rev (.cons i .nil)) σ H Q) : tRevA X.K (tE G F hot B W i) σ H Q := by
  refine tE_mono (fun v H1 h => ?_) (tE_op1 h)
  obtain ⟨Om, x, pv, v', om, e, r, sem, q⟩ := one_sem h fun pvs pv e => by
    cases pvs with
    | nil => cases e
    | cons x t => cases t with
      | nil => exact ⟨x, rfl⟩
      | cons y t => cases x <;> cases e
  cases e
  cases x with
  | tup xs =>
    cases sem
    obtain ⟨p, vs, rfl, qt, rs⟩ := r
    exact ⟨p, vs, rfl, .inr ⟨hK ▸ qt, fun p' hp => q _ _ (keep_new hp) (Rep.tupNew hp rs.rev) fun _ => True.intro⟩⟩
  | lst xs =>
    cases sem
    obtain ⟨p, vs, rfl, n, qt, rs⟩ := r
    exact ⟨p, vs, rfl, .inl ⟨.inl (.inl qt), fun p' hp => q _ _ (keep_new hp) (Rep.lstNew om hp rs.rev) fun z => FreshR.lst hp⟩⟩
  | _ => cases sem
theorem pE_rev {k : Nat} {p1 p2 p3 : Pos} (hK : X.K = G.K) (ha : PE X a (tE G F hot B W ia)) : PE X (.Subscript a (.Slice none none (some (.UnaryOp .USub (.Constant (.int 1) k p1) p2)) p3) pos) (tE G F hot B W (.op .rev (.cons ia .nil))) :=
  PE.imp (pe_revA ha) fun _ _ _ h => tE_rev hK h
end
end Sl

/-! Ev33: sets of keys of any depth: searching, adding. -/
namespace Sl
open PySem PySem.Spec PyProof.Rows L2
/-- a key where it stands -/
abbrev Ky : Type := Addr × NestedKey
def KyAt (h : Heap) (p : Ky) : Prop := NestedIs h p.2 (.ref p.1) ∧ p.2.depth ≤ 8
section
variable {P : Program} {w : World} {A : Around} {E : Value → Shared → Prop} {s : Shared}
/-! ### what the model asks of a key -/
def Tells (P : Program) (w : World) (s : Shared) (t : Sem Bool) (b : Bool) : Prop := ∀ (A : Around) (E : Value → Shared → Prop) (Q : Bool → Shared → Prop), Q b s → wpAny (model P w) A t Q E s
theorem Tells.of {s : Shared} {t : Sem Bool} {b : Bool} (e : t = pure b) : Tells P w s t b := fun A E Q h => by rw [e]; exact wpAny_pure h
/-- a walk over items, each told alike, that goes on to its end -/
theorem tells_all {f : Value → Sem Bool} {g : Bool → Bool} {out : Bool} {s : Shared} : ∀ {xs : List Value}, (∀ x ∈ xs, ∃ b, g b = false ∧ Tells P w s (f x) b) → ∀ {A : Around} {E : Value → Shared → Prop} {Q : Option Bool × Unit → Shared → Prop},
    Q (none, ()) s → wpAny (model P w) A (forIn xs ((none, ()) : Option Bool × Unit) fun y _ => do if g (← f y) then pure (.done (some out, ())) else pure (.yield (none, ()))) Q E s
  | [], _, A, E, Q, h => wpAny_pure h
  | x :: xs, hx, A, E, Q, h => by
    obtain ⟨b, e, t⟩ := hx x List.mem_cons_self
    rw [List.forIn_cons]
    refine wpAny_bind (wpAny_bind (t A _ _ ?_))
    rw [e]
    refine wpAny_pure ?_
    exact tells_all (fun y hy => hx y (List.mem_cons_of_mem _ hy)) h
mutual
/-- nothing of a class statement in it -/
theorem noCls : ∀ (k : NestedKey) (v : Value) (n : Nat) (s : Shared), NestedIs s.heap k v → k.depth ≤ n → Tells P w s (ofAClassStatement n v) false
  | .none, _, n, s, x, _ => by cases x; exact .of (by cases n <;> rfl)
  | .num i, _, n, s, x, _ => by cases x <;> exact .of (by cases n <;> rfl)
  | .text y, _, n, s, x, _ => by cases x; exact .of (by cases n <;> rfl)
  | .tup ks, _, n, s, x, hn => by
    cases x with
    | @tup a o vs m _ hg hc hd hk =>
      simp only [NestedKey.depth] at hn
      cases n with
      | zero => omega
      | succ n =>
        intro A E Q h
        unfold ofAClassStatement
        refine wpAny_bind (wpAny_typeOf (T := "tuple") ⟨o, hg, hc⟩ ?_)
        dsimp only
        simp only [show (("tuple" : String) == "tuple") = true by decide, if_true, Bool.not_true, Bool.false_eq_true, if_false]
        try refine wpAny_bind (wpAny_pure ?_)
        try simp only [Bool.not_true, Bool.false_eq_true, if_false]
        show wpAny _ _ (seqItems? (.ref a) >>= _) _ _ s
        refine wpAny_bind (wpAny_seqItems hg hd ?_)
        dsimp only
        refine wpAny_bind ?_
        show wpAny _ _ (forIn vs _ _) _ _ s
        rw [← Array.forIn_toList]
        refine tells_all (g := id) (out := true) (fun y hy => ⟨false, rfl, noClss ks _ n s hk (by omega) y hy⟩) ?_
        exact wpAny_pure h
theorem noClss : ∀ (ks : List NestedKey) (vs : List Value) (n : Nat) (s : Shared), NestedAll s.heap ks vs → NestedKey.depthAll ks ≤ n → ∀ v ∈ vs, Tells P w s (ofAClassStatement n v) false
  | [], _, n, s, x, _, v, hv => by cases x; cases hv
  | k :: ks, _, n, s, x, hn, v, hv => by
    cases x with
    | cons x1 x2 =>
      simp only [NestedKey.depthAll] at hn
      rcases List.mem_cons.mp hv with e | hv
      · rw [e]; exact noCls k _ n s x1 (by omega)
      · exact noClss ks _ n s x2 (by omega) v hv
end
mutual
/-- whether its hash goes by value: told without a trace -/
theorem byVal : ∀ (k : NestedKey) (v : Value) (n : Nat) (s : Shared), NestedIs s.heap k v → k.depth ≤ n → ∃ b, Tells P w s (hashByValue n v) b
  | .none, _, n, s, x, _ => by cases x; exact ⟨true, .of (by cases n <;> rfl)⟩
  | .num i, _, n, s, x, _ => by cases x <;> exact ⟨true, .of (by cases n <;> rfl)⟩
  | .text y, _, n, s, x, _ => by cases x; exact ⟨false, .of (by cases n <;> rfl)⟩
  | .tup ks, _, n, s, x, hn => by
    cases x with
    | @tup a o vs m _ hg hc hd hk =>
      simp only [NestedKey.depth] at hn
      cases n with
      | zero => omega
      | succ n =>
        have it := byVals ks _ n s hk (by omega)
        have go : ∀ xs : List Value, (∀ x ∈ xs, ∃ b, Tells P w s (hashByValue n x) b) → ∃ r : Option Bool, (r = none ∨ r = some false) ∧ ∀ (A : Around) (E : Value → Shared → Prop) (Q : Option Bool × Unit → Shared → Prop), Q (r, ()) s →
            wpAny (model P w) A (forIn xs ((none, ()) : Option Bool × Unit) fun y _ => do if !(← hashByValue n y) then pure (.done (some false, ())) else pure (.yield (none, ()))) Q E s := by
          intro xs
          induction xs with
          | nil => exact fun _ => ⟨none, .inl rfl, fun A E Q h => wpAny_pure h⟩
          | cons x xs ih =>
            intro hx
            obtain ⟨b, t⟩ := hx x List.mem_cons_self
            obtain ⟨r, e, q⟩ := ih fun y hy => hx y (List.mem_cons_of_mem _ hy)
            cases b with
            | true =>
              refine ⟨r, e, fun A E Q h => ?_⟩
              rw [List.forIn_cons]
              refine wpAny_bind (wpAny_bind (t A _ _ ?_))
              exact wpAny_pure (q A E Q h)
            | false =>
              refine ⟨some false, .inr rfl, fun A E Q h => ?_⟩
              rw [List.forIn_cons]
              refine wpAny_bind (wpAny_bind (t A _ _ ?_))
              exact wpAny_pure (wpAny_pure h)
        obtain ⟨r, er, q⟩ := go vs.toList it
        refine ⟨r.getD true, fun A E Q h => ?_⟩
        unfold hashByValue
        refine wpAny_bind (wpAny_specialOf (T := "tuple") ⟨o, hg, hc⟩ F.slot_tuple_hash.lookup ?_)
        show wpAny _ _ (seqItems? (.ref a) >>= _) _ _ s
        refine wpAny_bind (wpAny_seqItems hg hd ?_)
        refine wpAny_bind ?_
        show wpAny _ _ (forIn vs _ _) _ _ s
        rw [← Array.forIn_toList]
        refine q _ _ _ ?_
        rcases er with rfl | rfl <;> exact wpAny_pure h
theorem byVals : ∀ (ks : List NestedKey) (vs : List Value) (n : Nat) (s : Shared), NestedAll s.heap ks vs → NestedKey.depthAll ks ≤ n → ∀ v ∈ vs, ∃ b, Tells P w s (hashByValue n v) b
  | [], _, n, s, x, _, v, hv => by cases x; cases hv
  | k :: ks, _, n, s, x, hn, v, hv => by
    cases x with
    | cons x1 x2 =>
      simp only [NestedKey.depthAll] at hn
      rcases List.mem_cons.mp hv with e | hv
      · rw [e]; exact byVal k _ n s x1 (by omega)
      · exact byVals ks _ n s x2 (by omega) v hv
end
/-- a search among keys shows nothing -/
theorem seen_no {p : Ky} (hp : KyAt s.heap p) {ys : List Value} (hy : ∀ y ∈ ys, ∃ q : Ky, y = Value.ref q.1 ∧ KyAt s.heap q) {Q : Bool → Shared → Prop} (h : Q false s) :
    wpAny (model P w) A (searchCouldBeSeen (.ref p.1) ys) Q E s := by
  unfold searchCouldBeSeen
  refine wpAny_bind ?_
  refine wpAny_forIn_list _ (fun rest r s' => r.1 = none ∧ s' = s ∧ ∀ y ∈ rest, ∃ q : Ky, y = Value.ref q.1 ∧ KyAt s.heap q) _ ?_ ?_ _ _ ⟨rfl, rfl, hy⟩
  · rintro v rest r s' ⟨hr, rfl, hall⟩
    obtain ⟨q, rfl, hq⟩ := hall v List.mem_cons_self
    dsimp only
    by_cases hv : (p.1 == q.1 || (carriedByValue (.ref p.1) && carriedByValue (.ref q.1))) = true
    · refine wp_if_pos hv ?_
      exact wpAny_pure ⟨rfl, rfl, fun u hu => hall u (List.mem_cons_of_mem _ hu)⟩
    · refine wp_if_neg hv ?_
      refine wpAny_bind (quiet_key p.2 _ 8 s' hp.1 hp.2 _ _ _ ?_)
      simp only [Bool.not_true, Bool.false_eq_true, if_false]
      refine wpAny_bind (quiet_key q.2 _ 8 s' hq.1 hq.2 _ _ _ ?_)
      simp only [Bool.not_true, Bool.false_eq_true, if_false]
      refine wpAny_bind (noCls p.2 _ 8 s' hp.1 hp.2 _ _ _ ?_)
      simp only [Bool.false_eq_true, if_false]
      refine wpAny_bind (noCls q.2 _ 8 s' hq.1 hq.2 _ _ _ ?_)
      simp only [Bool.false_eq_true, if_false]
      exact wpAny_pure ⟨rfl, rfl, fun u hu => hall u (List.mem_cons_of_mem _ hu)⟩
  · rintro ⟨r1, r2⟩ s' ⟨hr, rfl, _⟩
    simp only at hr
    subst hr
    exact wpAny_pure h
/-! ### the set -/
def rowK (w : World) (p : Ky) : Int × Value := (p.2.hash w, .ref p.1)
structure KySet (P : Program) (w : World) (h : Heap) (a : Addr) (L : List Ky) (es : Array (Int × Value)) (ep : Nat) (t : SetTable) : Prop where
  ob : ∃ o, h.get? a = some o ∧ o.ExactSet ∧ o.data = .set es ep t
  rows : es.toList = L.map (rowK w)
  tab : TabOk t (L.map fun p => p.2.hash w)
  nd : (L.map (·.2)).Nodup
  at_ : ∀ p ∈ L, KyAt h p
  led : w.params.followText "set-order" = true ∨ t.led = true
  room : L.length * 5 < t.mask * 3
  few : L.length < 64
variable {a : Addr} {L : List Ky} {es : Array (Int × Value)} {ep : Nat} {t : SetTable}
theorem rows_size {w : World} {L : List Ky} {es : Array (Int × Value)} (e : es.toList = L.map (rowK w)) : es.size = L.length := by
  rw [← Array.length_toList, e, List.length_map]
theorem fits_of {t : SetTable} {n m : Nat} (h1 : t.place.size = n) (h2 : t.dummies = #[]) (h3 : n ≤ t.mask) : t.fits n = true := by
  unfold SetTable.fits SetTable.fill
  rw [h2, Bool.and_eq_true, beq_iff_eq, decide_eq_true_eq]
  show t.place.size = n ∧ t.place.size + 0 ≤ t.mask
  omega
theorem KySet.fits (R : KySet P w s.heap a L es ep t) : t.fits es.size = true := by
  have h1 := R.tab.sz
  rw [List.length_map, ← rows_size R.rows] at h1
  have h2 := rows_size R.rows
  have h3 := R.room
  exact fits_of (m := 0) h1 R.tab.dm (by omega)
theorem KySet.here (R : KySet P w s.heap a L es ep t) {i : Nat} {p : Ky} (h : L[i]? = some p) : es[i]? = some (rowK w p) := by
  rw [← Array.getElem?_toList, R.rows, List.getElem?_map, h] <;> rfl
theorem no_dummy (m : Nat) : ∀ (n : Nat) (p : SetTable.Probe), p.dummy = none → (nth m p n).dummy = none
  | 0, p, h => h
  | n + 1, p, h => no_dummy m n (adv m p) (by unfold adv; split <;> exact h)
/-- the search, from the c-th step of the way on -/
theorem seek (R : KySet P w s.heap a L es ep t) {p : Ky} (hp : KyAt s.heap p) (hu : A.units + 8 < cLine) {K : Nat} (hKf : K < 10 * SetTable.turns t.mask)
    (hK : way t.mask (p.2.hash w) K ∉ t.place.toList) (hKb : ∀ c, c < K → way t.mask (p.2.hash w) c ∈ t.place.toList) {Q : SetFound → Shared → Prop}
    (hin : p.2 ∈ L.map (·.2) → Q (.there none) s) (hout : p.2 ∉ L.map (·.2) → Q (.free (way t.mask (p.2.hash w) K) false) s) :
    ∀ (f c : Nat) (st : Option SetTable.Probe), st.getD (t.probeStart (p.2.hash w)) = nth t.mask (t.probeStart (p.2.hash w)) c → c ≤ K → K - c < f →
      (∀ (i : Nat) q, L[i]? = some q → q.2 = p.2 → ∃ c', c ≤ c' ∧ c' < K ∧ t.place.toList[i]? = some (way t.mask (p.2.hash w) c')) →
      wpAny (model P w) A (setSearchFrom a (.ref p.1) (p.2.hash w) true f st) Q E s
  | 0, c, st, _, _, hf, _ => absurd hf (Nat.not_lt_zero _)
  | f + 1, c, st, hst, hc, hf, hre => by
    obtain ⟨o, ho, hex, hd⟩ := R.ob
    have hj : ∀ q, (nth t.mask (nth t.mask (t.probeStart (p.2.hash w)) c) q).j = way t.mask (p.2.hash w) (c + q) := fun q => congrArg SetTable.Probe.j (nth_add t.mask c _ q).symm
    have hcode : ∀ (i : Nat) q, L[i]? = some q → (es[i]?.map (·.1)).getD 0 = q.2.hash w := fun i q hq => by rw [R.here hq] <;> rfl
    rw [setSearchFrom_succ]
    refine wpAny_bind (wpAny_setState_of ho hd R.fits ?_)
    dsimp only
    refine wp_if_neg (by unfold SetTable.gaveWay; rw [mask_odd R.tab.mok]; decide) ?_
    try refine wpAny_bind (wpAny_pure ?_)
    rcases go_spec t R.tab.ris R.tab.dm (fun i => (es[i]?.map (·.1)).getD 0) (p.2.hash w) (10 * SetTable.turns t.mask) (K - c) _ (no_dummy t.mask c (t.probeStart (p.2.hash w)) rfl) (by omega)
      (fun q hq => by rw [hj]; exact hKb (c + q) (by omega)) (by rw [hj, show c + (K - c) = K by omega]; exact hK) with ⟨q, i, hq, hi, hh, hno, hpr⟩ | ⟨hno, hpr⟩
    · have hpr' : t.probe (fun i => (es[i]?.map (·.1)).getD 0) (p.2.hash w) (st.getD (t.probeStart (p.2.hash w))) = some (.candidate (way t.mask (p.2.hash w) (c + q)) i (nth t.mask (t.probeStart (p.2.hash w)) (c + (q + 1)))) := by
        rw [hst, ← hj, nth_add]
        exact hpr
      rw [hpr']
      dsimp only
      rw [hj] at hi
      have hil : i < L.length := by
        have h1 := (List.getElem?_eq_some_iff.mp hi).1
        have h2 := R.tab.sz
        rw [List.length_map] at h2
        rw [Array.length_toList] at h1
        omega
      obtain ⟨r, hr⟩ : ∃ r, L[i]? = some r := ⟨_, List.getElem?_eq_getElem hil⟩
      have hrm : r ∈ L := List.mem_of_getElem? hr
      have hrk := R.at_ r hrm
      have on : wpAny (model P w) A (searchRest a (.ref p.1) (p.2.hash w) true f es t (way t.mask (p.2.hash w) (c + q)) i (nth t.mask (t.probeStart (p.2.hash w)) (c + (q + 1)))) Q E s := by
        unfold searchRest
        rw [R.here hr]
        dsimp only [rowK]
        refine wpAny_bind (wpAny_holding (eqAt_key r.2 p.2 A s _ _ hrk.1 hp.1 (by have := hp.2; omega) _ _ _ _ ?_))
        refine wpAny_bind (wpAny_setState_of ho hd R.fits ?_)
        dsimp only
        rw [← NestedKey.decide_eq]
        by_cases hkk : r.2 = p.2
        · refine wp_if_pos (by simp [hkk]) ?_
          exact wpAny_pure (hin (List.mem_map.mpr ⟨r, hrm, hkk⟩))
        · refine wp_if_neg (by simp [hkk]) ?_
          try refine wpAny_bind (wpAny_pure ?_)
          rw [sameMem]
          dsimp only
          have hsl : t.slot (way t.mask (p.2.hash w) (c + q)) = .live i := slot_live R.tab.ris hi
          simp only [if_true, hsl, R.here hr, rowK]
          refine wpAny_bind (wpAny_isSame_ref_self (wpAny_bind (wpAny_pure ?_)))
          simp only [if_true]
          refine wp_if_neg (by simp [hkk]) ?_
          refine seek R hp hu hKf hK hKb hin hout f (c + (q + 1)) _ rfl (by omega) (by omega) fun i0 p0 h0 hk0 => ?_
          obtain ⟨c', b1, b2, b3⟩ := hre i0 p0 h0 hk0
          refine ⟨c', ?_, b2, b3⟩
          rcases Nat.lt_trichotomy c' (c + q) with z | z | z
          · exact (hno (c' - c) i0 (by omega) (by rw [hj, show c + (c' - c) = c' by omega]; exact b3) ((hcode i0 p0 h0).trans (by rw [hk0]))).elim
          · rw [z] at b3
            have s0 := slot_live R.tab.ris b3
            rw [hsl] at s0
            injection s0 with s0
            rw [← s0, hr] at h0
            cases h0
            exact (hkk hk0).elim
          · omega
      by_cases hl : t.led = true
      · refine wp_if_neg (by simp [hl]) ?_
        try refine wpAny_bind (wpAny_pure ?_)
        exact on
      · refine wp_if_pos (by simp [hl]) ?_
        refine wpAny_bind (seen_no hp (fun y hy => ?_) ?_)
        · obtain ⟨e, he, rfl⟩ := List.mem_map.mp hy
          have he2 : e ∈ es.toList := by
            have : e ∈ es ∧ e.1 = p.2.hash w := by simpa using he
            simpa using this.1
          rw [R.rows] at he2
          obtain ⟨z, hz, rfl⟩ := List.mem_map.mp he2
          exact ⟨z, rfl, R.at_ z hz⟩
        · refine wp_if_neg (by decide) ?_
          try refine wpAny_bind (wpAny_pure ?_)
          exact on
    · have hpr' : t.probe (fun i => (es[i]?.map (·.1)).getD 0) (p.2.hash w) (st.getD (t.probeStart (p.2.hash w))) = some (.empty (way t.mask (p.2.hash w) K) none) := by
        have e2 : way t.mask (p.2.hash w) K = (nth t.mask (nth t.mask (t.probeStart (p.2.hash w)) c) (K - c)).j := by rw [hj, show c + (K - c) = K by omega]
        rw [hst, e2]
        exact hpr
      rw [hpr']
      dsimp only
      refine wpAny_pure (hout fun hm => ?_)
      obtain ⟨p0, h0, hk0⟩ := List.mem_map.mp hm
      obtain ⟨i0, hi0, e0⟩ := List.getElem_of_mem h0
      have h00 : L[i0]? = some p0 := by rw [List.getElem?_eq_getElem hi0, e0]
      obtain ⟨c', b1, b2, b3⟩ := hre i0 p0 h00 hk0
      exact hno (c' - c) i0 (by omega) (by rw [hj, show c + (c' - c) = c' by omega]; exact b3) ((hcode i0 p0 h00).trans (by rw [hk0]))
/-- .. as adding asks for it -/
theorem seek0 (R : KySet P w s.heap a L es ep t) {p : Ky} (hp : KyAt s.heap p) (hu : A.units + 8 < cLine) {Q : SetFound → Shared → Prop} (hin : p.2 ∈ L.map (·.2) → Q (.there none) s)
    (hout : ∀ K, p.2 ∉ L.map (·.2) → way t.mask (p.2.hash w) K ∉ t.place.toList → (∀ c, c < K → way t.mask (p.2.hash w) c ∈ t.place.toList) → Q (.free (way t.mask (p.2.hash w) K) false) s) :
    wpAny (model P w) A (setSearch a (.ref p.1) (p.2.hash w) true) Q E s := by
  have hroom := R.room
  obtain ⟨K, hKf, hK, hKb⟩ := R.tab.first (by rw [List.length_map]; omega) (p.2.hash w)
  have hbig : K < 100000 := by
    have : 10 * SetTable.turns t.mask ≤ 1420 := by
      unfold SetTable.turns
      rcases R.tab.mok with e | e | e <;> omega
    omega
  unfold setSearch
  refine seek R hp hu hKf hK hKb hin (fun hn => hout K hn hK hKb) 100000 0 none rfl (Nat.zero_le _) (by omega) fun i q hq hk => ?_
  have hi : (L.map fun p => p.2.hash w)[i]? = some (p.2.hash w) := by rw [List.getElem?_map, hq, ← hk] <;> rfl
  have hil : i < t.place.toList.length := by
    have h1 := (List.getElem?_eq_some_iff.mp hq).1
    have h2 := R.tab.sz
    rw [List.length_map] at h2
    rw [Array.length_toList]
    omega
  obtain ⟨c, hc, e⟩ := R.tab.before hK hi (List.getElem?_eq_getElem hil)
  exact ⟨c, Nat.zero_le _, hc, by rw [List.getElem?_eq_getElem hil, e]⟩
end
end Sl

/-! Ev34: sets of keys of any depth: the table laid anew, adding. -/
namespace Sl
open PySem PySem.Spec PyProof.Rows L2
section
variable {P : Program} {w : World} {A : Around} {E : Value → Shared → Prop} {s : Shared} {a : Addr} {L : List Ky} {es : Array (Int × Value)} {ep : Nat} {t : SetTable}
/-- the set's object changes: keys stay -/
theorem KyAt.other {h h' : Heap} {p : Ky} {o : Obj} (x : KyAt h p) (ho : h.get? a = some o) (hd : o.data = .set es ep t) (hs : Heap.SameBut a h h') : KyAt h' p :=
  ⟨NestedIs.at (fun b ob vs n hb hc => (hs.2 b fun e => by
    subst e
    rw [ho] at hb
    cases hb
    rw [hd] at hc
    cases hc).trans hb) _ _ x.1, x.2⟩
theorem KyAt.keep {h h' : Heap} {p : Ky} (x : KyAt h p) (k : ∀ b o, h.get? b = some o → h'.get? b = some o) : KyAt h' p := ⟨NestedIs.at (fun b o _ _ e _ => k b o e) _ _ x.1, x.2⟩
/-- rows picked by places -/
theorem picked (L : List Ky) (es : Array (Int × Value)) (od : Array Nat) (hr : es.toList = L.map (rowK w)) (hp : od.toList.Perm (List.range L.length)) :
    ∃ L2 : List Ky, (od.filterMap (es[·]?)).toList = L2.map (rowK w) ∧ L2.Perm L ∧ (L2.map fun p => p.2.hash w) = od.toList.map fun i => (es.map (·.1)).getD i 0 := by
  have ent : ∀ i : Nat, es[i]? = (L[i]?).map (rowK w) := fun i => by rw [← Array.getElem?_toList, hr, List.getElem?_map]
  refine ⟨od.toList.filterMap fun i => L[i]?, ?_, ?_, ?_⟩
  · rw [Array.toList_filterMap, List.map_filterMap]
    exact congrArg (fun f => List.filterMap f od.toList) (funext ent)
  · have h1 := hp.filterMap fun i => L[i]?
    have h2 := PySem.W.krv_all L.toArray
    simp only [List.size_toArray] at h2
    have h3 : (List.range L.length).filterMap (fun i => L[i]?) = L := by simpa using h2
    rw [h3] at h1
    exact h1
  · have key : ∀ l : List Nat, (∀ i ∈ l, i < L.length) → ((l.filterMap fun i => L[i]?).map fun p => p.2.hash w) = l.map fun i => (es.map (·.1)).getD i 0 := fun l => by
      induction l with
      | nil => exact fun _ => rfl
      | cons i l ih =>
        intro hl
        have hi := hl i List.mem_cons_self
        have e1 : L[i]? = some L[i] := List.getElem?_eq_getElem hi
        have e2 : (es.map (·.1)).getD i 0 = L[i].2.hash w := by
          rw [Array.getD_eq_getD_getElem?, Array.getElem?_map, ent, e1]
          rfl
        rw [List.filterMap_cons_some e1, List.map_cons, List.map_cons, e2, ih fun j hj => hl j (List.mem_cons_of_mem _ hj)]
    exact key _ fun i hi => List.mem_range.mp (hp.mem_iff.mp hi)
/-- the table laid anew, larger -/
theorem relay {o : Obj} (ho : s.heap.get? a = some o) (hex : o.ExactSet) (hd : o.data = .set es ep t) (hr : es.toList = L.map (rowK w)) (hsz : t.place.size = es.size) (hdm : t.dummies = #[]) (hfl : es.size ≤ t.mask)
    (nd : (L.map (·.2)).Nodup) (ky : ∀ p ∈ L, KyAt s.heap p) (ld : w.params.followText "set-order" = true ∨ t.led = true) (few : L.length < 64) {wanted M : Nat}
    (hw : SetTable.sizeAbove wanted - 1 = M) (hM : MaskOk M) (hw2 : SetTable.sizeAbove wanted ≤ 128) (hn : L.length * 5 < M * 3) {Q : Unit → Shared → Prop}
    (hQ : ∀ h' L' es' ep' t', Heap.SameBut a s.heap h' → KySet P w h' a L' es' ep' t' → L'.Perm L → Q () { s with heap := h' }) : wpAny (model P w) A (setRelay a wanted) Q E s := by
  have hsl := rows_size hr
  obtain ⟨t', od, e, hp, T, em, el, ep', ed⟩ := relaid_ok t (hs := es.map (·.1)) (wanted := wanted) hw hM (by rw [Array.size_map, hsl]; omega)
  rw [Array.size_map, hsl] at hp
  obtain ⟨L2, r1, r2, r3⟩ := picked (w := w) L es od hr hp
  rw [← r3] at T
  have hs2 : (od.filterMap (es[·]?)).size = es.size := by rw [rows_size r1, r2.length_eq, hsl]
  rw [setRelay_eq]
  refine wpAny_bind (wpAny_setState_of ho hd (fits_of (m := 0) hsz hdm hfl) ?_)
  dsimp only
  refine wp_if_neg (by rw [sizeLine_eq]; omega) ?_
  try refine wpAny_bind (wpAny_pure ?_)
  rw [e]
  dsimp only
  refine wpAny_bind ?_
  refine wp_if_neg (by rw [hs2]; simp) ?_
  try refine wpAny_bind (wpAny_pure ?_)
  refine wpAny_pure ?_
  dsimp only
  refine wpAny_storeSet_of ho hd ?_ (by rw [hs2, hsl, sizeLine_eq]; omega)
  have sb : Heap.SameBut a s.heap (s.heap.update a (Obj.putSet (od.filterMap (es[·]?)) t')) := Heap.SameBut.update ..
  refine hQ _ L2 (od.filterMap (es[·]?)) (ep + 1) t' sb ⟨⟨_, store_at ho hd, ⟨hex.1, hex.2.1, hex.2.2⟩, rfl⟩, r1, T, (r2.map (·.2)).nodup_iff.mpr nd, fun p hpm => (ky p (r2.mem_iff.mp hpm)).other ho hd sb, by rw [el]; exact ld, ?_, by rw [r2.length_eq]; exact few⟩ r2
  rw [r2.length_eq, em]
  exact hn
theorem tab_plain {t : SetTable} {hs : List Int} {b : Bool} (T : TabOk t hs) : TabOk (if b = true then t else { t with plain := false }) hs := by
  cases b with
  | true => exact T
  | false => exact ⟨T.ris, T.dm, T.sz, T.mok, T.bd, T.reach⟩
/-- adding -/
theorem addKy (R : KySet P w s.heap a L es ep t) {p : Ky} (hp : KyAt s.heap p) (hu : A.units + 8 < cLine) (hfew : p.2 ∉ L.map (·.2) → L.length + 1 < 64) {Q : Bool → Shared → Prop}
    (hQ : ∀ b h' L' es' ep' t', Heap.SameBut a s.heap h' → KySet P w h' a L' es' ep' t' → (p.2 ∈ L.map (·.2) → L' = L) → (p.2 ∉ L.map (·.2) → L'.Perm (p :: L)) → Q b { s with heap := h' }) :
    wpAny (model P w) A (setAddHashed a (.ref p.1) (p.2.hash w)) Q E s := by
  obtain ⟨o, ho, hex, hd⟩ := R.ob
  have hsl := rows_size R.rows
  have hroom := R.room
  unfold setAddHashed
  refine wpAny_holding ?_
  rw [show (100000 : Nat) = 99999 + 1 from rfl, setAddHashedIn_succ]
  refine wpAny_bind (wpAny_setState_of ho hd R.fits ?_)
  dsimp only
  refine wp_if_neg (by simp [byScan, Value.scannable]) ?_
  try refine wpAny_bind (wpAny_pure ?_)
  refine wpAny_bind (seek0 R hp hu (fun hm => ?_) fun K hm hK hb => ?_)
  · dsimp only
    exact wpAny_pure (hQ false s.heap L es ep t (Heap.SameBut.refl a s.heap) R (fun _ => rfl) fun z => absurd hm z)
  · have hfew := hfew hm
    dsimp only
    refine wpAny_bind (wpAny_setState_of ho hd R.fits ?_)
    dsimp only
    obtain ⟨q1, q2, q3, q4, q5, q6, q7, q8, q9⟩ := R.tab.put hK hb
    generalize hpt : t.put (way t.mask (p.2.hash w) K) = pt at q1 q3 q4 q5 q6 q7 q8 q9 ⊢
    obtain ⟨t1, i⟩ := pt
    dsimp only at q1 q3 q4 q5 q6 q7 q8 q9 ⊢
    subst q1
    -- behind the question whether the hash goes by value
    have go : ∀ b : Bool, wpAny (model P w) A (do
        storeSet a (SetTable.insertAt es (SetTable.below t.place (way t.mask (p.2.hash w) K)) (p.2.hash w, Value.ref p.1)) (if b = true then t1 else { t1 with plain := false })
        if (!false && (if b = true then t1 else { t1 with plain := false }).tooFull) = true then setRelay a (SetTable.grown (es.size + 1))
        return true) Q E s := fun b => by
      have hin : (SetTable.insertAt es (SetTable.below t.place (way t.mask (p.2.hash w) K)) (p.2.hash w, Value.ref p.1)).toList = (L.take (SetTable.below t.place (way t.mask (p.2.hash w) K)) ++ p :: L.drop (SetTable.below t.place (way t.mask (p.2.hash w) K))).map (rowK w) := by
        rw [SetTable.toList_insertAt, R.rows, List.map_append, List.map_cons, List.map_take, List.map_drop]
        rfl
      generalize hpp : SetTable.below t.place (way t.mask (p.2.hash w) K) = i at q2 q3 hin ⊢
      have pm := put_perm L i p
      have hlen : (L.take i ++ p :: L.drop i).length = L.length + 1 := pm.length_eq
      have hhs : (L.take i ++ p :: L.drop i).map (fun p => p.2.hash w) = (L.map fun p => p.2.hash w).take i ++ p.2.hash w :: (L.map fun p => p.2.hash w).drop i := by
        rw [List.map_append, List.map_cons, List.map_take, List.map_drop]
      rw [← hhs] at q3
      have nd1 : ((L.take i ++ p :: L.drop i).map (·.2)).Nodup := by
        refine (pm.map (·.2)).nodup_iff.mpr ?_
        rw [List.map_cons]
        exact List.nodup_cons.mpr ⟨hm, R.nd⟩
      have hes := rows_size hin
      rw [hlen] at hes
      have q3 := tab_plain (b := b) q3
      have e1 : (if b = true then t1 else { t1 with plain := false }).mask = t1.mask := by cases b <;> rfl
      have e2 : (if b = true then t1 else { t1 with plain := false }).led = t1.led := by cases b <;> rfl
      have e3 : (if b = true then t1 else { t1 with plain := false }).fill = t1.fill := by cases b <;> rfl
      rw [← e1] at q4
      rw [← e2] at q5
      rw [← e3] at q9
      generalize (if b = true then t1 else { t1 with plain := false }) = t2 at q3 q4 q5 q9 ⊢
      generalize SetTable.insertAt es i (p.2.hash w, Value.ref p.1) = es1 at hin hes ⊢
      generalize L.take i ++ p :: L.drop i = L1 at pm hlen q3 nd1 hin
      refine wpAny_bind (wpAny_storeSet_of ho hd ?_ (by rw [hes, sizeLine_eq]; omega))
      have sb : Heap.SameBut a s.heap (s.heap.update a (Obj.putSet es1 t2)) := Heap.SameBut.update ..
      have ho1 := store_at (es' := es1) (t' := t2) ho hd
      generalize s.heap.update a (Obj.putSet es1 t2) = h1 at sb ho1 ⊢
      have ky1 : ∀ q ∈ L1, KyAt h1 q := fun q hq => by
        rcases List.mem_cons.mp (pm.mem_iff.mp hq) with e | hq
        · rw [e]; exact hp.other ho hd sb
        · exact (R.at_ q hq).other ho hd sb
      have ld1 : w.params.followText "set-order" = true ∨ t2.led = true := by rw [q5]; exact R.led
      by_cases hf : t2.tooFull = true
      · first
          | (refine wpAny_bind ?_; refine wp_if_pos (by simp [hf]) ?_)
          | (refine wp_if_pos (by simp [hf]) ?_; refine wpAny_bind ?_)
        have full : (L.length + 1) * 5 ≥ t2.mask * 3 := by
          have h := hf
          unfold SetTable.tooFull at h
          rw [decide_eq_true_eq, q9, List.length_map] at h
          exact h
        have hsz1 : t2.place.size = es1.size := by
          have h := q3.sz
          rw [List.length_map, hlen] at h
          rw [h, hes]
        rw [hsl]
        have two : (t.mask = 7 ∧ L.length = 4) ∨ (t.mask = 31 ∧ L.length = 18) := by
          rcases R.tab.mok with e | e | e
          · left; rw [q4, e] at full; rw [e] at hroom; exact ⟨e, by omega⟩
          · right; rw [q4, e] at full; rw [e] at hroom; exact ⟨e, by omega⟩
          · exfalso; rw [q4, e] at full; omega
        have grow : ∀ M, SetTable.sizeAbove (SetTable.grown (L.length + 1)) - 1 = M → MaskOk M → SetTable.sizeAbove (SetTable.grown (L.length + 1)) ≤ 128 → (L.length + 1) * 5 < M * 3 →
            wpAny (model P w) A (setRelay a (SetTable.grown (L.length + 1))) (fun _ s' => wpAny (model P w) A (pure true) Q E s') E { s with heap := h1 } := fun M z1 z2 z3 z4 => by
          refine relay (s := { s with heap := h1 }) ho1 ⟨hex.1, hex.2.1, hex.2.2⟩ rfl hin hsz1 q3.dm (by rw [hes, q4]; rcases two with ⟨e, e2⟩ | ⟨e, e2⟩ <;> omega) nd1 ky1 ld1 (by rw [hlen]; exact hfew) z1 z2 z3 (by rw [hlen]; exact z4) ?_
          intro h2 L2 es2 ep2 t3 sb2 R2 pm2
          exact wpAny_pure (hQ true h2 L2 es2 ep2 t3 (sb.trans sb2) R2 (fun z => absurd z hm) fun _ => pm2.trans pm)
        rcases two with ⟨_, z⟩ | ⟨_, z⟩
        · exact grow 31 (by rw [z, size_20]) (.inr (.inl rfl)) (by rw [z, size_20]; decide) (by omega)
        · exact grow 127 (by rw [z, size_76]) (.inr (.inr rfl)) (by rw [z, size_76]; decide) (by omega)
      · first
          | refine wp_if_neg (by simp [hf]) ?_
          | (refine wpAny_bind ?_; refine wp_if_neg (by simp [hf]) ?_; refine wpAny_pure ?_)
        refine wpAny_pure (hQ true h1 L1 es1 (ep + 1) t2 sb ⟨⟨_, ho1, ⟨hex.1, hex.2.1, hex.2.2⟩, rfl⟩, hin, q3, nd1, ky1, ld1, ?_, by rw [hlen]; exact hfew⟩ (fun z => absurd z hm) fun _ => pm)
        have h := hf
        unfold SetTable.tooFull at h
        rw [decide_eq_true_eq, q9, List.length_map] at h
        rw [hlen]
        omega
    obtain ⟨b, tb⟩ := byVal (P := P) (w := w) p.2 _ 8 s hp.1 hp.2
    cases hpl : t1.plain with
    | true =>
      first
        | (refine wpAny_bind ?_; refine wp_if_pos (by first | rfl | exact hpl) ?_; refine tb A _ _ ?_)
        | refine wp_if_pos (by first | rfl | exact hpl) (wpAny_bind (tb A _ _ ?_))
      exact go b
    | false =>
      first
        | (refine wpAny_bind ?_; refine wp_if_neg (by simp) ?_; refine wpAny_pure ?_)
        | refine wp_if_neg (by simp) (wpAny_bind (wpAny_pure ?_))
        | refine wp_if_neg (by simp) ?_
      exact go true
end
end Sl

/-! Ev35: sorted sets of keys: the mathematics. -/
namespace Sl
open PySem PySem.Spec PyProof.Rows L2
mutual
theorem keyP_inj : ∀ (x y : PV), partKey x = true → partKey y = true → keyP x = keyP y → x = y
  | .non, y, _, hy, e => by cases y <;> simp_all [keyP, partKey]
  | .int i, y, _, hy, e => by cases y <;> simp_all [keyP, partKey]
  | .str u, y, _, hy, e => by cases y <;> simp_all [keyP, partKey]
  | .tup xs, y, hx, hy, e => by
    cases y with
    | tup ys =>
      simp only [keyP, NestedKey.tup.injEq] at e
      rw [keyPs_inj xs ys (by simpa [partKey] using hx) (by simpa [partKey] using hy) e]
    | _ => simp_all [keyP, partKey]
  | .bl _, _, hx, _, _ => by simp [partKey] at hx
  | .lst _, _, hx, _, _ => by simp [partKey] at hx
  | .dct _ _, _, hx, _, _ => by simp [partKey] at hx
  | .fn _, _, hx, _, _ => by simp [partKey] at hx
  | .exn _ _, _, hx, _, _ => by simp [partKey] at hx
  | .scr _, _, hx, _, _ => by simp [partKey] at hx
theorem keyPs_inj : ∀ (xs ys : List PV), partKeys xs = true → partKeys ys = true → keyPs xs = keyPs ys → xs = ys
  | [], [], _, _, _ => rfl
  | [], _ :: _, _, _, e => by simp [keyPs] at e
  | _ :: _, [], _, _, e => by simp [keyPs] at e
  | x :: xs, y :: ys, hx, hy, e => by
    simp only [keyPs, List.cons.injEq] at e
    have h1 : partKey x = true ∧ partKeys xs = true := by
      simp only [partKeys] at hx
      split at hx
      · exact ⟨by assumption, hx⟩
      · cases hx
    have h2 : partKey y = true ∧ partKeys ys = true := by
      simp only [partKeys] at hy
      split at hy
      · exact ⟨by assumption, hy⟩
      · cases hy
    rw [keyP_inj x y h1.1 h2.1 e.1, keyPs_inj xs ys h1.2 h2.2 e.2]
end
theorem natLt_tri : ∀ xs ys : List Nat, natLtL xs ys = false → natLtL ys xs = false → xs = ys
  | [], [], _, _ => rfl
  | [], _ :: _, h, _ => by simp [natLtL] at h
  | _ :: _, [], _, h => by simp [natLtL] at h
  | x :: xs, y :: ys, h1, h2 => by
    simp only [natLtL] at h1 h2
    by_cases e : x = y
    · subst e
      simp only [Nat.beq_refl, if_true] at h1 h2
      rw [natLt_tri xs ys h1 h2]
    · have b1 : Nat.beq x y = false := by
        cases q : Nat.beq x y with
        | false => rfl
        | true => exact (e (Nat.eq_of_beq_eq_true q)).elim
      have b2 : Nat.beq y x = false := by
        cases q : Nat.beq y x with
        | false => rfl
        | true => exact (e (Nat.eq_of_beq_eq_true q).symm).elim
      simp only [b1, b2, Bool.false_eq_true, if_false] at h1 h2
      have c1 : ¬ x < y := fun z => by
        have : Nat.blt x y = true := Nat.ble_eq_true_of_le z
        rw [h1] at this; cases this
      have c2 : ¬ y < x := fun z => by
        have : Nat.blt y x = true := Nat.ble_eq_true_of_le z
        rw [h2] at this; cases this
      omega
theorem partKeys_cons {x : PV} {xs : List PV} (h : partKeys (x :: xs) = true) : partKey x = true ∧ partKeys xs = true := by
  simp only [partKeys] at h
  split at h
  · exact ⟨by assumption, h⟩
  · cases h
mutual
theorem lt_tri : ∀ (x y : PV), partKey x = true → partKey y = true → alike x y = true → pyLt x y = false → pyLt y x = false → x = y
  | .int i, y, _, hy, a, h1, h2 => by
    cases y <;> simp only [alike] at a <;> first | (cases a; done) | skip
    clear hy
    rename_i j
    simp only [pyLt, iLt_eq, decide_eq_false_iff_not] at h1 h2
    rw [show i = j by omega]
  | .str u, y, _, hy, a, h1, h2 => by
    cases y <;> simp only [alike] at a <;> first | (cases a; done) | skip
    clear hy
    rename_i v
    simp only [pyLt] at h1 h2
    have e := natLt_tri _ _ h1 h2
    obtain ⟨⟨l1⟩⟩ := u
    obtain ⟨⟨l2⟩⟩ := v
    simp only at e
    rw [e]
  | .tup xs, y, hx, hy, a, h1, h2 => by
    cases y <;> simp only [alike] at a <;> first | (cases a; done) | skip
    rename_i ys
    simp only [pyLt] at h1 h2
    rw [lts_tri xs ys (by simpa [partKey] using hx) (by simpa [partKey] using hy) a h1 h2]
  | .non, _, _, _, a, _, _ => by simp [alike] at a
  | .bl _, _, hx, _, _, _, _ => by simp [partKey] at hx
  | .lst _, _, hx, _, _, _, _ => by simp [partKey] at hx
  | .dct _ _, _, hx, _, _, _, _ => by simp [partKey] at hx
  | .fn _, _, hx, _, _, _, _ => by simp [partKey] at hx
  | .exn _ _, _, hx, _, _, _, _ => by simp [partKey] at hx
  | .scr _, _, hx, _, _, _, _ => by simp [partKey] at hx
theorem lts_tri : ∀ (xs ys : List PV), partKeys xs = true → partKeys ys = true → alikes xs ys = true → pyLts xs ys = false → pyLts ys xs = false → xs = ys
  | [], [], _, _, _, _, _ => rfl
  | [], _ :: _, _, _, _, h, _ => by simp [pyLts] at h
  | _ :: _, [], _, _, _, _, h => by simp [pyLts] at h
  | x :: xs, y :: ys, hx, hy, a, h1, h2 => by
    obtain ⟨x1, x2⟩ := partKeys_cons hx
    obtain ⟨y1, y2⟩ := partKeys_cons hy
    have a12 : alike x y = true ∧ alikes xs ys = true := by
      simp only [alikes] at a
      split at a
      · exact ⟨by assumption, a⟩
      · cases a
    simp only [pyLts, keyEq' x1 y1, keyEq' y1 x1] at h1 h2
    by_cases e : keyP x = keyP y
    · rw [decide_eq_true e] at h1
      rw [decide_eq_true e.symm] at h2
      simp only [if_true] at h1 h2
      rw [keyP_inj x y x1 y1 e, lts_tri xs ys x2 y2 a12.2 h1 h2]
    · rw [decide_eq_false e] at h1
      rw [decide_eq_false (fun z => e z.symm)] at h2
      simp only [Bool.false_eq_true, if_false] at h1 h2
      exact (e (by rw [lt_tri x y x1 y1 a12.1 h1 h2])).elim
end
/-- equal lots of keys are sorted alike -/
theorem sort_perm {ys zs : List PV} (p : ys.Perm zs) (al : ∀ x ∈ zs, ∀ y ∈ zs, alike x y = true) (pk : ∀ x ∈ zs, partKey x = true) : ys.mergeSort leP = zs.mergeSort leP := by
  refine PySem.W.sort_unique leP_total (PySem.W.sort_pairwise leP_total ys) fun c => ?_
  have pm : ((ys.mergeSort leP).filter (PySem.W.sameRank leP c)).Perm (zs.filter (PySem.W.sameRank leP c)) := ((List.mergeSort_perm ys leP).trans p).filter _
  have one : ∀ x ∈ zs.filter (PySem.W.sameRank leP c), ∀ y ∈ zs.filter (PySem.W.sameRank leP c), x = y := fun x hx y hy => by
    obtain ⟨x1, x2⟩ := List.mem_filter.mp hx
    obtain ⟨y1, y2⟩ := List.mem_filter.mp hy
    simp only [PySem.W.sameRank, Bool.and_eq_true] at x2 y2
    have h1 := leP_total.trans _ _ _ x2.2 y2.1
    have h2 := leP_total.trans _ _ _ y2.2 x2.1
    refine lt_tri x y (pk x x1) (pk y y1) (al x x1 y y1) ?_ ?_
    · rw [leP_lt (al x x1 y y1), h2]; rfl
    · rw [leP_lt (al y y1 x x1), h1]; rfl
  generalize zs.filter (PySem.W.sameRank leP c) = l at pm one
  cases l with
  | nil => exact pm.eq_nil
  | cons z l =>
    have e1 : z :: l = List.replicate (z :: l).length z := List.eq_replicate_iff.mpr ⟨rfl, fun y hy => one y hy z List.mem_cons_self⟩
    have e2 := List.eq_replicate_iff.mpr ⟨pm.length_eq, fun y hy => one y (pm.mem_iff.mp hy) z List.mem_cons_self⟩
    rw [e2]
    exact e1.symm
theorem mem_keyPs {x : PV} (hx : partKey x = true) : ∀ {ks : List PV}, (∀ k ∈ ks, partKey k = true) → (keyP x ∈ keyPs ks ↔ x ∈ ks)
  | [], _ => by simp [keyPs]
  | k :: ks, h => by
    simp only [keyPs, List.mem_cons]
    rw [mem_keyPs hx fun y hy => h y (List.mem_cons_of_mem _ hy)]
    refine ⟨fun z => z.imp (fun e => keyP_inj x k hx (h k List.mem_cons_self) e) id, fun z => z.imp (fun e => by rw [e]) id⟩
theorem dedup_ok : ∀ {xs acc : List PV}, (∀ x ∈ acc, partKey x = true) → (∀ x ∈ xs, partKey x = true) → acc.Nodup → (dedup acc xs).Nodup ∧ ∀ z, z ∈ dedup acc xs ↔ z ∈ acc ∨ z ∈ xs
  | [], acc, _, _, nd => ⟨nd, fun z => by simp [dedup]⟩
  | x :: xs, acc, ha, hx, nd => by
    have px := hx x List.mem_cons_self
    have hxs : ∀ y ∈ xs, partKey y = true := fun y hy => hx y (List.mem_cons_of_mem _ hy)
    simp only [dedup]
    rw [memP_key px ha]
    by_cases hm : x ∈ acc
    · rw [decide_eq_true ((mem_keyPs px ha).mpr hm), if_pos rfl]
      obtain ⟨n, m⟩ := dedup_ok ha hxs nd
      refine ⟨n, fun z => (m z).trans ?_⟩
      simp only [List.mem_cons]
      constructor
      · rintro (q | q)
        · exact .inl q
        · exact .inr (.inr q)
      · rintro (q | rfl | q)
        · exact .inl q
        · exact .inl hm
        · exact .inr q
    · rw [decide_eq_false (fun z => hm ((mem_keyPs px ha).mp z)), if_neg (by simp)]
      obtain ⟨n, m⟩ := dedup_ok (xs := xs) (acc := acc ++ [x]) (fun y hy => by
        rcases List.mem_append.mp hy with q | q
        · exact ha y q
        · rw [List.mem_singleton.mp q]; exact px) hxs (by
        refine List.nodup_append.mpr ⟨nd, by simp, fun a h1 b h2 => ?_⟩
        rw [List.mem_singleton.mp h2]
        exact fun e => hm (e ▸ h1))
      refine ⟨n, fun z => (m z).trans ?_⟩
      simp only [List.mem_append, List.mem_cons, List.not_mem_nil, or_false]
      constructor
      · rintro ((q | q) | q)
        · exact .inl q
        · exact .inr (.inl q)
        · exact .inr (.inr q)
      · rintro (q | q | q)
        · exact .inl (.inl q)
        · exact .inl (.inr q)
        · exact .inr q
theorem few_of {α : Type} [DecidableEq α] : ∀ {l m : List α}, l.Nodup → (∀ x ∈ l, x ∈ m) → l.length ≤ m.length
  | [], m, _, _ => Nat.zero_le _
  | x :: l, m, nd, h => by
    obtain ⟨h1, h2⟩ := List.nodup_cons.mp nd
    have hx := h x List.mem_cons_self
    have ih := few_of (m := m.erase x) h2 fun y hy => (List.mem_erase_of_ne (fun e => h1 (by rw [← e]; exact hy))).mpr (h y (List.mem_cons_of_mem _ hy))
    rw [List.length_erase_of_mem hx] at ih
    have : 0 < m.length := List.length_pos_of_mem hx
    rw [List.length_cons]
    omega
theorem perm_lift {α β : Type} {f : α → β} {out l : List β} (p : out.Perm l) : ∀ L : List α, l = L.map f → ∃ L1 : List α, out = L1.map f ∧ L1.Perm L := by
  induction p with
  | nil =>
    intro L e
    exact ⟨[], rfl, by cases L with | nil => exact .nil | cons _ _ => cases e⟩
  | cons x p ih =>
    intro L e
    cases L with
    | nil => cases e
    | cons y L =>
      simp only [List.map_cons, List.cons.injEq] at e
      obtain ⟨L1, e1, q⟩ := ih L e.2
      exact ⟨y :: L1, by rw [List.map_cons, e1, e.1], q.cons y⟩
  | swap x y l =>
    intro L e
    cases L with
    | nil => cases e
    | cons a L => cases L with
      | nil => simp at e
      | cons b L =>
        simp only [List.map_cons, List.cons.injEq] at e
        exact ⟨b :: a :: L, by rw [List.map_cons, List.map_cons, e.1, e.2.1, e.2.2], .swap a b L⟩
  | trans p q ih1 ih2 =>
    intro L e
    obtain ⟨L2, e2, q2⟩ := ih2 L e
    obtain ⟨L1, e1, q1⟩ := ih1 L2 e2
    exact ⟨L1, e1, q1.trans q2⟩
end Sl

/-! Ev36: set(xs), sorted(set(xs)). -/
namespace Sl
open PySem PySem.Spec PyProof.Rows L2
/-- what the set has of the first i keys -/
structure Gone (ks : List Ky) (i : Nat) (L : List Ky) : Prop where
  sub : ∀ p ∈ L, p ∈ ks.take i
  all : ∀ p ∈ ks.take i, p.2 ∈ L.map (·.2)
theorem Gone.next {ks L L' : List Ky} {i : Nat} {x : Ky} (g : Gone ks i L) (h : ks[i]? = some x) (c1 : x.2 ∈ L.map (·.2) → L' = L) (c2 : x.2 ∉ L.map (·.2) → L'.Perm (x :: L)) : Gone ks (i + 1) L' := by
  have en : ks.take (i + 1) = ks.take i ++ [x] := take_next h
  by_cases c : x.2 ∈ L.map (·.2)
  · rw [c1 c]
    refine ⟨fun p hp => by rw [en]; exact List.mem_append_left _ (g.sub p hp), fun p hp => ?_⟩
    rw [en] at hp
    rcases List.mem_append.mp hp with z | z
    · exact g.all p z
    · rw [List.mem_singleton.mp z]; exact c
  · have pm := c2 c
    refine ⟨fun p hp => ?_, fun p hp => ?_⟩
    · rw [en]
      rcases List.mem_cons.mp (pm.mem_iff.mp hp) with e | z
      · rw [e]; simp
      · exact List.mem_append_left _ (g.sub p z)
    · rw [(pm.map (·.2)).mem_iff, List.map_cons]
      rw [en] at hp
      rcases List.mem_append.mp hp with z | z
      · exact List.mem_cons_of_mem _ (g.all p z)
      · rw [List.mem_singleton.mp z]; exact List.mem_cons_self
/-- a new set's object -/
abbrev newS (w : World) : Obj := { cls := .type "set", dict := none, data := .set #[] 0 (.fresh 0 0 (!w.params.followText "set-order")) }
section
variable {P : Program} {w : World} {A : Around} {E : Value → Shared → Prop} {s : Shared}
theorem KySet.keep {h h' : Heap} {a : Addr} {L : List Ky} {es : Array (Int × Value)} {ep : Nat} {t : SetTable} (R : KySet P w h a L es ep t) (ha : ∀ o, h.get? a = some o → h'.get? a = some o) (ht : ∀ p ∈ L, KyAt h' p) : KySet P w h' a L es ep t := by
  obtain ⟨o, ho, r⟩ := R.ob
  exact ⟨⟨o, ha o ho, r⟩, R.rows, R.tab, R.nd, ht, R.led, R.room, R.few⟩
theorem KySet.none {h : Heap} {a : Addr} (ho : h.get? a = some (newS w)) : KySet P w h a [] #[] 0 (.fresh 0 0 (!w.params.followText "set-order")) := by
  refine ⟨⟨_, ho, ⟨rfl, rfl, rfl⟩, rfl⟩, rfl, ⟨List.Pairwise.nil, rfl, rfl, .inl rfl, fun x hx => (by cases hx), fun i h j hi => (by simp at hi)⟩, List.nodup_nil, fun p hp => (by cases hp), ?_, ?_, by decide⟩
  · show _ ∨ (!w.params.followText "set-order") = true
    cases w.params.followText "set-order"
    · exact .inr rfl
    · exact .inl rfl
  · show 0 * 5 < 7 * 3
    decide
/-- set.update's loop over keys -/
theorem updKy {I : Addr} {fp wr : List Addr} {G : Array GenState → Array GenState → Prop} {n : Nat} {Pv : Nat → Value → Prop} {St : Nat → Shared → Prop} {R : Result → Shared → Prop}
    (W : WalksS P w A.in1 I fp wr G n Pv St) (S : Addr) (hSf : S ∉ fp) (ks : List Ky) (hn : n = ks.length) (hfew : ∀ l : List NestedKey, l.Nodup → (∀ k ∈ l, k ∈ ks.map (·.2)) → l.length < 64) (hval : ∀ i v, Pv i v → ∃ p, ks[i]? = some p ∧ v = .ref p.1)
    (h0 : Heap) (hk : ∀ p ∈ ks, KyAt h0 p) (hS0 : h0.get? S = none) (hw0 : ∀ b ∈ wr, h0.get? b = none) (hu : A.in1.units + 8 < cLine) :
    ∀ (m i : Nat) (s : Shared), n - i = m → i ≤ n → St i s → (∀ b o, h0.get? b = some o → s.heap.get? b = some o) → (∃ L es ep t, KySet P w s.heap S L es ep t ∧ Gone ks i L) →
      (∀ s' L es ep t, Moved (S :: wr) G s s' → KySet P w s'.heap S L es ep t → Gone ks n L → (∀ b o, h0.get? b = some o → s'.heap.get? b = some o) → R (.ok (.ret .none)) s') →
      codeAny (model P w) A (.builtin "set.update.loop" ⟨[.ref S, .ref I], []⟩) R s := by
  have hSw : S ∉ wr := fun h => hSf (W.sub _ h)
  have hsub : ∀ b ∈ wr, b ∈ S :: wr := fun b hb => List.mem_cons_of_mem _ hb
  have on : ∀ {s s' : Shared}, Moved wr G s s' → (∀ b o, h0.get? b = some o → s.heap.get? b = some o) → ∀ b o, h0.get? b = some o → s'.heap.get? b = some o := fun hm hkp b o e =>
    hm.heap b o (fun hb => by rw [hw0 b hb] at e; cases e) (hkp b o e)
  have inside : ∀ {i : Nat} {L : List Ky}, Gone ks i L → ∀ p ∈ L, p ∈ ks := fun g p hp => List.mem_of_mem_take (g.sub p hp)
  intro m
  induction m with
  | zero =>
    intro i s hm hi hst hkp ⟨L, es, ep, t, hS, g⟩ hR
    have hin : i = n := by omega
    subst hin
    refine codeAny_builtin F.entry_set_update_loop ?_
    rw [Around.under_plainId F.plain_set_update_loop _]
    show wpAny _ A.in1 (pyNext (.ref I) >>= _) _ _ s
    refine wpAny_bind (W.done s _ _ hst fun s' hmv => ?_)
    show wpAny _ A.in1 (ret Value.none) _ _ s'
    have hkp' := on hmv hkp
    exact wpAny_pure (hR s' L es ep t (hmv.mono hsub) (hS.keep (fun o e => hmv.heap S o hSw e) fun p hp => (hk p (inside g p hp)).keep hkp') g hkp')
  | succ m ih =>
    intro i s hm hi hst hkp ⟨L, es, ep, t, hS, g⟩ hR
    have hlt : i < n := by omega
    refine codeAny_builtin F.entry_set_update_loop ?_
    rw [Around.under_plainId F.plain_set_update_loop _]
    show wpAny _ A.in1 (pyNext (.ref I) >>= _) _ _ s
    refine wpAny_bind (W.item i s _ _ hlt hst fun v s' hP hst' hmv => ?_)
    obtain ⟨p, hp, rfl⟩ := hval i v hP
    have hkp' := on hmv hkp
    have hS' : KySet P w s'.heap S L es ep t := hS.keep (fun o e => hmv.heap S o hSw e) fun q hq => (hk q (inside g q hq)).keep hkp'
    have hpm : p ∈ ks := List.mem_of_getElem? hp
    have hx : KyAt s'.heap p := (hk p hpm).keep hkp'
    show wpAny _ A.in1 (holding [Value.ref p.1] (setAdd S (.ref p.1)) >>= _) _ _ s'
    refine wpAny_bind (wpAny_holding ?_)
    unfold setAdd
    refine wpAny_holding ?_
    refine wpAny_bind (pyHash_key p.2 _ A.in1 s' _ hx.1 (by have := hx.2; omega) ?_)
    refine addKy (s := { s' with toks := s'.toks + p.2.draws }) hS' hx hu (fun c => ?_) fun b h' L' es' ep' t' hsb hS2 c1 c2 => ?_
    · have := hfew (p.2 :: L.map (·.2)) (List.nodup_cons.mpr ⟨c, hS'.nd⟩) fun k hk => by
        rcases List.mem_cons.mp hk with e | z
        · rw [e]; exact List.mem_map.mpr ⟨p, hpm, rfl⟩
        · obtain ⟨q, hq, rfl⟩ := List.mem_map.mp z
          exact List.mem_map.mpr ⟨q, inside g q hq, rfl⟩
      simpa using this
    · have hkp2 : ∀ b o, h0.get? b = some o → h'.get? b = some o := fun b o e => (hsb.2 b (fun z => by rw [z, hS0] at e; cases e)).trans (hkp' b o e)
      refine wpAny_pure ⟨plainId_quiet F.plain_set_update_loop _, ih (i + 1) _ (by omega) hlt (W.frame _ s' _ _ hst' (Nat.le_add_right _ _) fun b hb o e => ?_) hkp2 ⟨L', es', ep', t', hS2, g.next hp c1 c2⟩ fun s'' L2 es2 ep2 t2 hm2 hS3 g2 hkp3 => ?_⟩
      · rw [hsb.2 b (fun h : b = S => hSf (by rw [← h]; exact hb))]; exact e
      · refine hR s'' L2 es2 ep2 t2 (Moved.trans W.gtrans ((hmv.mono hsub).then_heap (Nat.le_add_right _ _) fun b o hb e => ?_) hm2) hS3 g2 hkp3
        rw [hsb.2 b (fun h : b = S => hb (by rw [h]; exact List.mem_cons_self))]; exact e
set_option maxHeartbeats 6400000 in
/-- set(xs), xs a list of keys -/
theorem callKy {l : Addr} {items : Array Value} (ks : List Ky) {Q : Value → Shared → Prop} (hh : A.handled = none) (hl : s.heap.IsList l items) (hit : items.toList = ks.map fun p => Value.ref p.1) (hk : ∀ p ∈ ks, KyAt s.heap p)
    (hfew : ∀ l : List NestedKey, l.Nodup → (∀ k ∈ l, k ∈ ks.map (·.2)) → l.length < 64) (hu : A.units + 16 < cLine)
    (h : ∀ (h' : Heap) (tk : Nat) L es ep t, KySet P w h' s.heap.objs.size L es ep t → Gone ks ks.length L → (∀ b o, s.heap.get? b = some o → h'.get? b = some o) → Q (.ref s.heap.objs.size) { s with heap := h', toks := tk }) :
    wpAny (model P w) A (call (.type "set") [.ref l]) Q E s := by
  have hisz : items.size = ks.length := by rw [← Array.length_toList, hit, List.length_map]
  obtain ⟨c, tl, hmro⟩ := F.called_set.mro
  have hmade := F.called_set.made
  have hsub := F.called_set.sub
  refine wpAny_call (codeAny_of_tree ?_)
  show wpAny _ _ (callAny (.type "set") _) _ _ _
  refine wpAny_pure ⟨Code.quiet_builtin _ (by decide +kernel), codeAny_builtin F.entry_type_call ?_⟩
  rw [Around.under_plain (weight_type_call_type "set" [.ref l] []) rfl]
  have h1 := F.called_set.notType
  have h2 := F.called_set.canCreate
  have hct := F.typeCall_set_1 (.ref l)
  repeat (any_goals (first | assumption | wp_step))
  refine codeAny_mono (code_set_led1 (.ref l) (E := E) (Q₁ := fun obj s₁ => obj = .ref s.heap.objs.size ∧ s₁ = { s with heap := s.heap.push (newS w) }) ⟨rfl, rfl⟩) fun r s₁ hr => ?_
  rcases r with e | (obj | _ | _ | _)
  · exact hr
  case' ok.next => exact hr.elim
  case' ok.brk => exact hr.elim
  case' ok.cont => exact hr.elim
  all_goals try exact hr.elim
  obtain ⟨rfl, rfl⟩ := hr
  have hS : (s.heap.push (newS w)).get? s.heap.objs.size = some (newS w) := Heap.get?_push_size _ rfl
  have hT : Shared.TypeIs { s with heap := s.heap.push (newS w) } (.ref s.heap.objs.size) "set" := ⟨_, hS, rfl⟩
  have hli := F.called_set.init.lookup
  have hbi := F.called_set.init.bind (.ref s.heap.objs.size)
  repeat (any_goals (first | assumption | wp_step))
  refine codeAny_mono (codeAny_call_builtin (R := wants (fun r s₂ => r = .none ∧ ∃ h' tk L es ep t, s₂ = { s with heap := h', toks := tk } ∧ KySet P w h' s.heap.objs.size L es ep t ∧ Gone ks ks.length L ∧
      (∀ b o, s.heap.get? b = some o → h'.get? b = some o)) E) F.called_set.init.plain F.entry_set_init (check_set_init_1 hT ?_)) fun r₂ s₂ hr₂ => ?_
  · obtain ⟨ol, hol, hcl, nl, hdl⟩ := hl
    obtain ⟨ocls, odict, odata, oslots⟩ := ol
    simp only at hcl hdl
    subst hcl; subst hdl
    have hol' : (s.heap.push (newS w)).get? l = some { cls := .type "list", dict := odict, data := .seq items nl, slots := oslots } := Heap.get?_push_of_some _ hol
    have hsls := F.sub_list_set
    have hslf := F.sub_list_frozenset
    have hne : (Value.type "list" == Value.type "dict") = false := by decide
    have hl1 : (s.heap.push (newS w)).IsList l items := ⟨_, hol', rfl, nl, rfl⟩
    unfold Builtin.«set.__init__» noKeywords Builtin.Frozenset.updateFrom
    generalize hPI : pyIter = PI
    wp_walk
    subst hPI
    refine wpAny_pyIter_list hl1 ?_
    refine wpAny_bind (wpAny_runValue ?_)
    have hlS : l < s.heap.objs.size := Heap.lt_size hol
    have hh3 : A.in1.in1.in1.handled = none := by simp [hh]
    have hneI : l ≠ (s.heap.push (newS w)).objs.size := by
      rw [Heap.size_push]; exact Nat.ne_of_lt (Nat.lt_succ_of_lt hlS)
    have hSf : s.heap.objs.size ∉ [(s.heap.push (newS w)).objs.size, l] := by
      rw [Heap.size_push]; simp only [List.mem_cons, List.mem_singleton, List.not_mem_nil, or_false, not_or]
      exact ⟨Nat.ne_of_lt (Nat.lt_succ_self _), Nat.ne_of_gt hlS⟩
    have hval : ∀ (i : Nat) (v : Value), items[i]? = some v → ∃ p, ks[i]? = some p ∧ v = .ref p.1 := fun i v hv => by
      have q : items.toList[i]? = some v := by rw [Array.getElem?_toList]; exact hv
      rw [hit, List.getElem?_map] at q
      cases hq : ks[i]? with
      | none => rw [hq] at q; cases q
      | some p =>
        rw [hq] at q
        exact ⟨p, rfl, (Option.some.inj q).symm⟩
    have none_of : ∀ b, s.heap.objs.size ≤ b → s.heap.get? b = none := fun b hb => by
      cases q : s.heap.get? b with
      | none => rfl
      | some o => exact absurd (Nat.lt_of_lt_of_le (Heap.lt_size q) hb) (Nat.lt_irrefl _)
    refine updKy ((Walks.list hh3 _ l hneI items).toS) s.heap.objs.size hSf ks hisz hfew hval s.heap hk (none_of _ (Nat.le_refl _)) (fun b hb => none_of b (by
        rw [List.mem_singleton.mp hb, Heap.size_push]
        exact Nat.le_succ _)) (by simp only [Around.in1_units]; omega) (items.size - 0) 0 _ (by omega) (Nat.zero_le _)
      ⟨⟨_, Heap.get?_push_size _ rfl, rfl, rfl⟩, (hl1.push _)⟩ (fun b o e => Heap.get?_push_of_some _ (Heap.get?_push_of_some _ e)) ⟨[], #[], 0, _, KySet.none (Heap.get?_push_of_some _ hS), fun p hp => (by cases hp), fun p hp => (by simp at hp)⟩ fun s' L es ep t hm hS' g' hkp => ?_
    obtain ⟨h', g2, d', tk', os'⟩ := s'
    have eg : g2 = s.gens := hm.gens
    have ed : d' = s.drawn := hm.drawn
    have eo : os' = s.os := hm.os
    subst eg; subst ed; subst eo
    show wpAny _ _ _ _ _ _
    refine wpAny_pure ?_
    show wpAny _ _ (ret Value.none) _ _ _
    rw [hisz] at g'
    exact wpAny_pure ⟨rfl, h', tk', L, es, ep, t, rfl, hS', g', hkp⟩
  · rcases r₂ with e | (r | _ | _ | _)
    · exact hr₂
    all_goals try exact hr₂.elim
    obtain ⟨rfl, h', tk, L, es, ep, t, rfl, hS', g', hk'⟩ := hr₂
    repeat (any_goals (first | assumption | wp_step))
    exact h _ _ _ _ _ _ hS' g' hk'
end
end Sl

/-! Ev37: sorted(set(xs)) as an expression. -/
namespace Sl
open PySem PySem.Spec PyProof.Rows L2
/-- the set at a, without its keys' objects -/
def Ky0 (P : Program) (w : World) (h : Heap) (a : Addr) (L : List Ky) : Prop := ∃ (es : Array (Int × Value)) (ep : Nat) (t : SetTable), (∃ o, h.get? a = some o ∧ o.ExactSet ∧ o.data = .set es ep t) ∧ es.toList = L.map (rowK w) ∧ TabOk t (L.map fun p => p.2.hash w) ∧ (L.map (·.2)).Nodup ∧
  (w.params.followText "set-order" = true ∨ t.led = true) ∧ L.length * 5 < t.mask * 3 ∧ L.length < 64
def KyO (P : Program) (w : World) (a : Addr) (L : List Ky) : HO := .ext fun h => Ky0 P w h a L
section
variable {P : Program} {w : World} {A : Around} {E : Value → Shared → Prop} {s : Shared}
theorem KySet.bare {h : Heap} {a : Addr} {L : List Ky} {es : Array (Int × Value)} {ep : Nat} {t : SetTable} (R : KySet P w h a L es ep t) : Ky0 P w h a L := ⟨es, ep, t, R.ob, R.rows, R.tab, R.nd, R.led, R.room, R.few⟩
theorem Ky0.full {h : Heap} {a : Addr} {L : List Ky} (R : Ky0 P w h a L) (ht : ∀ p ∈ L, KyAt h p) : ∃ es ep t, KySet P w h a L es ep t := by
  obtain ⟨es, ep, t, h1, h2, h3, h4, h5, h6, h7⟩ := R
  exact ⟨es, ep, t, h1, h2, h3, h4, ht, h5, h6, h7⟩
theorem kyO_ok {H : Hp} {h : Heap} {a : Addr} {L : List Ky} (R : Ky0 P w h a L) : ObjOk P w H h a (KyO P w a L) := by
  refine ⟨R, ?_, fun h1 h2 p k => ?_⟩
  · obtain ⟨es, ep, t, ⟨o, ho, _⟩, _⟩ := R
    exact ⟨o, ho⟩
  · obtain ⟨es, ep, t, ⟨o, ho, r⟩, q⟩ := p
    exact ⟨es, ep, t, ⟨o, k o ho, r⟩, q⟩
/-- sorted(s): the items by their data -/
theorem sortedKy {a : Addr} {L : List Ky} {es : Array (Int × Value)} {ep : Nat} {t : SetTable} {β : Type} {R : Value → β → Prop} {enc : β → PyData} {Q : Value → Shared → Prop} (S : KySet P w s.heap a L es ep t) (hh : A.handled = none)
    (pick : ∀ L1 : List Ky, L1.Perm L → ∃ bs : List β, PySem.W.EachIs R (L1.map fun p => Value.ref p.1) bs ∧ PySem.W.EachIs (fun v b => ∃ as, Reads s.heap v (enc b) as) (L1.map fun p => Value.ref p.1) bs ∧ PySem.W.AllAlike (bs.map enc) ∧ PySem.W.Sortable (bs.map enc) ∧ (∀ b, b ∈ bs → A.units + 2 + (enc b).depth < cLine) ∧
      ∀ (s' : Shared) (p : Addr) (out : List Value) (c : Nat), (∀ b o, s.heap.get? b = some o → s'.heap.get? b = some o) → s'.gens = s.gens → s'.os = s.os → s.heap.objs.size ≤ p → s'.heap.get? p = some (seqObj "list" out.toArray c) → out.length = bs.length → PySem.W.EachIs R out (bs.mergeSort (PySem.W.dataLe false enc)) → Q (.ref p) s') :
    wpAny (model P w) A (call (.builtin "sorted") [.ref a]) Q E s := by
  obtain ⟨o, ho, hex, hd⟩ := S.ob
  have hsz := rows_size S.rows
  have hfew := S.few
  refine Calls.call_function_entry kind_sorted plain_sorted entry_sorted (args_sorted1 _) ?_
  unfold Builtin.«sorted»
  refine wpAny_bind (m := checkCount "sorted" 1 1 _) (wpAny_pure ?_)
  refine wpAny_bind (collect_set (A := A.in1) hh ⟨o, ho, hex.1, hd⟩ S.fits (by unfold scanBound; omega) S.tab.ris S.led fun s1 vs k1 hz g1 o1 pm => ?_)
  have hes : es.toList.map (·.2) = L.map fun q => Value.ref q.1 := by
    rw [S.rows, List.map_map] <;> rfl
  rw [hes] at pm
  obtain ⟨L1, rfl, pL⟩ := perm_lift pm L rfl
  obtain ⟨bs, e1, e2, al, so, dp, fin⟩ := pick L1 pL
  have hvl : (L1.map fun p => Value.ref p.1).length < 64 := by rw [List.length_map, pL.length_eq]; exact hfew
  generalize L1.map (fun p => Value.ref p.1) = vs at e1 e2 hvl
  have hline : vs.length ≤ sizeLine := by rw [sizeLine_eq]; omega
  refine wpAny_bind (wpAny_newList ?_ hline)
  have hoL : (s1.heap.push (seqObj "list" vs.toArray 0)).get? s1.heap.objs.size = some (seqObj "list" vs.toArray 0) := Heap.get?_push_size _ rfl
  have old : ∀ b o, s.heap.get? b = some o → (PySem.W.sortingHeap (s1.heap.push (seqObj "list" vs.toArray 0)) s1.heap.objs.size vs).get? b = some o := fun b o e => by
    have e1 := k1 b o e
    exact PySem.W.sortingHeap_old (Nat.ne_of_lt (Heap.lt_size e1)) (Heap.get?_push_of_some _ e1)
  have eb : PySem.W.EachIs (fun v b => ∃ as, Reads (PySem.W.sortingHeap (s1.heap.push (seqObj "list" vs.toArray 0)) s1.heap.objs.size vs) v (enc b) as) vs bs := e2.mono fun _ _ ⟨as, r⟩ => ⟨as, PyProof.Rows.Reads.keeps old r⟩
  refine wpAny_bind (wpAny_holding (wpAny_call_entry slot_list_sort ⟨_, hoL, rfl⟩ entry_list_sort ?body (args_list_sort _)))
  case body =>
    refine PySem.W.list_sort_vals (s := { s1 with heap := s1.heap.push (seqObj "list" vs.toArray 0) }) hoL (PySem.W.SortsAt.data (s := { s1 with heap := PySem.W.sortingHeap (s1.heap.push (seqObj "list" vs.toArray 0)) s1.heap.objs.size vs }) (PySem.W.each_map (R := fun v d => ∃ as, Reads (PySem.W.sortingHeap (s1.heap.push (seqObj "list" vs.toArray 0)) s1.heap.objs.size vs) v d as) enc eb) al so (PySem.W.bound_map dp)) hline ⟨_, rfl, wpAny_pure ⟨_, rfl, ?_⟩⟩
    obtain ⟨c, hc⟩ := sortedHeap_at (vs := vs) (out := (PySem.W.sortVals (PySem.W.dataKind (PySem.W.sortingHeap (s1.heap.push (seqObj "list" vs.toArray 0)) s1.heap.objs.size vs) (bs.map enc)) false vs vs).toArray) hoL
    refine fin _ s1.heap.objs.size _ c (fun b u e => ?_) g1 o1 hz hc (by rw [PySem.W.sortVals_length false rfl]; exact e1.length) (PySem.W.sortVals_data false e1 eb al)
    have q := k1 b u e
    have hlt := Heap.lt_size q
    show (PyProof.Rows.sortedHeap (s1.heap.push (seqObj "list" vs.toArray 0)) s1.heap.objs.size vs _).get? b = some u
    rw [sortedHeap_old (Nat.ne_of_lt hlt) (by rw [size_push']; exact Nat.lt_succ_of_lt hlt)]
    exact Heap.get?_push_of_some _ q
end
theorem allAlike_of_mem : ∀ {xs : List PV}, (∀ x ∈ xs, ∀ y ∈ xs, alike x y = true) → allAlike xs = true
  | [], _ => rfl
  | x :: xs, h => by
    simp only [allAlike, Bool.and_eq_true, List.all_eq_true]
    exact ⟨⟨fun y hy => ⟨h x List.mem_cons_self y (List.mem_cons_of_mem _ hy), h y (List.mem_cons_of_mem _ hy) x List.mem_cons_self⟩, h x List.mem_cons_self x List.mem_cons_self⟩, allAlike_of_mem fun a ha b hb => h a (List.mem_cons_of_mem _ ha) b (List.mem_cons_of_mem _ hb)⟩
theorem keyPs_map : ∀ xs : List PV, keyPs xs = xs.map keyP
  | [] => rfl
  | x :: xs => by rw [keyPs, keyPs_map xs, List.map_cons]
section
variable {G : Gx} {F : Fn} {wn : Nat} {hot : List Nat} {B : Bs} {W : WX} {X : Cx} {a : Expr} {ia : E} {pos : Pos}
/-- the keys L stand for some of xs, and all of them are there -/
def Stand (G : Gx) (Om : Addr → Prop) (H : Hp) (xs : List PV) (L : List Ky) : Prop := (∀ q ∈ L, ∃ x ∈ xs, keyP x = q.2 ∧ Rep G Om H x (.ref q.1)) ∧ (∀ x ∈ xs, keyP x ∈ L.map (·.2)) ∧ (L.map (·.2)).Nodup
/-- set(xs) -/
def rSetK (X : Cx) (G : Gx) : List V → Hp → VK → Prop := fun vs H Q => ∃ Om xs v, vs = [v] ∧ Rep G Om H (.lst xs) v ∧ (∀ x ∈ xs, tupKey x = true) ∧ (dedup [] xs).length < 64 ∧
  ∀ p L, H p = none → Stand G Om H xs L → Q (.ref p) (upd H p (KyO X.prog X.w p L))
theorem tup_ky {pins : List (Addr × Obj)} {σ : L2.St} {H : Hp} {s : Shared} {Om : Addr → Prop} (I : L2.Inv X pins σ H s) (hK : X.K = G.K) {x : PV} {v : V} {u : Value} (hx : tupKey x = true) (r : Rep G Om H x v) (rv : RelV v u) : ∃ p, v = .ref p ∧ u = .ref p ∧ KyAt s.heap (p, keyP x) := by
  have hn := Rep.key I hK x v u (tup_part hx) r rv
  have hd := tup_depth hx
  cases x with
  | tup ts =>
    obtain ⟨p, e1, e2⟩ := Rep.tupAt r rv
    exact ⟨p, e1, e2, by rw [← e2]; exact hn, hd⟩
  | _ => simp [tupKey] at hx
theorem keys_of {pins : List (Addr × Obj)} {σ : L2.St} {H : Hp} {s : Shared} {Om : Addr → Prop} (I : L2.Inv X pins σ H s) (hK : X.K = G.K) : ∀ {xs : List PV} {ws : List V} {its : List Value}, (∀ x ∈ xs, tupKey x = true) → Reps G Om H xs ws → Vals ws its →
    ∃ ks : List Ky, its = ks.map (fun p => Value.ref p.1) ∧ ks.map (·.2) = keyPs xs ∧ ∀ q ∈ ks, KyAt s.heap q ∧ ∃ x ∈ xs, keyP x = q.2 ∧ Rep G Om H x (.ref q.1)
  | [], ws, its, _, r, rv => by
    rw [show ws = [] from r] at rv
    cases rv
    exact ⟨[], rfl, rfl, fun q hq => (by cases hq)⟩
  | x :: xs, ws, its, hx, r, rv => by
    obtain ⟨v, t, rfl, r1, r2⟩ := r
    cases rv with
    | cons rv1 rv2 =>
      obtain ⟨ks, e1, e2, e3⟩ := keys_of I hK (fun y hy => hx y (List.mem_cons_of_mem _ hy)) r2 rv2
      obtain ⟨p, ev, eu, hk⟩ := tup_ky I hK (hx x List.mem_cons_self) r1 rv1
      refine ⟨(p, keyP x) :: ks, by rw [List.map_cons, e1, eu], by rw [List.map_cons, e2, keyPs], fun q hq => ?_⟩
      rcases List.mem_cons.mp hq with rfl | hq
      · exact ⟨hk, x, List.mem_cons_self, rfl, ev ▸ r1⟩
      · obtain ⟨c1, y, hy, c2⟩ := e3 q hq
        exact ⟨c1, y, List.mem_cons_of_mem _ hy, c2⟩
theorem cr_setK (hK : X.K = G.K) (hc : X.calm = true) (hu : X.A.units + 80 < cLine) : CallR X (.type "set") (rSetK X G) := by
  intro pins s σ H vs us Q I rx ⟨Om, xs, v, e, r, ht, hd, q⟩
  subst e
  obtain ⟨l, ws, rfl, n, hH, rs⟩ := r
  obtain ⟨u, rfl, ru⟩ := vals1 rx
  cases ru
  obtain ⟨z, its, c0, rv, hl, eo⟩ := I.lstM hH
  obtain ⟨ks, e1, e2, e3⟩ := keys_of I hK ht rs rv
  have pk : ∀ x ∈ xs, partKey x = true := fun x hx => tup_part (ht x hx)
  obtain ⟨dn, dm⟩ := dedup_ok (acc := []) (fun x hx => by cases hx) pk List.nodup_nil
  refine callKy ks (I.ok.hd hc) ⟨_, eo, rfl, _, rfl⟩ (by simpa using e1) (fun p hp => (e3 p hp).1) (fun l nd hl => ?_) (by omega) fun h' tk L es ep t R g k => ?_
  · have := few_of (m := keyPs (dedup [] xs)) nd fun k hk => by
      have h1 := hl k hk
      rw [e2, keyPs_map] at h1
      obtain ⟨x, hx, rfl⟩ := List.mem_map.mp h1
      rw [keyPs_map]
      exact List.mem_map.mpr ⟨x, (dm x).mpr (.inr hx), rfl⟩
    rw [keyPs_map, List.length_map] at this
    omega
  · have hn : H s.heap.objs.size = none := I.hok.fresh (Nat.le_refl _)
    refine ⟨.ref s.heap.objs.size, _, I.laid (t' := tk) k (Nat.le_refl _) (kyO_ok R.bare), rfl, q _ L hn ⟨fun p hp => (e3 p (List.mem_of_mem_take (g.sub p hp))).2, fun x hx => ?_, R.nd⟩⟩
    have h1 : keyP x ∈ ks.map (·.2) := by rw [e2, keyPs_map]; exact List.mem_map.mpr ⟨x, hx, rfl⟩
    obtain ⟨p, hp, e⟩ := List.mem_map.mp h1
    rw [← e]
    exact g.all p (by rw [List.take_length]; exact hp)
/-- sorted(s), s such a set -/
def rSortK (X : Cx) (G : Gx) : List V → Hp → VK → Prop := fun vs H Q => ∃ Om xs p L, OmOk Om H ∧ vs = [V.ref p] ∧ H p = some (KyO X.prog X.w p L) ∧ Stand G Om H xs L ∧ (∀ x ∈ xs, tupKey x = true) ∧ sortable xs = true ∧
  ∀ v H', Keep none1 H H' → Rep G Om H' (.lst (sortBy pyLt [] (dedup [] xs))) v → FreshR H H' (.lst (sortBy pyLt [] (dedup [] xs))) v → Q v H'
theorem picks {pins : List (Addr × Obj)} {σ : L2.St} {H : Hp} {s : Shared} {Om : Addr → Prop} (I : L2.Inv X pins σ H s) (hK : X.K = G.K) {xs : List PV} (da : ∀ x ∈ xs, isData x = true) : ∀ {L : List Ky}, (∀ q ∈ L, ∃ x ∈ xs, keyP x = q.2 ∧ Rep G Om H x (.ref q.1)) →
    ∃ ys : List PV, PySem.W.EachIs (fun u x => ∃ w, RelV w u ∧ Rep G Om H x w) (L.map fun p => Value.ref p.1) ys ∧ PySem.W.EachIs (fun u x => ∃ as, Reads s.heap u (dataP x) as) (L.map fun p => Value.ref p.1) ys ∧ ys.map keyP = L.map (·.2) ∧ ∀ y ∈ ys, y ∈ xs
  | [], _ => ⟨[], .nil, .nil, rfl, fun y hy => by cases hy⟩
  | q :: L, h => by
    obtain ⟨ys, e1, e2, e3, e4⟩ := picks I hK da (L := L) fun p hp => h p (List.mem_cons_of_mem _ hp)
    obtain ⟨x, hx, ek, r⟩ := h q List.mem_cons_self
    refine ⟨x :: ys, .cons (show ∃ w, RelV w (Value.ref q.1) ∧ Rep G Om H x w from ⟨V.ref q.1, rfl, r⟩) e1, .cons (cmp_reads I hK (da x hx) r rfl) e2, by rw [List.map_cons, List.map_cons, e3, ek], fun y hy => ?_⟩
    rcases List.mem_cons.mp hy with e | hy
    · rw [e]; exact hx
    · exact e4 y hy
theorem cr_sortK (hK : X.K = G.K) (hc : X.calm = true) (hu : X.A.units + 80 < cLine) : CallR X (.builtin "sorted") (rSortK X G) := by
  intro pins s σ H vs us Q I rx ⟨Om, xs, p, L, om, e, hp, ⟨st1, st2, st3⟩, ht, so, q⟩
  subst e
  obtain ⟨u, rfl, ru⟩ := vals1 rx
  cases ru
  have pk : ∀ x ∈ xs, partKey x = true := fun x hx => tup_part (ht x hx)
  have so2 := so
  simp only [sortable, Bool.and_eq_true] at so2
  obtain ⟨⟨⟨h1, h2⟩, h3⟩, h4⟩ := so2
  have da : ∀ x ∈ xs, isData x = true := areData_mem h1
  have al := allAlike_mem h2
  have R0 : Ky0 X.prog X.w s.heap p L := (I.hok p _ hp).1
  obtain ⟨es, ep, t, R⟩ := R0.full fun q hq => by
    obtain ⟨x, hx, ek, r⟩ := st1 q hq
    obtain ⟨p', e1, e2, hk⟩ := tup_ky I hK (ht x hx) r rfl
    cases e1
    rw [ek] at hk
    exact hk
  have few := R.few
  obtain ⟨dn, dm⟩ := dedup_ok (acc := []) (fun x hx => by cases hx) pk List.nodup_nil
  have hcl := cap_line
  refine sortedKy (enc := dataP) (R := fun u x => ∃ w, RelV w u ∧ Rep G Om H x w) R (I.ok.hd hc) fun L1 pL => ?_
  obtain ⟨ys, e1, e2, e3, e4⟩ := picks (Om := Om) I hK da (L := L1) fun q hq => st1 q (pL.mem_iff.mp hq)
  have ysl : ys.length = L.length := by
    have := congrArg List.length e3
    rw [List.length_map, List.length_map] at this
    rw [this, pL.length_eq]
  have ynd : ys.Nodup := nodup_of_map (f := keyP) (by rw [e3]; exact (pL.map (·.2)).nodup_iff.mpr st3)
  have yp : ys.Perm (dedup [] xs) := (List.perm_ext_iff_of_nodup ynd dn).mpr fun z => by
    rw [dm z]
    constructor
    · exact fun hz => .inr (e4 z hz)
    · rintro (hz | hz)
      · cases hz
      · have k1 := (pL.map (·.2)).mem_iff.mpr (st2 z hz)
        rw [← e3] at k1
        obtain ⟨y, hy, ek⟩ := List.mem_map.mp k1
        rw [← keyP_inj y z (pk y (e4 y hy)) (pk z hz) ek]
        exact hy
  have dal : ∀ x ∈ dedup [] xs, ∀ y ∈ dedup [] xs, alike x y = true := fun x hx y hy => al x (by simpa using (dm x).mp hx) y (by simpa using (dm y).mp hy)
  have dpk : ∀ x ∈ dedup [] xs, partKey x = true := fun x hx => pk x (by simpa using (dm x).mp hx)
  refine ⟨ys, e1, e2, fun d hd d' hd' => ?_, .inl fun d hd => ?_, fun b hb => ?_, fun s' p' out c k g o hz hg ho eo => ?_⟩
  · obtain ⟨x, hx, rfl⟩ := List.mem_map.mp hd
    obtain ⟨y, hy, rfl⟩ := List.mem_map.mp hd'
    have aa := (alikeAll_of h2).1
    rw [dataPs_map] at aa
    exact aa _ (List.mem_map.mpr ⟨x, e4 x hx, rfl⟩) _ (List.mem_map.mpr ⟨y, e4 y hy, rfl⟩)
  · obtain ⟨x, hx, rfl⟩ := List.mem_map.mp hd
    have h5 := List.all_eq_true.mp h4 x (e4 x hx)
    have h6 := ht x (e4 x hx)
    cases x with
    | tup ts =>
      cases ts with
      | nil => simp at h5
      | cons z ts => exact ⟨_, _, rfl⟩
    | _ => simp [tupKey] at h6
  · have q1 := depths_mem (e4 b hb)
    have q2 := data_depth b
    have q3 := blt_lt h3
    omega
  · have eo : PySem.W.EachIs _ out (ys.mergeSort leP) := eo
    have dal2 : allAlike (dedup [] xs) = true := allAlike_of_mem dal
    rw [sort_perm yp dal dpk, ← sortBy_eq dal2] at eo
    obtain ⟨ws', g1, g2⟩ := each_from eo
    have hn : H p' = none := I.hok.fresh hz
    have hlen : ws'.length ≤ sizeLine := by
      rw [g2.length, ho, ysl, sizeLine_eq]
      omega
    have J : L2.Inv X pins σ (upd H p' (.lst ws')) { s with heap := s'.heap, gens := s'.gens, drawn := s'.drawn, toks := s'.toks } :=
      I.call (ch := []) (Un.laid k hz hn) (I.hok.laid k hz ⟨hlen, out, c, g2, hg⟩) (by rw [g]; exact I.bare) (fun _ z => nomatch z)
    have es' : s' = { s with heap := s'.heap, gens := s'.gens, drawn := s'.drawn, toks := s'.toks } := by
      cases s'
      cases s
      cases o
      rfl
    rw [es']
    exact ⟨.ref p', _, J, rfl, q _ _ (keep_new hn) (Rep.lstNew om hn g1) (FreshR.lst hn)⟩
theorem tE_sset {i : E} {σ : L2.St} {H : Hp} {Q : VK} (h : tE G F hot B W (.op .sset (.cons i .nil)) σ H Q) : tCB (rSortK X G) (tCons (tCB (rSetK X G) (tCons (tE G F hot B W i) tNil)) tNil) σ H Q := by
  refine tE_mono (fun v H1 h => ?_) (tE_op1 h)
  obtain ⟨Om, x, pv, v', om, e, r, sem, q⟩ := one_sem h fun pvs pv e => by
    cases pvs with
    | nil => cases e
    | cons x t => cases t with
      | nil => exact ⟨x, rfl⟩
      | cons y t => cases x <;> cases e
  cases e
  cases x <;> simp only [opSem, opSset] at sem <;> first | (cases sem; done) | skip
  rename_i xs
  split at sem
  case isFalse => cases sem
  split at sem
  case isFalse => cases sem
  split at sem
  case isFalse => cases sem
  split at sem
  case isFalse => cases sem
  rename_i c1 c2 c3 c4
  cases sem
  have ht : ∀ x ∈ xs, tupKey x = true := List.all_eq_true.mp c1
  refine ⟨Om, xs, v, rfl, r, ht, blt_lt c3, fun p L hp st => ?_⟩
  have kp : Keep none1 H1 (upd H1 p (KyO X.prog X.w p L)) := keep_new hp
  have nn : ∀ b, none1 b → ∃ o, H1 b = some o ∧ Own1 o := fun b z => z.elim
  refine ⟨Om, xs, p, L, fun b z => (om b z).imp fun o e => ⟨kp b o e.1 fun z => z, e.2⟩, rfl, upd_same, ⟨fun q hq => ?_, st.2.1, st.2.2⟩, ht, c2, fun u H' k2 r2 f2 => q u H' (Keep.trans kp k2 (fun _ z => z) fun _ z => z.elim) r2 fun _ => ?_⟩
  · obtain ⟨x, hx, ek, r⟩ := st.1 q hq
    exact ⟨x, hx, ek, Rep.new (W := none1) hp r⟩
  · obtain ⟨b, vs, e1, e2, e3⟩ := f2
    refine ⟨b, vs, e1, ?_, e3⟩
    cases z : H1 b with
    | none => rfl
    | some o => rw [kp b o z (fun z => z)] at e2; cases e2
theorem pE_sset {p1 p2 pos2 : Pos} (hK : X.K = G.K) (hw : X.w = G.w) (hu : X.A.units + 80 < cLine) (hc : X.calm = true) (hms : X.mg "sorted" = none) (hmt : X.mg "set" = none) (hgs : Gl X "sorted") (hgt : Gl X "set") (ha : PE X a (tE G F hot B W ia))
    (h1 : starEach [a] X.env = [(false, eval a X.env)] := by rfl) (h2 : starEach [.Call (.Name "set" p2) [a] [] pos2] X.env = [(false, eval (.Call (.Name "set" p2) [a] [] pos2) X.env)] := by rfl) :
    PE X (.Call (.Name "sorted" p1) [.Call (.Name "set" p2) [a] [] pos2] [] pos) (tE G F hot B W (.op .sset (.cons ia .nil))) :=
  PE.imp (pe_callB (cr_sortK hK hc hu) hgs hms boot_sorted' (pa_cons (pe_callTy (cr_setK hK hc hu) hgt hmt boot_set' (pa_cons ha pa_nil h1) (by decide) (by decide) h1 rfl) pa_nil h2) (by decide) (by decide) h2 rfl) fun _ _ _ h => tE_sset h
end
end Sl

/-! Ev38: the head's facts: defs, classes of own errors. -/
namespace Sl
open PySem PySem.Spec PyProof.Rows L2
/-! ### an own error with super().__init__: what the head looks at -/
structure SuD where
  x : Str
  f : Str
  qual : Str
  B : String
  newId : String
  initId : String
  p1 : Pos
  p2 : Pos
  q1 : Pos
  q2 : Pos
  q3 : Pos
  q4 : Pos
  q5 : Pos
  q6 : Pos
  q7 : Pos
  q8 : Pos
  q9 : Pos
  q10 : Pos
abbrev SuW : Type := Option (Str × Str × Arguments × FuncBody × Scope × Addr × Addr)
def suObs (K : PySem.W.Frag) (x : Str) : SuW := match K.lookup (He.ma K (He.ga K x) "__init__") with
  | some ⟨_, _, .func fd, _⟩ => some (fd.name, fd.qualname, fd.params, fd.body, fd.scope, fd.globals, fd.builtins)
  | _ => none
def SuD.val (d : SuD) : SuW := some ("__init__", d.qual, suA d.f d.p1 d.p2, .stmts (suB d.f d.q1 d.q2 d.q3 d.q4 d.q5 d.q6 d.q7 d.q8 d.q9 d.q10), suS d.f, mainGlobals, builtinsNs)
def tailOf (B : String) : List Value := [.type B, .type "Exception", .type "BaseException", .type "object"]
def fileIn (K : PySem.W.Frag) (c : Addr) (f : Str) : Bool := match K.lookup c with
  | some ⟨_, _, .fields vs, _⟩ => (match (vs : Array Value)[2]? with
    | some (Value.str file _) => f == file
    | _ => false)
  | _ => false
theorem fileIn_ok {K : PySem.W.Frag} {c : Addr} {f : Str} (h : fileIn K c f = true) : ∃ ccl cdd vs ccs file tf, K.lookup c = some ⟨ccl, cdd, .fields vs, ccs⟩ ∧ vs[2]? = some (.str file tf) ∧ (f == file) = true := by
  unfold fileIn at h
  split at h
  · rename_i q
    split at h
    · rename_i q2
      exact ⟨_, _, _, _, _, _, q, q2, h⟩
    · cases h
  · cases h
def cellIn (K : PySem.W.Frag) (c D : Addr) : Bool := match K.lookup c with
  | some ⟨_, _, .cell (some (.ref b)), _⟩ => decide (b = D)
  | _ => false
theorem cellIn_ok {K : PySem.W.Frag} {c D : Addr} (h : cellIn K c D = true) : ∃ cl cld csl, K.lookup c = some ⟨cl, cld, .cell (some (.ref D)), csl⟩ := by
  unfold cellIn at h
  split at h
  · rename_i q
    rw [of_decide_eq_true h] at q
    exact ⟨_, _, _, q⟩
  · cases h
/-- its code, its cell, its defaults -/
def suFd (P : Program) (K : PySem.W.Frag) (D : Addr) (fd : FuncData) : Bool := match fd.defaults, fd.kwdefaults, fd.closure, fd.code with
  | .none, .none, [(nm, cc)], .ref cda => decide (nm = "__class__") && (PySem.W.codeIn K (.ref cda) fd.qualname && (fileIn K cda P.main.file && cellIn K cc D))
  | _, _, _, _ => false
def suFn (P : Program) (K : PySem.W.Frag) (d : SuD) : Bool := match K.lookup (He.ma K (He.ga K d.x) "__init__") with
  | some ⟨_, _, .func fd, _⟩ => suFd P K (He.ga K d.x) fd
  | _ => false
def suRest (K : PySem.W.Frag) (d : SuD) : Bool :=
  let C := He.ga K d.x
  He.eqO (PySem.W.findIn K (.ref C) "__init__") (some (some (.ref (He.ma K C "__init__")))) && (PySem.W.isFn K (.ref (He.ma K C "__init__")) && (PySem.W.excInitIn K C (tailOf d.B) d.newId && (PySem.W.excOver K C (tailOf d.B) &&
    (decide (PySem.W.subIn K (.ref C) (.type d.B) = some true) && (He.eqO (PySem.W.ks_superIn K C C "__init__") (some (some (.builtin d.initId))) && (He.eqO (PySem.W.findIn K (.ref C) "__setattr__") (some (some (.builtin "object.__setattr__"))) &&
    (decide (PySem.W.takerIn K C d.f = some none) && (PySem.W.hasDictIn K C && (decide (PySem.W.mroIn K C (.ref C) = some true) && He.eqO (PySem.W.nsIn K cStatics "thirdparty.any") (some none))))))))))
theorem supC_of {P : Program} {K : PySem.W.Frag} {mg : Str → Option Value} {d : SuD} (e : suObs K d.x = d.val) (c1 : suFn P K d = true) (c2 : suRest K d = true) (FB : ExcBaseFacts d.B d.newId d.initId (tailOf d.B)) (KF : PySem.W.KxsFacts d.B d.initId) (SF : StoreFacts d.B (tailOf d.B) "object.__setattr__" "object")
    (hs : mg "super" = none) (ht : (P.main.scope.names.lookup ("super" : Str)).isSome = false) (nf : (("self" : Str) == d.f) = false) (nd : (d.f == ("__debug__" : Str)) = false) (ks : (suS d.f).names.lookup ("super" : Str) = some .globalImplicit) (kc : (suS d.f).names.lookup ("__class__" : Str) = some .free)
    (bd : ∀ (qual : Str) (body : List Stmt) (cc : Addr) (doc pm cdv ct : Value) (an : Option Addr) (p1 p2 : Pos) (a b : Value), bindArgs (PySem.W.fnX "__init__" qual (suA d.f p1 p2) body (suS d.f) [("__class__", cc)] .none .none doc pm an cdv ct) ⟨[a, b], []⟩ = pure [((PySem.Str.ofString "self" : Str), a), (d.f, b)])
    (ev : ∀ (qual : Str) (body : List Stmt) (cc : Addr) (doc pm cdv ct : Value) (an : Option Addr), SuEv (PySem.W.fnX "__init__" qual (suA d.f d.p1 d.p2) body (suS d.f) [("__class__", cc)] .none .none doc pm an cdv ct) d.f d.q1 d.q2 d.q3 d.q4 d.q5) : SupC P K mg (He.ga K d.x) d.f := by
  obtain ⟨r1, r⟩ := He.ba c2
  obtain ⟨r2, r⟩ := He.ba r
  obtain ⟨r3, r⟩ := He.ba r
  obtain ⟨r4, r⟩ := He.ba r
  obtain ⟨r5, r⟩ := He.ba r
  obtain ⟨r6, r⟩ := He.ba r
  obtain ⟨r7, r⟩ := He.ba r
  obtain ⟨r8, r⟩ := He.ba r
  obtain ⟨r9, r⟩ := He.ba r
  obtain ⟨r10, r11⟩ := He.ba r
  refine ⟨⟨d.B, d.newId, d.initId, tailOf d.B, FB, KF, SF, r3, r4, of_decide_eq_true r5, He.eqO_ok r6⟩, He.eqO_ok r7, of_decide_eq_true r8, r9, of_decide_eq_true r10, He.eqO_ok r11, hs, ht, nf, nd, ks, kc, bd, ?_⟩
  unfold suObs at e
  unfold suFn at c1
  cases q : K.lookup (He.ma K (He.ga K d.x) "__init__") with
  | none => rw [q] at e; cases e
  | some o =>
    obtain ⟨oc, od, dt, osl⟩ := o
    rw [q] at e c1
    cases dt with
    | func fd =>
      obtain ⟨n1, n2, n3, n4, n5, n6, n7, n8, n9, n10, n11, n12, n13, n14, n15⟩ := fd
      have e : (some (n1, n2, n3, n4, n5, n6, n15) : SuW) = d.val := e
      simp only [SuD.val, Option.some.injEq, Prod.mk.injEq] at e
      obtain ⟨h1, h2, h3, h4, h5, h6, h7⟩ := e
      subst h1 h2 h3 h4 h5 h6 h7
      have c1 : suFd P K (He.ga K d.x) ⟨_, _, _, _, _, _, n7, n8, n9, n10, n11, n12, n13, n14, _⟩ = true := c1
      unfold suFd at c1
      split at c1
      · rename_i nm cc cda e1 e2 e3 e4
        simp only at e1 e2 e3 e4
        subst e1 e2 e3 e4
        obtain ⟨d1, c1⟩ := He.ba c1
        obtain ⟨d2, c1⟩ := He.ba c1
        obtain ⟨d3, d4⟩ := He.ba c1
        have en : nm = "__class__" := of_decide_eq_true d1
        subst en
        obtain ⟨ccl, cdd, vs, ccs, file, tf, q2, q3, q4⟩ := fileIn_ok d3
        obtain ⟨cl, cld, csl, q5⟩ := cellIn_ok d4
        exact ⟨_, cc, cda, oc, ccl, cl, n10, n11, n14, od, cdd, cld, n12, osl, ccs, csl, vs, file, _, tf, d.p1, d.p2, d.q1, d.q2, d.q3, d.q4, d.q5, d.q6, d.q7, d.q8, d.q9, d.q10, He.eqO_ok r1, r2, q, d2, q2, q3, q4, q5, ev _ _ _ _ _ _ _ _⟩
      · cases c1
    | _ => cases e
/-! ### the hook -/
def asE (n : Nat) (g : Addr → Option Obj) : List Addr := cStatics :: He.asD g n
abbrev AlE : Type := He.AlD × List SuW × Bool
def obsE (fa : List He.Fa) (fn : List He.DefD) (su : List SuD) (ex : PySem.W.Frag → List Bool) (K : PySem.W.Frag) : AlE := (He.obsD fa fn K, su.map fun d => suObs K d.x, (ex K).all id)
def valE (fn : List He.DefD) (su : List SuD) : AlE := (He.valD fn, su.map SuD.val, true)
def SaysE (fa : List He.Fa) (fn : List He.DefD) (su : List SuD) (ex : PySem.W.Frag → List Bool) (K : PySem.W.Frag) : Prop := obsE fa fn su ex K = valE fn su
def hookE (n : Nat) (fa : List He.Fa) (fn : List He.DefD) (su : List SuD) (ex : PySem.W.Frag → List Bool) : PySem.W.Hook where
  α := AlE
  obs := fun s => obsE fa fn su ex (He.frG s.heap.get? (asE n s.heap.get?))
  val := fun _ => valE fn su
  says := fun _ h => ∃ K : PySem.W.Frag, K.In h ∧ SaysE fa fn su ex K
  of := fun _ _ e => ⟨_, He.frG_in, e⟩
  keeps := fun _ _ _ ⟨K, hK, c⟩ k => ⟨K, PySem.W.Frag.In.keeps hK k, c⟩
def obE (n : Nat) (fa : List He.Fa) (fn : List He.DefD) (su : List SuD) (ex : PySem.W.Frag → List Bool) (s : PySem.W.SharedT) : AlE := obsE fa fn su ex (He.frG (HandSHeadRun.getT s) (asE n (HandSHeadRun.getT s)))
theorem obE_eq (n : Nat) (fa : List He.Fa) (fn : List He.DefD) (su : List SuD) (ex : PySem.W.Frag → List Bool) (s : PySem.W.SharedT) : obE n fa fn su ex s = (hookE n fa fn su ex).obs s.abs := by
  have e : HandSHeadRun.getT s = s.abs.heap.get? := funext (HandSHeadRun.getT_eq s)
  unfold obE
  rw [e] <;> rfl
section
variable {fa : List He.Fa} {fn : List He.DefD} {su : List SuD} {ex : PySem.W.Frag → List Bool} {K : PySem.W.Frag}
theorem SaysE.d (c : SaysE fa fn su ex K) : He.SaysD fa fn K := congrArg (fun z : AlE => z.1) c
theorem SaysE.suAt (c : SaysE fa fn su ex K) (i : Nat) {d : SuD} (h : su[i]? = some d := by rfl) : suObs K d.x = d.val := by
  have e : (su.map fun d => suObs K d.x) = su.map SuD.val := congrArg (fun z : AlE => z.2.1) c
  have e2 : (su.map fun d => suObs K d.x)[i]? = (su.map SuD.val)[i]? := by rw [e]
  rw [List.getElem?_map, List.getElem?_map, h] at e2
  exact Option.some.inj e2
theorem SaysE.exAt (c : SaysE fa fn su ex K) (i : Nat) {b : Bool} (h : (ex K)[i]? = some b := by rfl) : b = true := by
  have e : (ex K).all id = true := congrArg (fun z : AlE => z.2.2) c
  exact List.all_eq_true.mp e b (List.mem_of_getElem? h)
theorem SaysE.df {h : Heap} {mg : Str → Option Value} (c : SaysE fa fn su ex K) (X : K.In h) (G : h.Ns mainGlobals mg) {x : Str} {st : Stmt} {ps : List Str} (i j : Nat) (hd : fn[i]? = some ⟨(x, none), x, x, defArgs st, defBody st, defScope st, [], []⟩ := by rfl) (hf : fa[j]? = some (.glo x) := by rfl)
    (hb : ∀ (kV doc pm : Value) (an : Option Addr) (cdv ct : Value) (us : List Value), us.length = ps.length → bindArgs (PySem.W.fnOf x x (defArgs st) (defBody st) (defScope st) .none kV doc pm an cdv ct) ⟨us, []⟩ = pure (ps.zip us)) : Df1 K mg x st ps := by
  obtain ⟨fd, F⟩ := c.d.def_ i hd
  have F2 := Fun.ofD F
  exact ⟨⟨fd, F2, F2.binds hb⟩, He.glo_ok X G (c.d.fact j hf)⟩
theorem SaysE.no {h : Heap} {mg : Str → Option Value} (c : SaysE fa fn su ex K) (X : K.In h) (G : h.Ns mainGlobals mg) {x : Str} (j : Nat) (hf : fa[j]? = some (.free x) := by rfl) : mg x = none := He.free_ok X G (c.d.fact j hf)
theorem SaysE.yes {h : Heap} {mg : Str → Option Value} (c : SaysE fa fn su ex K) (X : K.In h) (G : h.Ns mainGlobals mg) {x : Str} (j : Nat) (hf : fa[j]? = some (.glo x) := by rfl) : mg x = some (.ref (He.ga K x)) := He.glo_ok X G (c.d.fact j hf)
end
def ecB (K : PySem.W.Frag) (x : Str) : Bool := PySem.W.keepIn K (.ref (He.ga K x)) && (decide (PySem.W.subIn K (.ref (He.ga K x)) (.type "BaseException") = some true) && decide (PySem.W.typeIn K (.ref (He.ga K x)) = some (.type "type")))
theorem ecB_ok {K : PySem.W.Frag} {mg : Str → Option Value} {x : Str} (g : mg x = some (.ref (He.ga K x))) (h : ecB K x = true) : Ec K mg x (He.ga K x) := by
  obtain ⟨h1, h⟩ := He.ba h
  obtain ⟨h2, h3⟩ := He.ba h
  exact ⟨g, h1, of_decide_eq_true h2, of_decide_eq_true h3⟩
def slB (K : PySem.W.Frag) (D : Addr) : Bool := decide (PySem.W.findIn K (.ref D) "__getattribute__" = some (some (.builtin "BaseException.__getattribute__"))) && (decide (PySem.W.findIn K (.ref D) "__getattr__" = some none) && (decide (PySem.W.subIn K (.ref D) (.type "BaseException") = some true) && (PySem.W.hasDictIn K D &&
  (decide (PySem.W.findIn K (.ref D) "__class__" = some (some (.builtin "object.__class__"))) && (decide (PySem.W.specialIn K (.builtin "object.__class__") "__get__" = some (some (.builtin "getset_descriptor.__get__"))) && (decide (PySem.W.takesIn K (.builtin "object.__class__") = some true) && decide (PySem.W.mroIn K D (.type "object") = some true)))))))
theorem slB_ok {K : PySem.W.Frag} {D : Addr} (h : slB K D = true) : PySem.W.SlExc K D := by
  obtain ⟨h1, h⟩ := He.ba h
  obtain ⟨h2, h⟩ := He.ba h
  obtain ⟨h3, h⟩ := He.ba h
  obtain ⟨h4, h⟩ := He.ba h
  obtain ⟨h5, h⟩ := He.ba h
  obtain ⟨h6, h⟩ := He.ba h
  obtain ⟨h7, h8⟩ := He.ba h
  exact ⟨of_decide_eq_true h1, of_decide_eq_true h2, of_decide_eq_true h3, h4, of_decide_eq_true h5, of_decide_eq_true h6, of_decide_eq_true h7, of_decide_eq_true h8⟩
theorem any_mem {l : List Nat} {c : Nat} (h : (l.any fun j => Nat.beq j c) = true) : c ∈ l := by
  obtain ⟨j, h1, h2⟩ := List.any_eq_true.mp h
  rw [← Nat.eq_of_beq_eq_true h2]
  exact h1
end Sl

/-! Ev39: the draws of a law: its cells, its box, the next draw. -/
namespace Sl
/-- _law_cells -/
def dCells : Df := ⟨2, 6, [], (.cons (.asg (.new 2) (.or (.op .list (.cons (.op .slH (.cons (.var 0) (.cons (.var 1) .nil))) .nil)) (.lst (.cons (.cst (.int 0)) .nil))))
  (.cons (.for_ (.tup (.cons (.name 3) (.cons (.name 4) .nil))) (.enum (.op .sl (.cons (.var 0) (.cons (.var 1) (.cons (.cst (.int 63)) .nil))))) (.cons (.asg (.name 5) (.op .mod (.cons (.op .int (.cons (.var 3) .nil)) (.cons (.var 1) .nil))))
  (.cons (.asg (.sub 2 (.var 5)) (.ck (.op .add (.cons (.op .ix (.cons (.var 2) (.cons (.var 5) .nil))) (.cons (.op .mul (.cons (.var 4) (.cons (.op .add (.cons (.var 3) (.cons (.cst (.int 2)) .nil))) .nil))) .nil)))))
  .nil)))
  (.cons (.ret (.var 2))
  .nil)))⟩
/-- _law_box -/
def dBox : Df := ⟨2, 3, [], (.cons (.asg (.name 2) (.ite (.op .lt (.cons (.var 1) (.cons (.op .len (.cons (.var 0) .nil)) .nil))) (.op .ix (.cons (.var 0) (.cons (.var 1) .nil))) (.cst (.int 0))))
  (.cons (.ret (.lst (.cons (.op .mul (.cons (.op .abs (.cons (.var 2) .nil)) (.cons (.op .int (.cons (.op .ge (.cons (.op .abs (.cons (.var 2) .nil)) (.cons (.op .pow (.cons (.cst (.int 10)) (.cons (.cst (.int 18)) .nil))) .nil))) .nil)) .nil))) (.cons (.op .add (.cons (.op .add (.cons (.op .mod (.cons (.op .int (.cons (.var 2) .nil)) (.cons (.cst (.int 2305843009213693951)) .nil))) (.cons (.op .mul (.cons (.cst (.int 39373)) (.cons (.var 1) .nil))) .nil))) (.cons (.cst (.int 3175051)) .nil))) (.cons (.cst (.int 0)) .nil)))))
  .nil))⟩
/-- _law_take -/
def dTake : Df := ⟨2, 6, [0], (.cons (.ifs (.op .gt (.cons (.op .ix (.cons (.var 0) (.cons (.cst (.int 0)) .nil))) (.cons (.cst (.int 0)) .nil))) (.cons (.asg (.name 5) (.ck (.op .mod (.cons (.op .int (.cons (.op .ix (.cons (.var 0) (.cons (.cst (.int 0)) .nil))) .nil)) (.cons (.var 1) .nil)))))
  (.cons (.asg (.sub 0 (.cst (.int 0))) (.ck (.op .fdiv (.cons (.op .ix (.cons (.var 0) (.cons (.cst (.int 0)) .nil))) (.cons (.var 1) .nil)))))
  (.cons (.ret (.var 5))
  .nil))) .nil)
  (.cons (.asg (.sub 0 (.cst (.int 2))) (.ck (.op .add (.cons (.op .ix (.cons (.var 0) (.cons (.cst (.int 2)) .nil))) (.cons (.cst (.int 1)) .nil)))))
  (.cons (.asg (.name 2) (.ck (.op .mod (.cons (.op .int (.cons (.op .mul (.cons (.op .add (.cons (.op .ix (.cons (.var 0) (.cons (.cst (.int 1)) .nil))) (.cons (.op .mul (.cons (.cst (.int 48271)) (.cons (.op .ix (.cons (.var 0) (.cons (.cst (.int 2)) .nil))) .nil))) .nil))) (.cons (.op .add (.cons (.cst (.int 39373)) (.cons (.op .ix (.cons (.var 0) (.cons (.cst (.int 2)) .nil))) .nil))) .nil))) .nil)) (.cons (.cst (.int 2147483647)) .nil)))))
  (.cons (.asg (.name 3) (.op .add (.cons (.op .mod (.cons (.op .int (.cons (.var 2) .nil)) (.cons (.cst (.int 40009)) .nil))) (.cons (.cst (.int 7)) .nil))))
  (.cons (.asg (.name 4) (.ck (.op .mod (.cons (.op .int (.cons (.op .mul (.cons (.op .add (.cons (.op .add (.cons (.var 2) (.cons (.op .ix (.cons (.var 0) (.cons (.cst (.int 2)) .nil))) .nil))) (.cons (.op .fdiv (.cons (.op .ix (.cons (.var 0) (.cons (.cst (.int 1)) .nil))) (.cons (.cst (.int 1000003)) .nil))) .nil))) (.cons (.var 3) .nil))) .nil)) (.cons (.cst (.int 2147483629)) .nil)))))
  (.cons (.ret (.op .mod (.cons (.op .int (.cons (.op .fdiv (.cons (.op .mod (.cons (.op .int (.cons (.op .add (.cons (.op .mul (.cons (.var 4) (.cons (.cst (.int 48271)) .nil))) (.cons (.var 2) .nil))) .nil)) (.cons (.cst (.int 2147483587)) .nil))) (.cons (.cst (.int 64)) .nil))) .nil)) (.cons (.var 1) .nil))))
  .nil))))))⟩
theorem iEq_no {a b : Int} (h : a ≠ b) : iEq a b = false := by rw [iEq_eq]; exact decide_eq_false h
theorem big_of {i : Int} (h : i.natAbs < 18446744073709551616) : big64 i = true := Nat.ble_eq_true_of_le h
/-- a box of one number at place 0 -/
theorem box_run (F : Fn) (W : Nat) (m : Int) (r : List PV) : runD F W dBox [.lst (.int m :: r), .int 0] = .ret (.lst [.int ((if m < 0 then -m else m) * bI (!iLt (if m < 0 then -m else m) 1000000000000000000)), .int (m.fmod 2305843009213693951 + 3175051), .int 0]) [] := by
  have h1 : iLt 0 ((r.length : Int) + 1) = true := by
    rw [iLt_eq]
    exact decide_eq_true (by omega)
  have h2 : iEq (2305843009213693951 : Int) 0 = false := rfl
  have h3 : (if iLt m 0 = true then -m else m) = if m < 0 then -m else m := by
    rw [iLt_eq]
    by_cases h : m < 0 <;> simp [h]
  have h4 : ∀ b, big64 (bI b) = true := fun b => by cases b <;> rfl
  simp [runD, dBox, exs, ex, ev, evs, R.bind, R.opt, asgT, getE, setE, opSem, cmpI, opLen, opIx, ixOf, truth, isExn, outsOf, opMul, opAdd, h1, h2, h3, h4, show iLt (-1) 18 = true from rfl, show big64 39373 = true from rfl, show big64 10 = true from rfl, short, cap, List.replicate]
theorem fmod_in {a n : Int} (h : 0 < n) : 0 ≤ a.fmod n ∧ a.fmod n < n := by
  rw [Int.fmod_eq_emod_of_nonneg a (Int.le_of_lt h)]
  exact ⟨Int.emod_nonneg a (by omega), Int.emod_lt_of_pos a h⟩
/-- the next draw -/
theorem take_run (F : Fn) (W : Nat) (a b c n : Int) (hc : 0 ≤ c ∧ c < 4294967296) (hn : 0 < n ∧ n < 1073741824) : ∃ d a' c' : Int, runD F W dTake [.lst [.int a, .int b, .int c], .int n] = .ret (.int d) [.lst [.int a', .int b, .int c']] ∧ 0 ≤ d ∧ d < n := by
  have n0 : iEq n 0 = false := iEq_no (by omega)
  have nb : n.natAbs.blt 1073741824 = true := Nat.ble_eq_true_of_le (by omega)
  have q1 : iEq (2147483647 : Int) 0 = false := rfl
  have q2 : iEq (40009 : Int) 0 = false := rfl
  have q3 : iEq (2147483629 : Int) 0 = false := rfl
  have q4 : iEq (2147483587 : Int) 0 = false := rfl
  have q5 : iEq (64 : Int) 0 = false := rfl
  have q6 : iEq (1000003 : Int) 0 = false := rfl
  have r1 : big64 (48271 : Int) = true := by decide
  have r2 : big64 (39373 + (c + 1)) = true := big_of (by omega)
  have r3 : ∀ x : Int, big64 (x.fmod 40009 + 7) = true := fun x => by
    have := fmod_in (a := x) (n := 40009) (by decide)
    exact big_of (by omega)
  have r4 : (64 : Int).natAbs.blt 1073741824 = true := by decide
  have r5 : (1000003 : Int).natAbs.blt 1073741824 = true := by decide
  by_cases h : 0 < a
  · have h1 : iLt 0 a = true := by rw [iLt_eq]; exact decide_eq_true h
    have d0 := fmod_in (a := a) (n := n) hn.1
    refine ⟨a.fmod n, a.fdiv n, c, ?_, d0.1, d0.2⟩
    simp [runD, dTake, exs, ex, ev, evs, R.bind, R.opt, asgT, getE, setE, opSem, cmpI, opIx, ixOf, truth, isExn, outsOf, List.replicate, h1, n0, nb, frozen, putAt]
  · have h1 : iLt 0 a = false := by rw [iLt_eq]; exact decide_eq_false h
    have d0 := fun x : Int => fmod_in (a := x) (n := n) hn.1
    obtain ⟨o1, e1⟩ : ∃ o1, o1 = ((b + 48271 * (c + 1)) * (39373 + (c + 1))).fmod 2147483647 := ⟨_, rfl⟩
    obtain ⟨o2, e2⟩ : ∃ o2, o2 = ((o1 + (c + 1) + b.fdiv 1000003) * (o1.fmod 40009 + 7)).fmod 2147483629 := ⟨_, rfl⟩
    refine ⟨(((o2 * 48271 + o1).fmod 2147483587).fdiv 64).fmod n, a, c + 1, ?_, (d0 _).1, (d0 _).2⟩
    simp [runD, dTake, exs, ex, ev, evs, R.bind, R.opt, asgT, getE, setE, opSem, cmpI, opIx, ixOf, truth, isExn, outsOf, List.replicate, h1, n0, nb, frozen, putAt, opAdd, opMul, q1, q2, q3, q4, q5, q6, r1, r2, r3, r4, r5, ← e1, ← e2]
def bodyC : Ss := (.cons (.asg (.name 5) (.op .mod (.cons (.op .int (.cons (.var 3) .nil)) (.cons (.var 1) .nil))))
  (.cons (.asg (.sub 2 (.var 5)) (.ck (.op .add (.cons (.op .ix (.cons (.var 2) (.cons (.var 5) .nil))) (.cons (.op .mul (.cons (.var 4) (.cons (.op .add (.cons (.var 3) (.cons (.cst (.int 2)) .nil))) .nil))) .nil)))))
  .nil))
theorem fmod_nat (k m : Nat) (hm : 0 < m) : (k : Int).fmod (m : Int) = ((k % m : Nat) : Int) := by
  rw [Int.fmod_eq_emod_of_nonneg _ (by omega)]
  exact (Int.natCast_emod k m).symm
theorem ixOf_nat {n j : Nat} (h : j < n) : ixOf n (j : Int) = some j := by
  show (if Nat.blt j n = true then some j else none) = some j
  rw [show Nat.blt j n = true from Nat.ble_eq_true_of_le h, if_pos rfl]
theorem loopC (F : Fn) (W : Nat) (x0 : Option PV) (m : Nat) (hm : 0 < m) : ∀ (ys : List Int) (k : Nat) (cs : List Int) (a b c : Option PV), k + ys.length < 1000000 → (ys = [] ∨ cs.length = m) →
    ∃ (cs' : List Int) (a' b' c' : Option PV), forLoop (bindG (.tup (.cons (.name 3) (.cons (.name 4) .nil)))) (exs F W bodyC) (enumFrom k (ys.map .int)) [x0, some (.int m), some (.lst (cs.map .int)), a, b, c] = .ok .next [x0, some (.int m), some (.lst (cs'.map .int)), a', b', c'] ∧ cs'.length = cs.length
  | [], k, cs, a, b, c, _, _ => ⟨cs, a, b, c, rfl, rfl⟩
  | y :: ys, k, cs, a, b, c, hk, hc => by
    have hl : cs.length = m := hc.resolve_left (by simp)
    have hj : k % m < cs.length := by rw [hl]; exact Nat.mod_lt _ hm
    have m0 : iEq (m : Int) 0 = false := iEq_no (by omega)
    have e1 := fmod_nat k m hm
    have e2 : ixOf (cs.map PV.int).length ((k % m : Nat) : Int) = some (k % m) := ixOf_nat (by rw [List.length_map]; exact hj)
    have e2' : ixOf cs.length ((k % m : Nat) : Int) = some (k % m) := ixOf_nat hj
    have e3 : (cs.map PV.int)[k % m]? = some (.int cs[k % m]) := by rw [List.getElem?_map, List.getElem?_eq_getElem hj]; rfl
    have e4 : big64 ((k : Int) + 2) = true := big_of (by simp only [List.length_cons] at hk; omega)
    have turn : (exs F W bodyC [x0, some (.int m), some (.lst (cs.map .int)), some (.int k), some (.int y), c]) = .ok .next [x0, some (.int m), some (.lst ((cs.set (k % m) (cs[k % m] + y * ((k : Int) + 2))).map .int)), some (.int k), some (.int y), some (.int ((k % m : Nat) : Int))] := by
      simp only [bodyC, exs, ex, ev, evs, R.bind, R.opt, asgT, getE, setE, opSem, isExn, m0, e1, Bool.false_eq_true, if_false, opIx, e2, e3, opMul, e4, opAdd, Bool.or_true, if_true, frozen, Option.isSome_some, putAt, List.map_set]
    obtain ⟨cs', a', b', c', q, ql⟩ := loopC F W x0 m hm ys (k + 1) (cs.set (k % m) (cs[k % m] + y * ((k : Int) + 2))) (some (.int k)) (some (.int y)) (some (.int ((k % m : Nat) : Int))) (by simp only [List.length_cons] at hk; omega) (.inr (by rw [List.length_set]; exact hl))
    refine ⟨cs', a', b', c', ?_, by rw [ql, List.length_set]⟩
    simp only [List.map_cons, enumFrom, forLoop, bindG, bindGs, setE]
    show (R.bind (exs F W bodyC [x0, some (.int m), some (.lst (cs.map .int)), some (.int k), some (.int y), c]) _) = _
    rw [turn]
    exact q
theorem cut_map (ns : List Int) (lo hi : Nat) : Sl.cut (ns.map PV.int) lo hi = ((ns.drop lo).take (hi - lo)).map PV.int := by
  unfold Sl.cut
  rw [← List.map_drop, ← List.map_take]
/-- the law's cells: as many as asked, at least one -/
theorem cells_run (F : Fn) (W : Nat) (ns : List Int) (m : Nat) (hm : 0 < m ∧ m < 1000) (hl : ns.length ≤ 63) : ∃ cs : List Int, runD F W dCells [.scr (ns.map .int), .int m] = .ret (.lst (cs.map .int)) [] ∧ cs.length = if ns = [] then 1 else min m ns.length := by
  have c1 : clip ns.length ns.length (some (m : Int)) = min m ns.length := by
    show (if Nat.blt ns.length m = true then ns.length else m) = _
    by_cases h : ns.length < m
    · rw [show Nat.blt ns.length m = true from Nat.ble_eq_true_of_le h, if_pos rfl]; omega
    · rw [show Nat.blt ns.length m = false from by
        cases q : Nat.blt ns.length m with
        | false => rfl
        | true => exact absurd (Nat.le_of_ble_eq_true q) h, if_neg (by simp)]
      omega
  have c0 : clip ns.length 0 (some (m : Int)) = min m ns.length := c1
  have c2 : clip ns.length ns.length (some (63 : Int)) = ns.length := by
    show (if Nat.blt ns.length 63 = true then ns.length else 63) = _
    by_cases h : ns.length < 63
    · rw [show Nat.blt ns.length 63 = true from Nat.ble_eq_true_of_le h, if_pos rfl]
    · rw [show Nat.blt ns.length 63 = false from by
        cases q : Nat.blt ns.length 63 with
        | false => rfl
        | true => exact absurd (Nat.le_of_ble_eq_true q) h, if_neg (by simp)]
      omega
  -- the first statement
  obtain ⟨cs0, h0, l0⟩ : ∃ cs0 : List Int, (ev F (.or (.op .list (.cons (.op .slH (.cons (.var 0) (.cons (.var 1) .nil))) .nil)) (.lst (.cons (.cst (.int 0)) .nil))) [some (.scr (ns.map .int)), some (.int m), none, none, none, none]) = .ok (.lst (cs0.map .int)) [some (.scr (ns.map .int)), some (.int m), none, none, none, none] ∧ cs0.length = if ns = [] then 1 else min m ns.length := by
    cases ns with
    | nil =>
      refine ⟨[0], ?_, rfl⟩
      simp [ev, evs, R.bind, R.opt, getE, isExn, opSem, opSlH, slOf, opList, truth, Sl.cut, short, cap]
    | cons z zs =>
      refine ⟨(z :: zs).take (min m (z :: zs).length), ?_, by rw [if_neg (by simp), List.length_take]; omega⟩
      have e : Sl.cut ((z :: zs).map PV.int) 0 (min m (z :: zs).length) = ((z :: zs).take (min m (z :: zs).length)).map PV.int := by rw [cut_map, List.drop_zero, Nat.sub_zero]
      have ne : ∃ a r, (z :: zs).take (min m (z :: zs).length) = a :: r := by
        cases q : min m (z :: zs).length with
        | zero => simp only [List.length_cons] at q; omega
        | succ i => exact ⟨z, zs.take i, rfl⟩
      obtain ⟨a, r, ea⟩ := ne
      simp only [ev, evs, R.bind, R.opt, getE, isExn, Bool.false_eq_true, if_false, opSem, opSlH, slOf, List.length_map, opList]
      rw [c1, show clip (z :: zs).length 0 none = 0 from rfl, e, ea]
      rfl
  obtain ⟨cs', a', b', c', q, ql⟩ := loopC F W (some (.scr (ns.map .int))) m hm.1 (ns.drop (min m ns.length)) 0 cs0 none none none (by rw [List.length_drop]; omega) (by
    by_cases h : ns.length ≤ m
    · left
      rw [List.drop_eq_nil_iff]
      omega
    · right
      rw [l0, if_neg (fun z => by rw [z] at h; simp at h)]
      omega)
  refine ⟨cs', ?_, ql.trans l0⟩
  have fz : inFrozen (.lst (cs0.map .int)) = true := by
    show frozens (cs0.map .int) = true
    clear q ql l0 h0
    induction cs0 with
    | nil => rfl
    | cons x xs ih => exact ih
  have it : evi F (.enum (.op .sl (.cons (.var 0) (.cons (.var 1) (.cons (.cst (.int 63)) .nil))))) [some (.scr (ns.map .int)), some (.int m), some (.lst (cs0.map .int)), none, none, none] = .ok (enumFrom 0 ((ns.drop (min m ns.length)).map .int)) [some (.scr (ns.map .int)), some (.int m), some (.lst (cs0.map .int)), none, none, none] := by
    simp only [evi, ev, evs, R.bind, R.opt, getE, isExn, Bool.false_eq_true, if_false, opSem, opSl, slOf, List.length_map, c0, c2, cut_map, listOf, Option.map_some]
    rw [List.take_of_length_le (Nat.le_of_eq (by rw [List.length_drop]))]
  have b1 : dCells.body = .cons (.asg (.new 2) (.or (.op .list (.cons (.op .slH (.cons (.var 0) (.cons (.var 1) .nil))) .nil)) (.lst (.cons (.cst (.int 0)) .nil)))) (.cons (.for_ (.tup (.cons (.name 3) (.cons (.name 4) .nil))) (.enum (.op .sl (.cons (.var 0) (.cons (.var 1) (.cons (.cst (.int 63)) .nil))))) bodyC) (.cons (.ret (.var 2)) .nil)) := rfl
  have r1 : exs F W dCells.body [some (.scr (ns.map .int)), some (.int m), none, none, none, none] = .ok (.ret (.lst (cs'.map .int))) [some (.scr (ns.map .int)), some (.int m), some (.lst (cs'.map .int)), a', b', c'] := by
    rw [b1]
    simp only [exs, ex]
    rw [h0]
    simp only [R.bind, asgT, fz, if_true, setE]
    rw [it]
    simp only
    rw [q]
    simp only [ev, getE, isExn, Bool.false_eq_true, if_false]
  show (match exs F W dCells.body [some (.scr (ns.map .int)), some (.int m), none, none, none, none] with
    | .ok f env => match outsOf dCells.io env with
      | some outs => match f with
        | .ret v => FR.ret v outs
        | .next => .ret .non outs
        | .cont => .stk
      | none => .stk
    | .exc c pl env => match outsOf dCells.io env with
      | some outs => .exc c pl outs
      | none => .stk
    | .stk => .stk) = _
  rw [r1]
  rfl
end Sl

/-! Ev40: the law's end. -/
namespace Sl
open PySem PySem.Spec PyProof.Rows L2
/-- a promise without exceptions -/
def calmS (sp : Sp) : Sp := fun vs H Q _ => sp vs H Q fun _ _ _ => False
theorem FnOk.calm {P : Program} {w : World} {K : PySem.W.Frag} {mg : Str → Option Value} {base : Heap} {k : Nat} {f : Addr} {fd : FuncData} {ps : List Str} {sp : Sp} (F : FnOk P w K mg base (L2.CX P w) k f fd ps sp) : FnOk P w K mg base CX0 k f fd ps (calmS sp) := by
  refine ⟨fun vs H Q E h => F.len vs H Q _ h, fun A outer s H args us vs Q E hr he hb hv h => codeAny_mono (F.run A outer s H args us vs Q _ hr he hb hv h) fun r s' z => ?_⟩
  rcases r with e | (v | _ | _ | _)
  · obtain ⟨_, _, _, _, _, _, _, _, _, _, _, _, f⟩ := z
    exact f
  · exact z
  all_goals exact z
/-- the script at the law's door -/
theorem at_door {G : Gx} {H : Hp} {a : Addr} {ns : List Int} (hO : Only H) (hS : SqL G.K H a (ns.map V.int)) {F : Fn} {g : Nat} (h : F g [.scr (ns.map .int)] = .ret (.bl true) []) : calmS (spF G F g none) [.ref a] H (fun v _ => v = .bl true) fun _ _ _ => False := by
  have reps : ∀ ns : List Int, Reps G (fun _ => False) H (ns.map .int) (ns.map V.int) := fun ns => by
    induction ns with
    | nil => exact rfl
    | cons n ns ih => exact ⟨_, _, rfl, rfl, ih⟩
  refine ⟨fun _ => False, [.scr (ns.map .int)], fun p z => z.elim, ⟨rfl, fun i x v _ h1 h2 => ?_, fun p e => by cases e⟩, ?_⟩
  · cases i with
    | zero =>
      cases h1
      cases h2
      exact ⟨a, _, rfl, hS.imp (fun q => ⟨q, fun z => z⟩) id, reps ns⟩
    | succ i => simp at h1
  · rw [h]
    exact fun v H' _ _ _ r _ => r
end Sl

namespace Kx
open PySem PySem.Spec PyProof.Rows L2 Sl
/-- is_number -/
def d_0 : Df := ⟨1, 1, [], (.cons (.ret (.and (.op (.isi 1) (.cons (.var 0) .nil)) (.op .not_ (.cons (.op (.isi 2) (.cons (.var 0) .nil)) .nil))))
  .nil)⟩
/-- is_within -/
def d_1 : Df := ⟨3, 3, [], (.cons (.ret (.and (.call 0 [] [] (.cons (.var 0) .nil)) (.chain .le .le (.var 1) (.var 0) (.var 2))))
  .nil)⟩
/-- is_long -/
def d_2 : Df := ⟨2, 2, [], (.cons (.ret (.and (.op (.isi 8) (.cons (.var 0) .nil)) (.op .eq (.cons (.op .len (.cons (.var 0) .nil)) (.cons (.var 1) .nil)))))
  .nil)⟩
/-- tupled -/
def d_3 : Df := ⟨1, 2, [], (.cons (.ret (.ite (.op (.isi 24) (.cons (.var 0) .nil)) (.op .tuple (.cons (.lc [1] (.name 1) (.seq (.var 0)) (.cst (.bl true)) (.call 3 [] [] (.cons (.var 1) .nil))) .nil)) (.var 0)))
  .nil)⟩
/-- ascends -/
def d_4 : Df := ⟨1, 2, [], (.cons (.ret (.op .all (.cons (.lc [1] (.name 1) (.range (.cons (.op .sub (.cons (.op .len (.cons (.var 0) .nil)) (.cons (.cst (.int 1)) .nil))) .nil)) (.cst (.bl true)) (.op .lt (.cons (.op .ix (.cons (.var 0) (.cons (.var 1) .nil))) (.cons (.op .ix (.cons (.var 0) (.cons (.op .add (.cons (.var 1) (.cons (.cst (.int 1)) .nil))) .nil))) .nil)))) .nil)))
  .nil)⟩
/-- set_of -/
def d_5 : Df := ⟨1, 1, [], (.cons (.ret (.op .tuple (.cons (.op .sset (.cons (.var 0) .nil)) .nil)))
  .nil)⟩
/-- minus -/
def d_6 : Df := ⟨2, 3, [], (.cons (.ret (.op .tuple (.cons (.lc [2] (.name 2) (.seq (.var 0)) (.op .notin (.cons (.var 2) (.cons (.var 1) .nil))) (.var 2)) .nil)))
  .nil)⟩
/-- is_pair -/
def d_7 : Df := ⟨1, 2, [], (.cons (.ret (.and (.call 2 [] [] (.cons (.var 0) (.cons (.cst (.int 2)) .nil))) (.op .all (.cons (.lc [1] (.name 1) (.seq (.var 0)) (.cst (.bl true)) (.call 0 [] [] (.cons (.var 1) .nil))) .nil))))
  .nil)⟩
/-- diagonal_of -/
def d_8 : Df := ⟨1, 1, [], (.cons (.ret (.op .add (.cons (.op .ix (.cons (.var 0) (.cons (.cst (.int 0)) .nil))) (.cons (.op .ix (.cons (.var 0) (.cons (.cst (.int 1)) .nil))) .nil))))
  .nil)⟩
/-- spot_of -/
def d_9 : Df := ⟨1, 1, [], (.cons (.ret (.op .sub (.cons (.op .ix (.cons (.var 0) (.cons (.cst (.int 0)) .nil))) (.cons (.op .ix (.cons (.var 0) (.cons (.cst (.int 1)) .nil))) .nil))))
  .nil)⟩
/-- beside -/
def d_10 : Df := ⟨1, 3, [], (.cons (.asg (.tup (.cons (.name 1) (.cons (.name 2) .nil))) (.var 0))
  (.cons (.ret (.lst (.cons (.tup (.cons (.op .sub (.cons (.var 1) (.cons (.cst (.int 1)) .nil))) (.cons (.var 2) .nil))) (.cons (.tup (.cons (.op .add (.cons (.var 1) (.cons (.cst (.int 1)) .nil))) (.cons (.var 2) .nil))) (.cons (.tup (.cons (.var 1) (.cons (.op .sub (.cons (.var 2) (.cons (.cst (.int 1)) .nil))) .nil))) (.cons (.tup (.cons (.var 1) (.cons (.op .add (.cons (.var 2) (.cons (.cst (.int 1)) .nil))) .nil))) .nil))))))
  .nil))⟩
/-- hang_together -/
def d_11 : Df := ⟨1, 6, [], (.cons (.asg (.new 1) (.op .dict (.cons (.lc [5] (.name 5) (.seq (.var 0)) (.cst (.bl true)) (.tup (.cons (.var 5) (.cons (.cst (.bl false)) .nil)))) .nil)))
  (.cons (.asg (.sub 1 (.op .ix (.cons (.var 0) (.cons (.cst (.int 0)) .nil)))) (.cst (.bl true)))
  (.cons (.asg (.new 2) (.lst (.cons (.op .ix (.cons (.var 0) (.cons (.cst (.int 0)) .nil))) .nil)))
  (.cons (.asg (.name 3) (.cst (.int 1)))
  (.cons (.whl (.op .ne (.cons (.var 2) (.cons (.lst .nil) .nil))) (.cons (.for_ (.name 4) (.seq (.call 10 [] [] (.cons (.pop 2) .nil))) (.cons (.ifs (.and (.op .in_ (.cons (.var 4) (.cons (.var 1) .nil))) (.op .not_ (.cons (.op .ix (.cons (.var 1) (.cons (.var 4) .nil))) .nil))) (.cons (.asg (.sub 1 (.var 4)) (.cst (.bl true)))
  (.cons (.aug 3 .add (.cst (.int 1)))
  (.cons (.app 2 (.var 4))
  .nil))) .nil)
  .nil))
  .nil))
  (.cons (.ret (.op .eq (.cons (.var 3) (.cons (.op .len (.cons (.var 0) .nil)) .nil))))
  .nil))))))⟩
/-- shut_nothing_in -/
def d_12 : Df := ⟨1, 7, [], (.cons (.asg (.name 1) (.op .dict (.cons (.lc [6] (.name 6) (.seq (.var 0)) (.cst (.bl true)) (.tup (.cons (.var 6) (.cons (.cst (.bl true)) .nil)))) .nil)))
  (.cons (.par (.cons (.new 2) (.cons (.name 3) .nil)) (.cons (.dnew .nil .nil) (.cons (.cst (.int 0)) .nil)))
  (.cons (.for_ (.tup (.cons (.name 4) (.cons (.name 5) .nil))) (.seq (.var 0)) (.cons (.upd 2 (.lst (.cons (.tup (.cons (.tup (.cons (.var 4) (.cons (.var 5) .nil))) (.cons (.cst (.bl true)) .nil))) (.cons (.tup (.cons (.tup (.cons (.op .add (.cons (.var 4) (.cons (.cst (.int 1)) .nil))) (.cons (.var 5) .nil))) (.cons (.cst (.bl true)) .nil))) (.cons (.tup (.cons (.tup (.cons (.var 4) (.cons (.op .add (.cons (.var 5) (.cons (.cst (.int 1)) .nil))) .nil))) (.cons (.cst (.bl true)) .nil))) (.cons (.tup (.cons (.tup (.cons (.op .add (.cons (.var 4) (.cons (.cst (.int 1)) .nil))) (.cons (.op .add (.cons (.var 5) (.cons (.cst (.int 1)) .nil))) .nil))) (.cons (.cst (.bl true)) .nil))) .nil))))))
  (.cons (.aug 3 .add (.op .add (.cons (.op .int (.cons (.op .in_ (.cons (.tup (.cons (.op .add (.cons (.var 4) (.cons (.cst (.int 1)) .nil))) (.cons (.var 5) .nil))) (.cons (.var 1) .nil))) .nil)) (.cons (.op .int (.cons (.op .in_ (.cons (.tup (.cons (.var 4) (.cons (.op .add (.cons (.var 5) (.cons (.cst (.int 1)) .nil))) .nil))) (.cons (.var 1) .nil))) .nil)) .nil))))
  .nil)))
  (.cons (.ret (.ck (.op .eq (.cons (.op .add (.cons (.op .sub (.cons (.op .len (.cons (.var 2) .nil)) (.cons (.op .sub (.cons (.op .mul (.cons (.cst (.int 4)) (.cons (.op .len (.cons (.var 0) .nil)) .nil))) (.cons (.var 3) .nil))) .nil))) (.cons (.op .len (.cons (.var 0) .nil)) .nil))) (.cons (.cst (.int 1)) .nil)))))
  .nil))))⟩
/-- are_floor -/
def d_13 : Df := ⟨1, 1, [], (.cons (.ret (.and (.op .gt (.cons (.op .len (.cons (.var 0) .nil)) (.cons (.cst (.int 0)) .nil))) (.and (.call 11 [] [] (.cons (.var 0) .nil)) (.call 12 [] [] (.cons (.var 0) .nil)))))
  .nil)⟩
/-- is_floor -/
def d_14 : Df := ⟨1, 2, [], (.cons (.ifs (.or (.op .not_ (.cons (.op (.isi 8) (.cons (.var 0) .nil)) .nil)) (.op .not_ (.cons (.op .all (.cons (.lc [1] (.name 1) (.seq (.var 0)) (.cst (.bl true)) (.call 7 [] [] (.cons (.var 1) .nil))) .nil)) .nil))) (.cons (.ret (.cst (.bl false)))
  .nil) .nil)
  (.cons (.ret (.and (.call 4 [] [] (.cons (.var 0) .nil)) (.call 13 [] [] (.cons (.var 0) .nil))))
  .nil))⟩
/-- sure_floor -/
def d_15 : Df := ⟨1, 2, [], (.cons (.asg (.name 1) (.call 3 [] [] (.cons (.var 0) .nil)))
  (.cons (.ifs (.op .not_ (.cons (.call 14 [] [] (.cons (.var 1) .nil)) .nil)) (.cons (.raise 8 .nil)
  .nil) .nil)
  (.cons (.ret (.var 1))
  .nil)))⟩
/-- cells_on -/
def d_16 : Df := ⟨2, 5, [], (.cons (.asg (.name 2) (.op .sorted (.cons (.lc [3] (.name 3) (.seq (.var 0)) (.op .eq (.cons (.call 8 [] [] (.cons (.var 3) .nil)) (.cons (.var 1) .nil))) (.tup (.cons (.call 9 [] [] (.cons (.var 3) .nil)) (.cons (.var 3) .nil)))) .nil)))
  (.cons (.ret (.op .tuple (.cons (.lc [4, 3] (.tup (.cons (.name 4) (.cons (.name 3) .nil))) (.seq (.var 2)) (.cst (.bl true)) (.var 3)) .nil)))
  .nil))⟩
/-- diagonal -/
def d_17 : Df := ⟨2, 2, [], (.cons (.ret (.call 16 [] [] (.cons (.call 15 [] [] (.cons (.var 0) .nil)) (.cons (.var 1) .nil))))
  .nil)⟩
/-- span -/
def d_18 : Df := ⟨1, 3, [], (.cons (.asg (.name 1) (.lc [2] (.name 2) (.seq (.call 15 [] [] (.cons (.var 0) .nil))) (.cst (.bl true)) (.call 8 [] [] (.cons (.var 2) .nil))))
  (.cons (.ret (.tup (.cons (.op .min1 (.cons (.var 1) .nil)) (.cons (.op .max1 (.cons (.var 1) .nil)) .nil))))
  .nil))⟩
/-- with_cell -/
def d_19 : Df := ⟨2, 2, [], (.cons (.ret (.call 5 [] [] (.cons (.lst (.star (.var 0) (.cons (.var 1) .nil))) .nil)))
  .nil)⟩
/-- can_grow -/
def d_20 : Df := ⟨2, 4, [], (.cons (.par (.cons (.name 2) (.cons (.name 3) .nil)) (.cons (.call 15 [] [] (.cons (.var 0) .nil)) (.cons (.call 3 [] [] (.cons (.var 1) .nil)) .nil)))
  (.cons (.ret (.and (.op .notin (.cons (.var 3) (.cons (.var 2) .nil))) (.call 13 [] [] (.cons (.call 19 [] [] (.cons (.var 2) (.cons (.var 3) .nil))) .nil))))
  .nil))⟩
/-- grown -/
def d_21 : Df := ⟨2, 4, [], (.cons (.par (.cons (.name 2) (.cons (.name 3) .nil)) (.cons (.call 15 [] [] (.cons (.var 0) .nil)) (.cons (.call 3 [] [] (.cons (.var 1) .nil)) .nil)))
  (.cons (.ifs (.op .not_ (.cons (.call 20 [] [] (.cons (.var 2) (.cons (.var 3) .nil))) .nil)) (.cons (.raise 8 .nil)
  .nil) .nil)
  (.cons (.ret (.call 19 [] [] (.cons (.var 2) (.cons (.var 3) .nil))))
  .nil)))⟩
/-- shrunk -/
def d_22 : Df := ⟨2, 5, [], (.cons (.par (.cons (.name 3) (.cons (.name 4) .nil)) (.cons (.call 15 [] [] (.cons (.var 0) .nil)) (.cons (.call 3 [] [] (.cons (.var 1) .nil)) .nil)))
  (.cons (.ifs (.op .notin (.cons (.var 4) (.cons (.var 3) .nil))) (.cons (.raise 0 (.cons (.var 4) .nil))
  .nil) .nil)
  (.cons (.asg (.name 2) (.call 6 [] [] (.cons (.var 3) (.cons (.lst (.cons (.var 4) .nil)) .nil))))
  (.cons (.ifs (.op .not_ (.cons (.call 13 [] [] (.cons (.var 2) .nil)) .nil)) (.cons (.raise 8 .nil)
  .nil) .nil)
  (.cons (.ret (.var 2))
  .nil)))))⟩
/-- borders -/
def d_23 : Df := ⟨1, 4, [], (.cons (.par (.cons (.name 2) (.cons (.new 3) .nil)) (.cons (.call 15 [] [] (.cons (.var 0) .nil)) (.cons (.lst .nil) .nil)))
  (.cons (.for_ (.name 1) (.seq (.var 2)) (.cons (.ext 3 (.call 10 [] [] (.cons (.var 1) .nil)))
  .nil))
  (.cons (.ret (.op .tuple (.cons (.lc [1] (.name 1) (.seq (.ck (.call 5 [] [] (.cons (.var 3) .nil)))) (.and (.op .notin (.cons (.var 1) (.cons (.var 2) .nil))) (.call 13 [] [] (.cons (.call 19 [] [] (.cons (.var 2) (.cons (.var 1) .nil))) .nil))) (.var 1)) .nil)))
  .nil)))⟩
/-- is_stair -/
def d_24 : Df := ⟨1, 2, [], (.cons (.ifs (.or (.op .not_ (.cons (.call 2 [] [] (.cons (.var 0) (.cons (.cst (.int 2)) .nil))) .nil)) (.or (.op .not_ (.cons (.call 7 [] [] (.cons (.op .ix (.cons (.var 0) (.cons (.cst (.int 0)) .nil))) .nil)) .nil)) (.op .not_ (.cons (.op (.isi 8) (.cons (.op .ix (.cons (.var 0) (.cons (.cst (.int 1)) .nil))) .nil)) .nil)))) (.cons (.ret (.cst (.bl false)))
  .nil) .nil)
  (.cons (.ret (.op .all (.cons (.lc [1] (.name 1) (.seq (.op .ix (.cons (.var 0) (.cons (.cst (.int 1)) .nil)))) (.cst (.bl true)) (.call 1 [] [] (.cons (.var 1) (.cons (.cst (.int 0)) (.cons (.cst (.int 1)) .nil))))) .nil)))
  .nil))⟩
/-- sure_stair -/
def d_25 : Df := ⟨1, 2, [], (.cons (.asg (.name 1) (.call 3 [] [] (.cons (.var 0) .nil)))
  (.cons (.ifs (.op .not_ (.cons (.call 24 [] [] (.cons (.var 1) .nil)) .nil)) (.cons (.raise 8 .nil)
  .nil) .nil)
  (.cons (.ret (.var 1))
  .nil)))⟩
/-- cells_by -/
def d_26 : Df := ⟨1, 5, [], (.cons (.asg (.tup (.cons (.name 3) (.cons (.name 4) .nil))) (.op .ix (.cons (.var 0) (.cons (.cst (.int 0)) .nil))))
  (.cons (.asg (.new 1) (.lst (.cons (.tup (.cons (.var 3) (.cons (.var 4) .nil))) .nil)))
  (.cons (.for_ (.name 2) (.seq (.op .ix (.cons (.var 0) (.cons (.cst (.int 1)) .nil)))) (.cons (.par (.cons (.name 3) (.cons (.name 4) .nil)) (.cons (.op .sub (.cons (.op .add (.cons (.var 3) (.cons (.cst (.int 1)) .nil))) (.cons (.var 2) .nil))) (.cons (.op .add (.cons (.var 4) (.cons (.var 2) .nil))) .nil)))
  (.cons (.app 1 (.tup (.cons (.var 3) (.cons (.var 4) .nil))))
  .nil)))
  (.cons (.ret (.ck (.op .tuple (.cons (.var 1) .nil))))
  .nil))))⟩
/-- cells_of -/
def d_27 : Df := ⟨1, 1, [], (.cons (.ret (.call 26 [] [] (.cons (.call 25 [] [] (.cons (.var 0) .nil)) .nil)))
  .nil)⟩
/-- all_cells -/
def d_28 : Df := ⟨1, 3, [], (.cons (.asg (.new 1) (.lst .nil))
  (.cons (.for_ (.name 2) (.seq (.var 0)) (.cons (.ext 1 (.call 26 [] [] (.cons (.var 2) .nil)))
  .nil))
  (.cons (.ret (.ckn (.op .sorted (.cons (.var 1) .nil))))
  .nil)))⟩
/-- are_stairs -/
def d_29 : Df := ⟨2, 3, [], (.cons (.ifs (.or (.op .not_ (.cons (.op (.isi 8) (.cons (.var 0) .nil)) .nil)) (.op .not_ (.cons (.op .all (.cons (.lc [2] (.name 2) (.seq (.var 0)) (.cst (.bl true)) (.and (.call 24 [] [] (.cons (.var 2) .nil)) (.op .eq (.cons (.op .len (.cons (.op .ix (.cons (.var 2) (.cons (.cst (.int 1)) .nil))) .nil)) (.cons (.op .sub (.cons (.var 1) (.cons (.cst (.int 1)) .nil))) .nil))))) .nil)) .nil))) (.cons (.ret (.cst (.bl false)))
  .nil) .nil)
  (.cons (.ret (.call 4 [] [] (.cons (.var 0) .nil)))
  .nil))⟩
/-- sure_laying -/
def d_30 : Df := ⟨1, 3, [], (.cons (.asg (.name 1) (.call 3 [] [] (.cons (.var 0) .nil)))
  (.cons (.ifs (.or (.op .not_ (.cons (.op (.isi 8) (.cons (.var 1) .nil)) .nil)) (.or (.op .eq (.cons (.var 1) (.cons (.tup .nil) .nil))) (.or (.op .not_ (.cons (.call 24 [] [] (.cons (.op .ix (.cons (.var 1) (.cons (.cst (.int 0)) .nil))) .nil)) .nil)) (.op .not_ (.cons (.call 29 [] [] (.cons (.var 1) (.cons (.op .add (.cons (.op .len (.cons (.op .ix (.cons (.op .ix (.cons (.var 1) (.cons (.cst (.int 0)) .nil))) (.cons (.cst (.int 1)) .nil))) .nil)) (.cons (.cst (.int 1)) .nil))) .nil))) .nil))))) (.cons (.raise 8 .nil)
  .nil) .nil)
  (.cons (.asg (.name 2) (.call 28 [] [] (.cons (.var 1) .nil)))
  (.cons (.ifs (.or (.op .not_ (.cons (.call 4 [] [] (.cons (.var 2) .nil)) .nil)) (.op .not_ (.cons (.call 13 [] [] (.cons (.op .tuple (.cons (.var 2) .nil)) .nil)) .nil))) (.cons (.raise 8 .nil)
  .nil) .nil)
  (.cons (.ret (.var 1))
  .nil)))))⟩
/-- moved -/
def d_31 : Df := ⟨2, 2, [], (.cons (.ret (.tup (.cons (.op .add (.cons (.op .ix (.cons (.var 0) (.cons (.cst (.int 0)) .nil))) (.cons (.op .ix (.cons (.var 1) (.cons (.cst (.int 0)) .nil))) .nil))) (.cons (.op .add (.cons (.op .ix (.cons (.var 0) (.cons (.cst (.int 1)) .nil))) (.cons (.op .ix (.cons (.var 1) (.cons (.cst (.int 1)) .nil))) .nil))) .nil))))
  .nil)⟩
/-- shifted -/
def d_32 : Df := ⟨2, 3, [], (.cons (.ret (.call 5 [] [] (.cons (.lc [2] (.name 2) (.seq (.call 15 [] [] (.cons (.var 0) .nil))) (.cst (.bl true)) (.call 31 [] [] (.cons (.var 2) (.cons (.var 1) .nil)))) .nil)))
  .nil)⟩
/-- mirrored -/
def d_33 : Df := ⟨1, 3, [], (.cons (.ret (.call 5 [] [] (.cons (.lc [1, 2] (.tup (.cons (.name 1) (.cons (.name 2) .nil))) (.seq (.call 15 [] [] (.cons (.var 0) .nil))) (.cst (.bl true)) (.tup (.cons (.var 2) (.cons (.var 1) .nil)))) .nil)))
  .nil)⟩
/-- half_turned -/
def d_34 : Df := ⟨1, 3, [], (.cons (.ret (.call 5 [] [] (.cons (.lc [1, 2] (.tup (.cons (.name 1) (.cons (.name 2) .nil))) (.seq (.call 15 [] [] (.cons (.var 0) .nil))) (.cst (.bl true)) (.tup (.cons (.op .neg (.cons (.var 1) .nil)) (.cons (.op .neg (.cons (.var 2) .nil)) .nil)))) .nil)))
  .nil)⟩
/-- stair_shifted -/
def d_35 : Df := ⟨2, 4, [], (.cons (.asg (.tup (.cons (.name 2) (.cons (.name 3) .nil))) (.call 25 [] [] (.cons (.var 0) .nil)))
  (.cons (.ret (.tup (.cons (.call 31 [] [] (.cons (.var 2) (.cons (.var 1) .nil))) (.cons (.var 3) .nil))))
  .nil))⟩
/-- stair_mirrored -/
def d_36 : Df := ⟨1, 5, [], (.cons (.asg (.tup (.cons (.tup (.cons (.name 2) (.cons (.name 3) .nil))) (.cons (.name 1) .nil))) (.call 25 [] [] (.cons (.var 0) .nil)))
  (.cons (.ret (.tup (.cons (.tup (.cons (.var 3) (.cons (.var 2) .nil))) (.cons (.op .tuple (.cons (.lc [4] (.name 4) (.seq (.var 1)) (.cst (.bl true)) (.op .sub (.cons (.cst (.int 1)) (.cons (.var 4) .nil)))) .nil)) .nil))))
  .nil))⟩
/-- stair_half_turned -/
def d_37 : Df := ⟨1, 4, [], (.cons (.asg (.name 1) (.call 25 [] [] (.cons (.var 0) .nil)))
  (.cons (.asg (.tup (.cons (.name 2) (.cons (.name 3) .nil))) (.op .ix (.cons (.call 27 [] [] (.cons (.var 1) .nil)) (.cons (.op .neg (.cons (.cst (.int 1)) .nil)) .nil))))
  (.cons (.ret (.tup (.cons (.tup (.cons (.op .neg (.cons (.var 2) .nil)) (.cons (.op .neg (.cons (.var 3) .nil)) .nil))) (.cons (.op .rev (.cons (.op .ix (.cons (.var 1) (.cons (.cst (.int 1)) .nil))) .nil)) .nil))))
  .nil)))⟩
/-- laying_shifted -/
def d_38 : Df := ⟨2, 3, [], (.cons (.ret (.call 5 [] [] (.cons (.lc [2] (.name 2) (.seq (.call 30 [] [] (.cons (.var 0) .nil))) (.cst (.bl true)) (.call 35 [] [] (.cons (.var 2) (.cons (.var 1) .nil)))) .nil)))
  .nil)⟩
/-- laying_mirrored -/
def d_39 : Df := ⟨1, 2, [], (.cons (.ret (.call 5 [] [] (.cons (.lc [1] (.name 1) (.seq (.call 30 [] [] (.cons (.var 0) .nil))) (.cst (.bl true)) (.call 36 [] [] (.cons (.var 1) .nil))) .nil)))
  .nil)⟩
/-- laying_half_turned -/
def d_40 : Df := ⟨1, 2, [], (.cons (.ret (.call 5 [] [] (.cons (.lc [1] (.name 1) (.seq (.call 30 [] [] (.cons (.var 0) .nil))) (.cst (.bl true)) (.call 37 [] [] (.cons (.var 1) .nil))) .nil)))
  .nil)⟩
/-- least_form -/
def d_41 : Df := ⟨1, 8, [], (.cons (.asg (.new 1) (.lst .nil))
  (.cons (.for_ (.name 2) (.seq (.tup (.cons (.var 0) (.cons (.call 33 [] [] (.cons (.var 0) .nil)) (.cons (.call 34 [] [] (.cons (.var 0) .nil)) (.cons (.call 34 [] [] (.cons (.call 33 [] [] (.cons (.var 0) .nil)) .nil)) .nil)))))) (.cons (.asg (.name 3) (.tup (.cons (.op .neg (.cons (.op .min1 (.cons (.lc [5, 6] (.tup (.cons (.name 5) (.cons (.name 6) .nil))) (.seq (.var 2)) (.cst (.bl true)) (.var 5)) .nil)) .nil)) (.cons (.op .neg (.cons (.op .min1 (.cons (.lc [6, 7] (.tup (.cons (.name 6) (.cons (.name 7) .nil))) (.seq (.var 2)) (.cst (.bl true)) (.var 7)) .nil)) .nil)) .nil))))
  (.cons (.app 1 (.call 5 [] [] (.cons (.lc [4] (.name 4) (.seq (.var 2)) (.cst (.bl true)) (.call 31 [] [] (.cons (.var 4) (.cons (.var 3) .nil)))) .nil)))
  .nil)))
  (.cons (.ret (.ck (.op .min1 (.cons (.var 1) .nil))))
  .nil)))⟩
/-- alike -/
def d_42 : Df := ⟨2, 4, [], (.cons (.par (.cons (.name 2) (.cons (.name 3) .nil)) (.cons (.call 15 [] [] (.cons (.var 0) .nil)) (.cons (.call 15 [] [] (.cons (.var 1) .nil)) .nil)))
  (.cons (.ret (.op .eq (.cons (.call 41 [] [] (.cons (.var 2) .nil)) (.cons (.call 41 [] [] (.cons (.var 3) .nil)) .nil))))
  .nil))⟩
/-- _law_box -/
def d_43 : Df := ⟨2, 3, [], (.cons (.asg (.name 2) (.ite (.op .lt (.cons (.var 1) (.cons (.op .len (.cons (.var 0) .nil)) .nil))) (.op .ix (.cons (.var 0) (.cons (.var 1) .nil))) (.cst (.int 0))))
  (.cons (.ret (.lst (.cons (.op .mul (.cons (.op .abs (.cons (.var 2) .nil)) (.cons (.op .int (.cons (.op .ge (.cons (.op .abs (.cons (.var 2) .nil)) (.cons (.op .pow (.cons (.cst (.int 10)) (.cons (.cst (.int 18)) .nil))) .nil))) .nil)) .nil))) (.cons (.op .add (.cons (.op .add (.cons (.op .mod (.cons (.op .int (.cons (.var 2) .nil)) (.cons (.cst (.int 2305843009213693951)) .nil))) (.cons (.op .mul (.cons (.cst (.int 39373)) (.cons (.var 1) .nil))) .nil))) (.cons (.cst (.int 3175051)) .nil))) (.cons (.cst (.int 0)) .nil)))))
  .nil))⟩
/-- _law_take -/
def d_44 : Df := ⟨2, 6, [0], (.cons (.ifs (.op .gt (.cons (.op .ix (.cons (.var 0) (.cons (.cst (.int 0)) .nil))) (.cons (.cst (.int 0)) .nil))) (.cons (.asg (.name 5) (.ck (.op .mod (.cons (.op .int (.cons (.op .ix (.cons (.var 0) (.cons (.cst (.int 0)) .nil))) .nil)) (.cons (.var 1) .nil)))))
  (.cons (.asg (.sub 0 (.cst (.int 0))) (.ck (.op .fdiv (.cons (.op .ix (.cons (.var 0) (.cons (.cst (.int 0)) .nil))) (.cons (.var 1) .nil)))))
  (.cons (.ret (.var 5))
  .nil))) .nil)
  (.cons (.asg (.sub 0 (.cst (.int 2))) (.ck (.op .add (.cons (.op .ix (.cons (.var 0) (.cons (.cst (.int 2)) .nil))) (.cons (.cst (.int 1)) .nil)))))
  (.cons (.asg (.name 2) (.ck (.op .mod (.cons (.op .int (.cons (.op .mul (.cons (.op .add (.cons (.op .ix (.cons (.var 0) (.cons (.cst (.int 1)) .nil))) (.cons (.op .mul (.cons (.cst (.int 48271)) (.cons (.op .ix (.cons (.var 0) (.cons (.cst (.int 2)) .nil))) .nil))) .nil))) (.cons (.op .add (.cons (.cst (.int 39373)) (.cons (.op .ix (.cons (.var 0) (.cons (.cst (.int 2)) .nil))) .nil))) .nil))) .nil)) (.cons (.cst (.int 2147483647)) .nil)))))
  (.cons (.asg (.name 3) (.op .add (.cons (.op .mod (.cons (.op .int (.cons (.var 2) .nil)) (.cons (.cst (.int 40009)) .nil))) (.cons (.cst (.int 7)) .nil))))
  (.cons (.asg (.name 4) (.ck (.op .mod (.cons (.op .int (.cons (.op .mul (.cons (.op .add (.cons (.op .add (.cons (.var 2) (.cons (.op .ix (.cons (.var 0) (.cons (.cst (.int 2)) .nil))) .nil))) (.cons (.op .fdiv (.cons (.op .ix (.cons (.var 0) (.cons (.cst (.int 1)) .nil))) (.cons (.cst (.int 1000003)) .nil))) .nil))) (.cons (.var 3) .nil))) .nil)) (.cons (.cst (.int 2147483629)) .nil)))))
  (.cons (.ret (.op .mod (.cons (.op .int (.cons (.op .fdiv (.cons (.op .mod (.cons (.op .int (.cons (.op .add (.cons (.op .mul (.cons (.var 4) (.cons (.cst (.int 48271)) .nil))) (.cons (.var 2) .nil))) .nil)) (.cons (.cst (.int 2147483587)) .nil))) (.cons (.cst (.int 64)) .nil))) .nil)) (.cons (.var 1) .nil))))
  .nil))))))⟩
/-- _law_cells -/
def d_45 : Df := ⟨2, 6, [], (.cons (.asg (.new 2) (.or (.op .list (.cons (.op .slH (.cons (.var 0) (.cons (.var 1) .nil))) .nil)) (.lst (.cons (.cst (.int 0)) .nil))))
  (.cons (.for_ (.tup (.cons (.name 3) (.cons (.name 4) .nil))) (.enum (.op .sl (.cons (.var 0) (.cons (.var 1) (.cons (.cst (.int 63)) .nil))))) (.cons (.asg (.name 5) (.op .mod (.cons (.op .int (.cons (.var 3) .nil)) (.cons (.var 1) .nil))))
  (.cons (.asg (.sub 2 (.var 5)) (.ck (.op .add (.cons (.op .ix (.cons (.var 2) (.cons (.var 5) .nil))) (.cons (.op .mul (.cons (.var 4) (.cons (.op .add (.cons (.var 3) (.cons (.cst (.int 2)) .nil))) .nil))) .nil)))))
  .nil)))
  (.cons (.ret (.var 2))
  .nil)))⟩
/-- _law_lists -/
def d_46 : Df := ⟨1, 2, [], (.cons (.ret (.ite (.op (.isi 24) (.cons (.var 0) .nil)) (.lc [1] (.name 1) (.seq (.var 0)) (.cst (.bl true)) (.call 46 [] [] (.cons (.var 1) .nil))) (.var 0)))
  .nil)⟩
/-- _law_same -/
def d_47 : Df := ⟨2, 4, [], (.cons (.ifs (.op (.isi 24) (.cons (.var 1) .nil)) (.cons (.ifs (.or (.op .ne (.cons (.op (.isi 16) (.cons (.var 0) .nil)) (.cons (.op (.isi 16) (.cons (.var 1) .nil)) .nil))) (.op .ne (.cons (.op (.isi 8) (.cons (.var 0) .nil)) (.cons (.op (.isi 8) (.cons (.var 1) .nil)) .nil)))) (.cons (.ret (.cst (.bl false)))
  .nil) .nil)
  (.cons (.ret (.and (.op .eq (.cons (.op .len (.cons (.var 0) .nil)) (.cons (.op .len (.cons (.var 1) .nil)) .nil))) (.op .all (.cons (.lc [2, 3] (.tup (.cons (.name 2) (.cons (.name 3) .nil))) (.zip (.var 0) (.var 1)) (.cst (.bl true)) (.call 47 [] [] (.cons (.var 2) (.cons (.var 3) .nil)))) .nil))))
  .nil)) .nil)
  (.cons (.ifs (.or (.op .isN (.cons (.var 1) .nil)) (.op (.isi 6) (.cons (.var 1) .nil))) (.cons (.ret (.and (.op .eq (.cons (.var 0) (.cons (.var 1) .nil))) (.and (.op .eq (.cons (.op (.isi 2) (.cons (.var 0) .nil)) (.cons (.op (.isi 2) (.cons (.var 1) .nil)) .nil))) (.op .eq (.cons (.op .isN (.cons (.var 0) .nil)) (.cons (.op .isN (.cons (.var 1) .nil)) .nil))))))
  .nil) .nil)
  (.cons (.ret (.and (.op (.isi 1) (.cons (.var 0) .nil)) (.and (.op .not_ (.cons (.op (.isi 2) (.cons (.var 0) .nil)) .nil)) (.op .eq (.cons (.var 0) (.cons (.var 1) .nil))))))
  .nil)))⟩
/-- _law_oblong -/
def d_48 : Df := ⟨2, 5, [], (.cons (.asg (.name 2) (.lst .nil))
  (.cons (.for_ (.name 3) (.range (.cons (.var 0) .nil)) (.cons (.asg (.name 2) (.op .add (.cons (.var 2) (.cons (.lc [4] (.name 4) (.range (.cons (.var 1) .nil)) (.cst (.bl true)) (.tup (.cons (.var 3) (.cons (.var 4) .nil)))) .nil))))
  .nil))
  (.cons (.ret (.op .tuple (.cons (.var 2) .nil)))
  .nil)))⟩
/-- _law_corner -/
def d_49 : Df := ⟨0, 0, [], (.cons (.ret (.tup (.cons (.tup (.cons (.cst (.int 0)) (.cons (.cst (.int 0)) .nil))) (.cons (.tup (.cons (.cst (.int 0)) (.cons (.cst (.int 1)) .nil))) (.cons (.tup (.cons (.cst (.int 1)) (.cons (.cst (.int 0)) .nil))) .nil)))))
  .nil)⟩
/-- _law_cup -/
def d_50 : Df := ⟨0, 0, [], (.cons (.ret (.tup (.cons (.tup (.cons (.cst (.int 0)) (.cons (.cst (.int 0)) .nil))) (.cons (.tup (.cons (.cst (.int 0)) (.cons (.cst (.int 1)) .nil))) (.cons (.tup (.cons (.cst (.int 0)) (.cons (.cst (.int 2)) .nil))) (.cons (.tup (.cons (.cst (.int 1)) (.cons (.cst (.int 0)) .nil))) (.cons (.tup (.cons (.cst (.int 2)) (.cons (.cst (.int 0)) .nil))) (.cons (.tup (.cons (.cst (.int 2)) (.cons (.cst (.int 1)) .nil))) .nil))))))))
  .nil)⟩
/-- _law_heard -/
def d_51 : Df := ⟨3, 6, [], (.cons (.asg (.name 3) (.tup (.cons (.cst (.fn 18)) (.cons (.cst (.fn 23)) (.cons (.cst (.fn 33)) (.cons (.cst (.fn 34)) (.cons (.cst (.fn 36)) (.cons (.cst (.fn 37)) .nil))))))))
  (.cons (.asg (.name 3) (.op .add (.cons (.var 3) (.cons (.tup (.cons (.cst (.fn 39)) (.cons (.cst (.fn 40)) .nil))) .nil))))
  (.cons (.asg (.name 4) (.tup (.cons (.cst (.fn 17)) (.cons (.cst (.fn 20)) (.cons (.cst (.fn 21)) (.cons (.cst (.fn 22)) (.cons (.cst (.fn 32)) (.cons (.cst (.fn 42)) (.cons (.cst (.fn 35)) (.cons (.cst (.fn 38)) .nil))))))))))
  (.cons (.try_ (.cons (.ret (.ite (.op .lt (.cons (.var 0) (.cons (.cst (.int 8)) .nil))) (.callv [17, 18, 20, 21, 22, 23, 32, 33, 34, 35, 36, 37, 38, 39, 40, 42] (.op .ix (.cons (.var 3) (.cons (.var 0) .nil))) (.cons (.var 1) .nil)) (.callv [17, 18, 20, 21, 22, 23, 32, 33, 34, 35, 36, 37, 38, 39, 40, 42] (.op .ix (.cons (.var 4) (.cons (.op .sub (.cons (.var 0) (.cons (.cst (.int 8)) .nil))) .nil))) (.cons (.var 1) (.cons (.var 2) .nil)))))
  .nil) (.cons 0 (some 5) (.cons (.ret (.lst (.cons (.cst (.str ("cell" : Str))) (.cons (.fld 0 5) (.cons (.isx 0 5) .nil)))))
  .nil) (.cons 8 (some 5) (.cons (.ret (.lst (.cons (.cst (.str ("unfit" : Str))) (.cons (.isx 1 5) .nil))))
  .nil) .nil)))
  .nil))))⟩
/-- _law_always_right -/
def d_52 : Df := ⟨0, 4, [], (.cons (.par (.cons (.name 2) (.cons (.name 3) .nil)) (.cons (.call 50 [] [] .nil) (.cons (.call 49 [] [] .nil) .nil)))
  (.cons (.asg (.name 0) (.lst (.cons (.call 18 [] [] (.cons (.var 2) .nil)) (.cons (.call 23 [] [] (.cons (.tup (.cons (.tup (.cons (.cst (.int 0)) (.cons (.cst (.int 0)) .nil))) .nil)) .nil)) (.cons (.call 17 [] [] (.cons (.var 2) (.cons (.cst (.int 2)) .nil))) (.cons (.call 33 [] [] (.cons (.var 2) .nil)) (.cons (.call 34 [] [] (.cons (.var 3) .nil)) .nil)))))))
  (.cons (.asg (.name 0) (.op .add (.cons (.var 0) (.cons (.lst (.cons (.call 32 [] [] (.cons (.var 3) (.cons (.tup (.cons (.op .neg (.cons (.cst (.int 1)) .nil)) (.cons (.cst (.int 4)) .nil))) .nil))) .nil)) .nil))))
  (.cons (.asg (.name 1) (.lst (.cons (.tup (.cons (.cst (.int 0)) (.cons (.cst (.int 3)) .nil))) (.cons (.tup (.cons (.tup (.cons (.op .neg (.cons (.cst (.int 1)) .nil)) (.cons (.cst (.int 0)) .nil))) (.cons (.tup (.cons (.cst (.int 0)) (.cons (.op .neg (.cons (.cst (.int 1)) .nil)) .nil))) (.cons (.tup (.cons (.cst (.int 0)) (.cons (.cst (.int 1)) .nil))) (.cons (.tup (.cons (.cst (.int 1)) (.cons (.cst (.int 0)) .nil))) .nil))))) (.cons (.tup (.cons (.tup (.cons (.cst (.int 0)) (.cons (.cst (.int 2)) .nil))) (.cons (.tup (.cons (.cst (.int 2)) (.cons (.cst (.int 0)) .nil))) .nil))) .nil)))))
  (.cons (.asg (.name 1) (.op .add (.cons (.var 1) (.cons (.lst (.cons (.tup (.cons (.tup (.cons (.cst (.int 0)) (.cons (.cst (.int 0)) .nil))) (.cons (.tup (.cons (.cst (.int 0)) (.cons (.cst (.int 1)) .nil))) (.cons (.tup (.cons (.cst (.int 0)) (.cons (.cst (.int 2)) .nil))) (.cons (.tup (.cons (.cst (.int 1)) (.cons (.cst (.int 0)) .nil))) (.cons (.tup (.cons (.cst (.int 1)) (.cons (.cst (.int 2)) .nil))) (.cons (.tup (.cons (.cst (.int 2)) (.cons (.cst (.int 0)) .nil))) .nil))))))) .nil)) .nil))))
  (.cons (.asg (.name 1) (.op .add (.cons (.var 1) (.cons (.lst (.cons (.tup (.cons (.tup (.cons (.op .neg (.cons (.cst (.int 1)) .nil)) (.cons (.cst (.int 0)) .nil))) (.cons (.tup (.cons (.cst (.int 0)) (.cons (.op .neg (.cons (.cst (.int 1)) .nil)) .nil))) (.cons (.tup (.cons (.cst (.int 0)) (.cons (.cst (.int 0)) .nil))) .nil)))) (.cons (.tup (.cons (.tup (.cons (.op .neg (.cons (.cst (.int 1)) .nil)) (.cons (.cst (.int 4)) .nil))) (.cons (.tup (.cons (.op .neg (.cons (.cst (.int 1)) .nil)) (.cons (.cst (.int 5)) .nil))) (.cons (.tup (.cons (.cst (.int 0)) (.cons (.cst (.int 4)) .nil))) .nil)))) .nil))) .nil))))
  (.cons (.asg (.name 0) (.op .add (.cons (.var 0) (.cons (.lst (.cons (.call 20 [] [] (.cons (.var 2) (.cons (.tup (.cons (.cst (.int 1)) (.cons (.cst (.int 2)) .nil))) .nil))) (.cons (.call 21 [] [] (.cons (.var 3) (.cons (.tup (.cons (.op .neg (.cons (.cst (.int 1)) .nil)) (.cons (.cst (.int 1)) .nil))) .nil))) (.cons (.call 22 [] [] (.cons (.var 2) (.cons (.tup (.cons (.cst (.int 0)) (.cons (.cst (.int 2)) .nil))) .nil))) .nil)))) .nil))))
  (.cons (.asg (.name 0) (.op .add (.cons (.var 0) (.cons (.lst (.cons (.call 51 [] [] (.cons (.cst (.int 11)) (.cons (.var 2) (.cons (.tup (.cons (.cst (.int 0)) (.cons (.cst (.int 0)) .nil))) .nil)))) (.cons (.call 51 [] [] (.cons (.cst (.int 10)) (.cons (.var 2) (.cons (.tup (.cons (.cst (.int 2)) (.cons (.cst (.int 0)) .nil))) .nil)))) .nil))) .nil))))
  (.cons (.asg (.name 1) (.op .add (.cons (.var 1) (.cons (.lst (.cons (.cst (.bl false)) (.cons (.op .add (.cons (.tup (.cons (.tup (.cons (.op .neg (.cons (.cst (.int 1)) .nil)) (.cons (.cst (.int 1)) .nil))) .nil)) (.cons (.var 3) .nil))) (.cons (.op .add (.cons (.op .slH (.cons (.var 2) (.cons (.cst (.int 2)) .nil))) (.cons (.op .slL (.cons (.var 2) (.cons (.cst (.int 3)) .nil))) .nil))) (.cons (.lst (.cons (.cst (.str ("unfit" : Str))) (.cons (.cst (.bl true)) .nil))) (.cons (.lst (.cons (.cst (.str ("unfit" : Str))) (.cons (.cst (.bl true)) .nil))) .nil)))))) .nil))))
  (.cons (.par (.cons (.name 0) (.cons (.name 1) .nil)) (.cons (.op .add (.cons (.var 0) (.cons (.lst (.cons (.call 51 [] [] (.cons (.cst (.int 11)) (.cons (.var 2) (.cons (.tup (.cons (.cst (.int 1)) (.cons (.cst (.int 1)) .nil))) .nil)))) .nil)) .nil))) (.cons (.op .add (.cons (.var 1) (.cons (.lst (.cons (.lst (.cons (.cst (.str ("cell" : Str))) (.cons (.tup (.cons (.cst (.int 1)) (.cons (.cst (.int 1)) .nil))) (.cons (.cst (.bl true)) .nil)))) .nil)) .nil))) .nil)))
  (.cons (.asg (.name 0) (.op .add (.cons (.var 0) (.cons (.lst (.cons (.call 37 [] [] (.cons (.tup (.cons (.tup (.cons (.cst (.int 1)) (.cons (.cst (.int 1)) .nil))) (.cons (.tup (.cons (.cst (.int 0)) (.cons (.cst (.int 0)) (.cons (.cst (.int 1)) .nil)))) .nil))) .nil)) (.cons (.call 36 [] [] (.cons (.tup (.cons (.tup (.cons (.cst (.int 2)) (.cons (.cst (.int 5)) .nil))) (.cons (.tup (.cons (.cst (.int 1)) (.cons (.cst (.int 0)) .nil))) .nil))) .nil)) .nil))) .nil))))
  (.cons (.asg (.name 0) (.op .add (.cons (.var 0) (.cons (.lst (.cons (.call 42 [] [] (.cons (.var 2) (.cons (.call 33 [] [] (.cons (.var 2) .nil)) .nil))) (.cons (.call 42 [] [] (.cons (.var 2) (.cons (.var 3) .nil))) .nil))) .nil))))
  (.cons (.ret (.call 47 [] [] (.cons (.var 0) (.cons (.op .add (.cons (.var 1) (.cons (.lst (.cons (.tup (.cons (.tup (.cons (.op .neg (.cons (.cst (.int 3)) .nil)) (.cons (.op .neg (.cons (.cst (.int 2)) .nil)) .nil))) (.cons (.tup (.cons (.cst (.int 1)) (.cons (.cst (.int 0)) (.cons (.cst (.int 0)) .nil)))) .nil))) (.cons (.tup (.cons (.tup (.cons (.cst (.int 5)) (.cons (.cst (.int 2)) .nil))) (.cons (.tup (.cons (.cst (.int 0)) (.cons (.cst (.int 1)) .nil))) .nil))) (.cons (.cst (.bl true)) (.cons (.cst (.bl false)) .nil))))) .nil))) .nil))))
  .nil)))))))))))))⟩
/-- _law_refused_right -/
def d_53 : Df := ⟨0, 8, [], (.cons (.asg (.name 0) (.op .tuple (.cons (.lc [2] (.name 2) (.seq (.call 48 [] [] (.cons (.cst (.int 3)) (.cons (.cst (.int 3)) .nil)))) (.op .ne (.cons (.var 2) (.cons (.tup (.cons (.cst (.int 1)) (.cons (.cst (.int 1)) .nil))) .nil))) (.var 2)) .nil)))
  (.cons (.asg (.tup (.cons (.name 5) (.cons (.name 6) (.cons (.name 3) .nil)))) (.tup (.cons (.call 50 [] [] .nil) (.cons (.call 49 [] [] .nil) (.cons (.lst .nil) .nil)))))
  (.cons (.asg (.name 1) (.lst .nil))
  (.cons (.for_ (.name 2) (.seq (.tup (.cons (.var 0) (.cons (.tup (.cons (.tup (.cons (.cst (.int 0)) (.cons (.cst (.int 0)) .nil))) (.cons (.tup (.cons (.cst (.int 1)) (.cons (.cst (.int 1)) .nil))) .nil))) (.cons (.tup .nil) (.cons (.cst .non) (.cons (.cst (.int 5)) (.cons (.op .rev (.cons (.var 5) .nil)) (.cons (.tup (.cons (.tup (.cons (.cst (.int 0)) (.cons (.cst (.int 0)) .nil))) (.cons (.tup (.cons (.cst (.int 0)) (.cons (.cst (.bl true)) .nil))) .nil))) .nil))))))))) (.cons (.asg (.name 1) (.op .add (.cons (.var 1) (.cons (.lc [7] (.name 7) (.seq (.tup (.cons (.cst (.int 0)) (.cons (.cst (.int 1)) (.cons (.cst (.int 2)) (.cons (.cst (.int 3)) (.cons (.cst (.int 8)) (.cons (.cst (.int 9)) (.cons (.cst (.int 10)) (.cons (.cst (.int 11)) (.cons (.cst (.int 12)) .nil))))))))))) (.cst (.bl true)) (.call 51 [] [] (.cons (.var 7) (.cons (.var 2) (.cons (.tup (.cons (.cst (.int 0)) (.cons (.cst (.int 0)) .nil))) .nil))))) .nil))))
  (.cons (.asg (.name 1) (.op .add (.cons (.var 1) (.cons (.lst (.cons (.call 51 [] [] (.cons (.cst (.int 13)) (.cons (.var 2) (.cons (.var 5) .nil)))) (.cons (.call 51 [] [] (.cons (.cst (.int 13)) (.cons (.var 5) (.cons (.var 2) .nil)))) .nil))) .nil))))
  .nil)))
  (.cons (.asg (.name 3) (.op .add (.cons (.var 3) (.cons (.op .mul (.cons (.lst (.cons (.lst (.cons (.cst (.str ("unfit" : Str))) (.cons (.cst (.bl true)) .nil))) .nil)) (.cons (.cst (.int 77)) .nil))) .nil))))
  (.cons (.for_ (.name 2) (.seq (.tup (.cons (.tup (.cons (.tup (.cons (.cst (.int 0)) (.cons (.cst (.int 0)) .nil))) (.cons (.tup (.cons (.cst (.int 0)) (.cons (.cst (.int 2)) .nil))) .nil))) (.cons (.tup (.cons (.tup (.cons (.cst (.int 0)) (.cons (.cst (.int 0)) .nil))) .nil)) (.cons (.tup (.cons (.cst (.int 0)) (.cons (.cst (.int 0)) .nil))) (.cons (.cst .non) (.cons (.tup (.cons (.tup (.cons (.cst (.int 0)) (.cons (.cst (.int 0)) .nil))) (.cons (.cst (.int 0)) .nil))) (.cons (.tup (.cons (.tup (.cons (.cst (.int 0)) (.cons (.cst (.bl true)) .nil))) (.cons (.tup (.cons (.cst (.int 1)) .nil)) .nil))) (.cons (.tup (.cons (.tup (.cons (.cst (.int 0)) (.cons (.cst (.int 0)) .nil))) (.cons (.tup (.cons (.cst (.int 0)) (.cons (.cst (.bl true)) .nil))) .nil))) .nil))))))))) (.cons (.asg (.name 1) (.op .add (.cons (.var 1) (.cons (.lc [7] (.name 7) (.seq (.tup (.cons (.cst (.int 4)) (.cons (.cst (.int 5)) (.cons (.cst (.int 14)) .nil))))) (.cst (.bl true)) (.call 51 [] [] (.cons (.var 7) (.cons (.var 2) (.cons (.tup (.cons (.cst (.int 1)) (.cons (.cst (.int 1)) .nil))) .nil))))) .nil))))
  .nil))
  (.cons (.asg (.name 3) (.op .add (.cons (.var 3) (.cons (.op .mul (.cons (.lst (.cons (.lst (.cons (.cst (.str ("unfit" : Str))) (.cons (.cst (.bl true)) .nil))) .nil)) (.cons (.cst (.int 21)) .nil))) .nil))))
  (.cons (.asg (.name 4) (.lst (.cons (.tup (.cons (.tup (.cons (.tup (.cons (.cst (.int 0)) (.cons (.cst (.int 0)) .nil))) (.cons (.tup (.cons (.cst (.int 0)) .nil)) .nil))) (.cons (.tup (.cons (.tup (.cons (.cst (.int 0)) (.cons (.cst (.int 0)) .nil))) (.cons (.tup (.cons (.cst (.int 1)) .nil)) .nil))) .nil))) (.cons (.tup (.cons (.tup (.cons (.tup (.cons (.cst (.int 0)) (.cons (.cst (.int 0)) .nil))) (.cons (.tup .nil) .nil))) (.cons (.tup (.cons (.tup (.cons (.cst (.int 0)) (.cons (.cst (.int 1)) .nil))) (.cons (.tup (.cons (.cst (.int 0)) .nil)) .nil))) .nil))) .nil))))
  (.cons (.asg (.name 4) (.op .add (.cons (.var 4) (.cons (.lst (.cons (.tup (.cons (.tup (.cons (.tup (.cons (.cst (.int 1)) (.cons (.cst (.int 0)) .nil))) (.cons (.tup .nil) .nil))) (.cons (.tup (.cons (.tup (.cons (.cst (.int 0)) (.cons (.cst (.int 0)) .nil))) (.cons (.tup .nil) .nil))) .nil))) (.cons (.tup (.cons (.tup (.cons (.tup (.cons (.cst (.int 0)) (.cons (.cst (.int 0)) .nil))) (.cons (.tup .nil) .nil))) (.cons (.tup (.cons (.tup (.cons (.cst (.int 1)) (.cons (.cst (.int 1)) .nil))) (.cons (.tup .nil) .nil))) .nil))) .nil))) .nil))))
  (.cons (.for_ (.name 2) (.seq (.op .add (.cons (.var 4) (.cons (.lst (.cons (.tup .nil) (.cons (.cst .non) (.cons (.tup (.cons (.tup (.cons (.cst (.int 0)) (.cons (.cst (.int 0)) .nil))) (.cons (.tup (.cons (.cst (.int 0)) .nil)) .nil))) .nil)))) .nil)))) (.cons (.asg (.name 1) (.op .add (.cons (.var 1) (.cons (.lc [7] (.name 7) (.seq (.tup (.cons (.cst (.int 6)) (.cons (.cst (.int 7)) (.cons (.cst (.int 15)) .nil))))) (.cst (.bl true)) (.call 51 [] [] (.cons (.var 7) (.cons (.var 2) (.cons (.tup (.cons (.cst (.int 1)) (.cons (.cst (.int 1)) .nil))) .nil))))) .nil))))
  .nil))
  (.cons (.asg (.name 3) (.op .add (.cons (.var 3) (.cons (.op .mul (.cons (.lst (.cons (.lst (.cons (.cst (.str ("unfit" : Str))) (.cons (.cst (.bl true)) .nil))) .nil)) (.cons (.cst (.int 21)) .nil))) .nil))))
  (.cons (.asg (.name 1) (.op .add (.cons (.var 1) (.cons (.lc [2] (.name 2) (.seq (.tup (.cons (.tup (.cons (.cst (.int 0)) (.cons (.cst (.int 0)) .nil))) (.cons (.tup (.cons (.cst (.int 1)) (.cons (.cst (.int 2)) .nil))) (.cons (.tup (.cons (.cst (.int 5)) (.cons (.cst (.int 5)) .nil))) (.cons (.tup (.cons (.op .neg (.cons (.cst (.int 1)) .nil)) (.cons (.op .neg (.cons (.cst (.int 1)) .nil)) .nil))) .nil)))))) (.cst (.bl true)) (.call 51 [] [] (.cons (.cst (.int 10)) (.cons (.var 6) (.cons (.var 2) .nil))))) .nil))))
  (.cons (.asg (.name 1) (.op .add (.cons (.var 1) (.cons (.lc [2] (.name 2) (.seq (.tup (.cons (.tup (.cons (.cst (.int 1)) (.cons (.cst (.int 1)) .nil))) (.cons (.tup (.cons (.cst (.int 0)) (.cons (.cst (.int 0)) .nil))) (.cons (.tup (.cons (.cst (.int 0)) (.cons (.cst (.int 1)) .nil))) .nil))))) (.cst (.bl true)) (.call 51 [] [] (.cons (.cst (.int 11)) (.cons (.var 6) (.cons (.var 2) .nil))))) .nil))))
  (.cons (.asg (.name 3) (.op .add (.cons (.op .add (.cons (.var 3) (.cons (.op .mul (.cons (.lst (.cons (.lst (.cons (.cst (.str ("unfit" : Str))) (.cons (.cst (.bl true)) .nil))) .nil)) (.cons (.cst (.int 4)) .nil))) .nil))) (.cons (.lst (.cons (.lst (.cons (.cst (.str ("cell" : Str))) (.cons (.tup (.cons (.cst (.int 1)) (.cons (.cst (.int 1)) .nil))) (.cons (.cst (.bl true)) .nil)))) (.cons (.lst (.cons (.cst (.str ("unfit" : Str))) (.cons (.cst (.bl true)) .nil))) (.cons (.tup (.cons (.tup (.cons (.cst (.int 0)) (.cons (.cst (.int 0)) .nil))) (.cons (.tup (.cons (.cst (.int 1)) (.cons (.cst (.int 0)) .nil))) .nil))) .nil)))) .nil))))
  (.cons (.ret (.call 47 [] [] (.cons (.var 1) (.cons (.var 3) .nil))))
  .nil)))))))))))))))⟩
/-- _law_soft_right -/
def d_54 : Df := ⟨0, 6, [], (.cons (.par (.cons (.name 2) (.cons (.name 3) .nil)) (.cons (.call 50 [] [] .nil) (.cons (.tup (.cons (.tup (.cons (.tup (.cons (.cst (.int 0)) (.cons (.cst (.int 0)) .nil))) (.cons (.tup (.cons (.cst (.int 1)) (.cons (.cst (.int 0)) .nil))) .nil))) (.cons (.tup (.cons (.tup (.cons (.cst (.int 1)) (.cons (.cst (.int 0)) .nil))) (.cons (.tup (.cons (.cst (.int 0)) (.cons (.cst (.int 1)) .nil))) .nil))) .nil))) .nil)))
  (.cons (.par (.cons (.name 4) (.cons (.name 5) .nil)) (.cons (.call 46 [] [] (.cons (.var 2) .nil)) (.cons (.call 46 [] [] (.cons (.var 3) .nil)) .nil)))
  (.cons (.asg (.name 0) (.lst (.cons (.call 17 [1, 0] [] (.cons (.cst (.int 2)) (.cons (.var 4) .nil))) (.cons (.call 18 [0] [] (.cons (.var 4) .nil)) (.cons (.call 20 [1, 0] [] (.cons (.lst (.cons (.cst (.int 1)) (.cons (.cst (.int 1)) .nil))) (.cons (.var 4) .nil))) .nil)))))
  (.cons (.asg (.name 0) (.op .add (.cons (.var 0) (.cons (.lst (.cons (.call 22 [1, 0] [] (.cons (.lst (.cons (.cst (.int 0)) (.cons (.cst (.int 2)) .nil))) (.cons (.var 4) .nil))) (.cons (.call 51 [] [] (.cons (.cst (.int 11)) (.cons (.var 4) (.cons (.lst (.cons (.cst (.int 1)) (.cons (.cst (.int 1)) .nil))) .nil)))) .nil))) .nil))))
  (.cons (.asg (.name 1) (.lst (.cons (.tup (.cons (.tup (.cons (.cst (.int 0)) (.cons (.cst (.int 2)) .nil))) (.cons (.tup (.cons (.cst (.int 2)) (.cons (.cst (.int 0)) .nil))) .nil))) (.cons (.tup (.cons (.cst (.int 0)) (.cons (.cst (.int 3)) .nil))) (.cons (.cst (.bl true)) (.cons (.op .add (.cons (.op .slH (.cons (.var 2) (.cons (.cst (.int 2)) .nil))) (.cons (.op .slL (.cons (.var 2) (.cons (.cst (.int 3)) .nil))) .nil))) (.cons (.lst (.cons (.cst (.str ("cell" : Str))) (.cons (.tup (.cons (.cst (.int 1)) (.cons (.cst (.int 1)) .nil))) (.cons (.cst (.bl true)) .nil)))) .nil)))))))
  (.cons (.asg (.name 0) (.op .add (.cons (.var 0) (.cons (.lst (.cons (.call 21 [1, 0] [] (.cons (.lst (.cons (.cst (.int 1)) (.cons (.cst (.int 1)) .nil))) (.cons (.var 4) .nil))) (.cons (.op .len (.cons (.call 23 [0] [] (.cons (.var 4) .nil)) .nil)) (.cons (.call 14 [0] [] (.cons (.var 2) .nil)) (.cons (.call 14 [] [] (.cons (.var 4) .nil)) .nil))))) .nil))))
  (.cons (.asg (.name 0) (.op .add (.cons (.var 0) (.cons (.lst (.cons (.op .ix (.cons (.call 33 [0] [] (.cons (.var 4) .nil)) (.cons (.cst (.int 4)) .nil))) .nil)) .nil))))
  (.cons (.asg (.name 1) (.op .add (.cons (.var 1) (.cons (.lst (.cons (.op .add (.cons (.op .add (.cons (.op .slH (.cons (.var 2) (.cons (.cst (.int 4)) .nil))) (.cons (.tup (.cons (.tup (.cons (.cst (.int 1)) (.cons (.cst (.int 1)) .nil))) .nil)) .nil))) (.cons (.op .slL (.cons (.var 2) (.cons (.cst (.int 4)) .nil))) .nil))) (.cons (.cst (.int 11)) (.cons (.cst (.bl true)) (.cons (.cst (.bl false)) (.cons (.tup (.cons (.cst (.int 1)) (.cons (.cst (.int 2)) .nil))) .nil)))))) .nil))))
  (.cons (.asg (.name 0) (.op .add (.cons (.var 0) (.cons (.lst (.cons (.op .ix (.cons (.call 34 [0] [] (.cons (.var 4) .nil)) (.cons (.cst (.int 0)) .nil))) (.cons (.op .ix (.cons (.call 32 [1, 0] [] (.cons (.lst (.cons (.cst (.int 1)) (.cons (.cst (.int 0)) .nil))) (.cons (.var 4) .nil))) (.cons (.cst (.int 0)) .nil))) (.cons (.call 42 [1, 0] [] (.cons (.var 4) (.cons (.var 2) .nil))) .nil)))) .nil))))
  (.cons (.asg (.name 1) (.op .add (.cons (.var 1) (.cons (.lst (.cons (.tup (.cons (.op .neg (.cons (.cst (.int 2)) .nil)) (.cons (.op .neg (.cons (.cst (.int 1)) .nil)) .nil))) (.cons (.tup (.cons (.cst (.int 1)) (.cons (.cst (.int 0)) .nil))) (.cons (.cst (.bl true)) .nil)))) .nil))))
  (.cons (.asg (.name 0) (.op .add (.cons (.var 0) (.cons (.lst (.cons (.call 35 [1, 0] [] (.cons (.lst (.cons (.cst (.int 0)) (.cons (.cst (.int 2)) .nil))) (.cons (.op .ix (.cons (.var 5) (.cons (.cst (.int 0)) .nil))) .nil))) (.cons (.call 36 [0] [] (.cons (.op .ix (.cons (.var 5) (.cons (.cst (.int 0)) .nil))) .nil)) .nil))) .nil))))
  (.cons (.asg (.name 0) (.op .add (.cons (.var 0) (.cons (.lst (.cons (.call 37 [0] [] (.cons (.op .ix (.cons (.var 5) (.cons (.cst (.int 1)) .nil))) .nil)) .nil)) .nil))))
  (.cons (.asg (.name 1) (.op .add (.cons (.var 1) (.cons (.lst (.cons (.tup (.cons (.tup (.cons (.cst (.int 0)) (.cons (.cst (.int 2)) .nil))) (.cons (.tup (.cons (.cst (.int 1)) (.cons (.cst (.int 0)) .nil))) .nil))) (.cons (.tup (.cons (.tup (.cons (.cst (.int 0)) (.cons (.cst (.int 0)) .nil))) (.cons (.tup (.cons (.cst (.int 0)) (.cons (.cst (.int 1)) .nil))) .nil))) (.cons (.tup (.cons (.tup (.cons (.op .neg (.cons (.cst (.int 2)) .nil)) (.cons (.op .neg (.cons (.cst (.int 1)) .nil)) .nil))) (.cons (.tup (.cons (.cst (.int 1)) (.cons (.cst (.int 0)) .nil))) .nil))) .nil)))) .nil))))
  (.cons (.asg (.name 0) (.op .add (.cons (.var 0) (.cons (.lst (.cons (.call 38 [1, 0] [] (.cons (.lst (.cons (.cst (.int 0)) (.cons (.cst (.int 0)) .nil))) (.cons (.var 5) .nil))) (.cons (.call 39 [0] [] (.cons (.var 5) .nil)) .nil))) .nil))))
  (.cons (.asg (.name 0) (.op .add (.cons (.var 0) (.cons (.lst (.cons (.call 40 [0] [] (.cons (.var 5) .nil)) (.cons (.var 4) (.cons (.var 5) .nil)))) .nil))))
  (.cons (.asg (.name 1) (.op .add (.cons (.var 1) (.cons (.lst (.cons (.var 3) (.cons (.tup (.cons (.tup (.cons (.tup (.cons (.cst (.int 0)) (.cons (.cst (.int 0)) .nil))) (.cons (.tup (.cons (.cst (.int 0)) (.cons (.cst (.int 1)) .nil))) .nil))) (.cons (.tup (.cons (.tup (.cons (.cst (.int 0)) (.cons (.cst (.int 1)) .nil))) (.cons (.tup (.cons (.cst (.int 1)) (.cons (.cst (.int 0)) .nil))) .nil))) .nil))) (.cons (.tup (.cons (.tup (.cons (.tup (.cons (.op .neg (.cons (.cst (.int 2)) .nil)) (.cons (.op .neg (.cons (.cst (.int 1)) .nil)) .nil))) (.cons (.tup (.cons (.cst (.int 1)) (.cons (.cst (.int 0)) .nil))) .nil))) (.cons (.tup (.cons (.tup (.cons (.op .neg (.cons (.cst (.int 1)) .nil)) (.cons (.op .neg (.cons (.cst (.int 1)) .nil)) .nil))) (.cons (.tup (.cons (.cst (.int 0)) (.cons (.cst (.int 1)) .nil))) .nil))) .nil))) .nil)))) .nil))))
  (.cons (.ret (.call 47 [] [] (.cons (.var 0) (.cons (.op .add (.cons (.var 1) (.cons (.lst (.cons (.call 46 [] [] (.cons (.var 2) .nil)) (.cons (.call 46 [] [] (.cons (.var 3) .nil)) .nil))) .nil))) .nil))))
  .nil)))))))))))))))))⟩
/-- law -/
def d_55 : Df := ⟨1, 1, [], (.cons (.ifs (.op .not_ (.cons (.call 52 [] [] .nil) .nil)) (.cons (.ret (.cst (.bl false)))
  .nil) .nil)
  (.cons (.ret (.ite (.op .eq (.cons (.call 44 [] [none] (.cons (.call 43 [] [] (.cons (.call 45 [] [] (.cons (.var 0) (.cons (.cst (.int 1)) .nil))) (.cons (.cst (.int 0)) .nil))) (.cons (.cst (.int 2)) .nil))) (.cons (.cst (.int 0)) .nil))) (.call 53 [] [] .nil) (.call 54 [] [] .nil)))
  .nil))⟩
def dfs : List Df := [d_0, d_1, d_2, d_3, d_4, d_5, d_6, d_7, d_8, d_9, d_10, d_11, d_12, d_13, d_14, d_15, d_16, d_17, d_18, d_19, d_20, d_21, d_22, d_23, d_24, d_25, d_26, d_27, d_28, d_29, d_30, d_31, d_32, d_33, d_34, d_35, d_36, d_37, d_38, d_39, d_40, d_41, d_42, d_43, d_44, d_45, d_46, d_47, d_48, d_49, d_50, d_51, d_52, d_53, d_54, d_55]
def nthD : List Df → Nat → Option Df
  | [], _ => none
  | d :: r, i => match i with
    | 0 => some d
    | j + 1 => nthD r j
def Tb (i : Nat) : Option Df := nthD dfs i
abbrev Pw : Program := PySem.Challenge.pw_stairlaid_k51_cells_and_spaces_by_hand_a
def topS (i : Nat) : Stmt := Pw.main.body.getD i (.Pass ⟨0, 0, 0, 0⟩)
def nmL : List Str := [("is_number" : Str), ("is_within" : Str), ("is_long" : Str), ("tupled" : Str), ("ascends" : Str), ("set_of" : Str), ("minus" : Str), ("is_pair" : Str), ("diagonal_of" : Str), ("spot_of" : Str), ("beside" : Str), ("hang_together" : Str), ("shut_nothing_in" : Str), ("are_floor" : Str), ("is_floor" : Str), ("sure_floor" : Str), ("cells_on" : Str), ("diagonal" : Str), ("span" : Str), ("with_cell" : Str), ("can_grow" : Str), ("grown" : Str), ("shrunk" : Str), ("borders" : Str), ("is_stair" : Str), ("sure_stair" : Str), ("cells_by" : Str), ("cells_of" : Str), ("all_cells" : Str), ("are_stairs" : Str), ("sure_laying" : Str), ("moved" : Str), ("shifted" : Str), ("mirrored" : Str), ("half_turned" : Str), ("stair_shifted" : Str), ("stair_mirrored" : Str), ("stair_half_turned" : Str), ("laying_shifted" : Str), ("laying_mirrored" : Str), ("laying_half_turned" : Str), ("least_form" : Str), ("alike" : Str), ("_law_box" : Str), ("_law_take" : Str), ("_law_cells" : Str), ("_law_lists" : Str), ("_law_same" : Str), ("_law_oblong" : Str), ("_law_corner" : Str), ("_law_cup" : Str), ("_law_heard" : Str), ("_law_always_right" : Str), ("_law_refused_right" : Str), ("_law_soft_right" : Str), ("law" : Str)]
def clL : List Str := [("NoCell" : Str), ("" : Str), ("" : Str), ("" : Str), ("" : Str), ("" : Str), ("" : Str), ("" : Str), ("Unfit" : Str)]
def cfL : List Str := [("cell" : Str), ("" : Str), ("" : Str), ("" : Str), ("" : Str), ("" : Str), ("" : Str), ("" : Str), ("" : Str)]
def frL : List Nat := [10, 28, 43, 45]
def knL : List Nat := [0, 8]
def G0 (K : PySem.W.Frag) (w : World) : Gx := ⟨K, w, fun g => He.ga K (nmL.getD g ""), fun c => He.ga K (clL.getD c ""), fun c => cfL.getD c "", fun g => frL.any fun j => Nat.beq j g, fun c => knL.any fun j => Nat.beq j c⟩
structure Fx (P : Program) (K : PySem.W.Frag) (mg : Str → Option Value) : Prop where
  b_LookupError : mg "LookupError" = none
  b_ValueError : mg "ValueError" = none
  b_abs : mg "abs" = none
  b_all : mg "all" = none
  b_bool : mg "bool" = none
  b_dict : mg "dict" = none
  b_enumerate : mg "enumerate" = none
  b_int : mg "int" = none
  b_isinstance : mg "isinstance" = none
  b_len : mg "len" = none
  b_list : mg "list" = none
  b_max : mg "max" = none
  b_min : mg "min" = none
  b_range : mg "range" = none
  b_set : mg "set" = none
  b_sorted : mg "sorted" = none
  b_str : mg "str" = none
  b_tuple : mg "tuple" = none
  b_zip : mg "zip" = none
  m_17 : mg "diagonal" = some (.ref (He.ga K "diagonal"))
  m_18 : mg "span" = some (.ref (He.ga K "span"))
  m_20 : mg "can_grow" = some (.ref (He.ga K "can_grow"))
  m_21 : mg "grown" = some (.ref (He.ga K "grown"))
  m_22 : mg "shrunk" = some (.ref (He.ga K "shrunk"))
  m_23 : mg "borders" = some (.ref (He.ga K "borders"))
  m_32 : mg "shifted" = some (.ref (He.ga K "shifted"))
  m_33 : mg "mirrored" = some (.ref (He.ga K "mirrored"))
  m_34 : mg "half_turned" = some (.ref (He.ga K "half_turned"))
  m_35 : mg "stair_shifted" = some (.ref (He.ga K "stair_shifted"))
  m_36 : mg "stair_mirrored" = some (.ref (He.ga K "stair_mirrored"))
  m_37 : mg "stair_half_turned" = some (.ref (He.ga K "stair_half_turned"))
  m_38 : mg "laying_shifted" = some (.ref (He.ga K "laying_shifted"))
  m_39 : mg "laying_mirrored" = some (.ref (He.ga K "laying_mirrored"))
  m_40 : mg "laying_half_turned" = some (.ref (He.ga K "laying_half_turned"))
  m_42 : mg "alike" = some (.ref (He.ga K "alike"))
  ec_0 : Ec K mg "NoCell" (He.ga K "NoCell")
  sp_0 : SupC P K mg (He.ga K "NoCell") "cell"
  xf_0 : XfC K (He.ga K "NoCell")
  no_0 : PySem.W.findIn K (.ref (He.ga K "NoCell")) "cell" = some none
  ec_8 : Ec K mg "Unfit" (He.ga K "Unfit")
  ex_8 : PySem.W.excIn K (He.ga K "Unfit") [.type "ValueError", .type "Exception", .type "BaseException", .type "object"] "ValueError.__new__" = true
  ki_0 : ∀ c, (knL.any fun j => Nat.beq j c) = true → PySem.W.SlExc K (He.ga K (clL.getD c "")) ∧ PySem.W.kitOne K (.ref (He.ga K (clL.getD c ""))) (.type "LookupError") = some (Nat.beq (baseOf c) 0)
  ki_1 : ∀ c, (knL.any fun j => Nat.beq j c) = true → PySem.W.SlExc K (He.ga K (clL.getD c "")) ∧ PySem.W.kitOne K (.ref (He.ga K (clL.getD c ""))) (.type "ValueError") = some (Nat.beq (baseOf c) 1)
  exm : ∀ c n, (knL.any fun j => Nat.beq j c) = true → (knL.any fun j => Nat.beq j n) = true → PySem.W.exmOne K (.ref (He.ga K (clL.getD c ""))) (.ref (He.ga K (clL.getD n ""))) = some (Nat.beq c n)
def WN : Nat := 1000
section
variable {P : Program} {w : World} {K : PySem.W.Frag} {mg : Str → Option Value} {base : Heap} {n : Nat}
structure Al (P : Program) (w : World) (K : PySem.W.Frag) (mg : Str → Option Value) (base : Heap) (n : Nat) : Prop where
  k_0 : Kn P w K mg base (G0 K w) (runF Tb WN n) n 0 none "is_number" (topS 4) [("thing" : Str)]
  k_1 : Kn P w K mg base (G0 K w) (runF Tb WN n) n 1 none "is_within" (topS 5) [("thing" : Str), ("least" : Str), ("most" : Str)]
  k_2 : Kn P w K mg base (G0 K w) (runF Tb WN n) n 2 none "is_long" (topS 6) [("thing" : Str), ("length" : Str)]
  k_3 : Kn P w K mg base (G0 K w) (runF Tb WN n) n 3 none "tupled" (topS 7) [("value" : Str)]
  k_4 : Kn P w K mg base (G0 K w) (runF Tb WN n) n 4 none "ascends" (topS 8) [("row" : Str)]
  k_5 : Kn P w K mg base (G0 K w) (runF Tb WN n) n 5 none "set_of" (topS 9) [("row" : Str)]
  k_6 : Kn P w K mg base (G0 K w) (runF Tb WN n) n 6 none "minus" (topS 10) [("one" : Str), ("other" : Str)]
  k_7 : Kn P w K mg base (G0 K w) (runF Tb WN n) n 7 none "is_pair" (topS 11) [("thing" : Str)]
  k_8 : Kn P w K mg base (G0 K w) (runF Tb WN n) n 8 none "diagonal_of" (topS 12) [("cell" : Str)]
  k_9 : Kn P w K mg base (G0 K w) (runF Tb WN n) n 9 none "spot_of" (topS 13) [("cell" : Str)]
  k_10 : Kn P w K mg base (G0 K w) (runF Tb WN n) n 10 none "beside" (topS 14) [("cell" : Str)]
  k_11 : Kn P w K mg base (G0 K w) (runF Tb WN n) n 11 none "hang_together" (topS 16) [("cells" : Str)]
  k_12 : Kn P w K mg base (G0 K w) (runF Tb WN n) n 12 none "shut_nothing_in" (topS 17) [("cells" : Str)]
  k_13 : Kn P w K mg base (G0 K w) (runF Tb WN n) n 13 none "are_floor" (topS 18) [("cells" : Str)]
  k_14 : Kn P w K mg base (G0 K w) (runF Tb WN n) n 14 none "is_floor" (topS 19) [("thing" : Str)]
  k_15 : Kn P w K mg base (G0 K w) (runF Tb WN n) n 15 none "sure_floor" (topS 20) [("floor" : Str)]
  k_16 : Kn P w K mg base (G0 K w) (runF Tb WN n) n 16 none "cells_on" (topS 21) [("cells" : Str), ("number" : Str)]
  k_17 : Kn P w K mg base (G0 K w) (runF Tb WN n) n 17 none "diagonal" (topS 22) [("floor" : Str), ("number" : Str)]
  k_18 : Kn P w K mg base (G0 K w) (runF Tb WN n) n 18 none "span" (topS 23) [("floor" : Str)]
  k_19 : Kn P w K mg base (G0 K w) (runF Tb WN n) n 19 none "with_cell" (topS 24) [("cells" : Str), ("cell" : Str)]
  k_20 : Kn P w K mg base (G0 K w) (runF Tb WN n) n 20 none "can_grow" (topS 25) [("floor" : Str), ("cell" : Str)]
  k_21 : Kn P w K mg base (G0 K w) (runF Tb WN n) n 21 none "grown" (topS 26) [("floor" : Str), ("cell" : Str)]
  k_22 : Kn P w K mg base (G0 K w) (runF Tb WN n) n 22 none "shrunk" (topS 27) [("floor" : Str), ("cell" : Str)]
  k_23 : Kn P w K mg base (G0 K w) (runF Tb WN n) n 23 none "borders" (topS 28) [("floor" : Str)]
  k_24 : Kn P w K mg base (G0 K w) (runF Tb WN n) n 24 none "is_stair" (topS 30) [("thing" : Str)]
  k_25 : Kn P w K mg base (G0 K w) (runF Tb WN n) n 25 none "sure_stair" (topS 31) [("stair" : Str)]
  k_26 : Kn P w K mg base (G0 K w) (runF Tb WN n) n 26 none "cells_by" (topS 32) [("stair" : Str)]
  k_27 : Kn P w K mg base (G0 K w) (runF Tb WN n) n 27 none "cells_of" (topS 33) [("stair" : Str)]
  k_28 : Kn P w K mg base (G0 K w) (runF Tb WN n) n 28 none "all_cells" (topS 34) [("stairs" : Str)]
  k_29 : Kn P w K mg base (G0 K w) (runF Tb WN n) n 29 none "are_stairs" (topS 35) [("thing" : Str), ("size" : Str)]
  k_30 : Kn P w K mg base (G0 K w) (runF Tb WN n) n 30 none "sure_laying" (topS 36) [("laying" : Str)]
  k_31 : Kn P w K mg base (G0 K w) (runF Tb WN n) n 31 none "moved" (topS 38) [("cell" : Str), ("by" : Str)]
  k_32 : Kn P w K mg base (G0 K w) (runF Tb WN n) n 32 none "shifted" (topS 39) [("floor" : Str), ("by" : Str)]
  k_33 : Kn P w K mg base (G0 K w) (runF Tb WN n) n 33 none "mirrored" (topS 40) [("floor" : Str)]
  k_34 : Kn P w K mg base (G0 K w) (runF Tb WN n) n 34 none "half_turned" (topS 41) [("floor" : Str)]
  k_35 : Kn P w K mg base (G0 K w) (runF Tb WN n) n 35 none "stair_shifted" (topS 42) [("stair" : Str), ("by" : Str)]
  k_36 : Kn P w K mg base (G0 K w) (runF Tb WN n) n 36 none "stair_mirrored" (topS 43) [("stair" : Str)]
  k_37 : Kn P w K mg base (G0 K w) (runF Tb WN n) n 37 none "stair_half_turned" (topS 44) [("stair" : Str)]
  k_38 : Kn P w K mg base (G0 K w) (runF Tb WN n) n 38 none "laying_shifted" (topS 45) [("laying" : Str), ("by" : Str)]
  k_39 : Kn P w K mg base (G0 K w) (runF Tb WN n) n 39 none "laying_mirrored" (topS 46) [("laying" : Str)]
  k_40 : Kn P w K mg base (G0 K w) (runF Tb WN n) n 40 none "laying_half_turned" (topS 47) [("laying" : Str)]
  k_41 : Kn P w K mg base (G0 K w) (runF Tb WN n) n 41 none "least_form" (topS 48) [("floor" : Str)]
  k_42 : Kn P w K mg base (G0 K w) (runF Tb WN n) n 42 none "alike" (topS 49) [("floor" : Str), ("other" : Str)]
  k_43 : Kn P w K mg base (G0 K w) (runF Tb WN n) n 43 none "_law_box" (topS 51) [("script" : Str), ("k" : Str)]
  k_44 : Kn P w K mg base (G0 K w) (runF Tb WN n) n 44 (some 0) "_law_take" (topS 52) [("tin" : Str), ("below_so" : Str)]
  k_45 : Kn P w K mg base (G0 K w) (runF Tb WN n) n 45 none "_law_cells" (topS 53) [("script" : Str), ("most_so" : Str)]
  k_46 : Kn P w K mg base (G0 K w) (runF Tb WN n) n 46 none "_law_lists" (topS 54) [("matter" : Str)]
  k_47 : Kn P w K mg base (G0 K w) (runF Tb WN n) n 47 none "_law_same" (topS 55) [("got" : Str), ("due" : Str)]
  k_48 : Kn P w K mg base (G0 K w) (runF Tb WN n) n 48 none "_law_oblong" (topS 56) [("wide_so" : Str), ("high_so" : Str)]
  k_49 : Kn P w K mg base (G0 K w) (runF Tb WN n) n 49 none "_law_corner" (topS 57) []
  k_50 : Kn P w K mg base (G0 K w) (runF Tb WN n) n 50 none "_law_cup" (topS 58) []
  k_51 : Kn P w K mg base (G0 K w) (runF Tb WN n) n 51 none "_law_heard" (topS 59) [("door" : Str), ("one" : Str), ("two" : Str)]
  k_52 : Kn P w K mg base (G0 K w) (runF Tb WN n) n 52 none "_law_always_right" (topS 60) []
  k_53 : Kn P w K mg base (G0 K w) (runF Tb WN n) n 53 none "_law_refused_right" (topS 61) []
  k_54 : Kn P w K mg base (G0 K w) (runF Tb WN n) n 54 none "_law_soft_right" (topS 62) []
  k_55 : Kn P w K mg base (G0 K w) (runF Tb WN n) n 55 none "law" (topS 63) [("script" : Str)]
theorem kvs (A : Al P w K mg base n) : ∀ g ∈ ([17, 18, 20, 21, 22, 23, 32, 33, 34, 35, 36, 37, 38, 39, 40, 42] : List Nat), Kv P w K mg base (G0 K w) (runF Tb WN n) n g := by
  intro g hg
  simp only [List.mem_cons, List.not_mem_nil, or_false] at hg
  rcases hg with rfl | rfl | rfl | rfl | rfl | rfl | rfl | rfl | rfl | rfl | rfl | rfl | rfl | rfl | rfl | rfl
  · exact Kn.kv A.k_17
  · exact Kn.kv A.k_18
  · exact Kn.kv A.k_20
  · exact Kn.kv A.k_21
  · exact Kn.kv A.k_22
  · exact Kn.kv A.k_23
  · exact Kn.kv A.k_32
  · exact Kn.kv A.k_33
  · exact Kn.kv A.k_34
  · exact Kn.kv A.k_35
  · exact Kn.kv A.k_36
  · exact Kn.kv A.k_37
  · exact Kn.kv A.k_38
  · exact Kn.kv A.k_39
  · exact Kn.kv A.k_40
  · exact Kn.kv A.k_42
theorem sc_0 : FnScope [("thing" : Str)] [("thing" : Str)] (defScope (topS 4)) := ⟨rfl, rfl, rfl, by decide +kernel, rfl, by decide +kernel, by decide +kernel⟩
theorem ok_0 (fx : Fx P K mg) (A : Al P w K mg base n) {fd : FuncData} (Fd : L2.Fun K "is_number" "is_number" (topS 4) (He.ga K "is_number") fd) : FnOk P w K mg base (L2.CX P w) (n + 1) (He.ga K "is_number") fd [("thing" : Str)] (spF (G0 K w) (runF Tb WN (n + 1)) 0 none) :=
  fn_ok (F := runF Tb WN n) (wn := WN) (hot := []) Fd sc_0 d_0 (fun vs => rfl) rfl rfl rfl rfl (fun cdv A' outer s H E B sx hr aw hfr hB =>
  (pSs_cons (pS_ret (pE_and sx.K (pE_isi sx.K (by decide) rfl fx.b_isinstance rfl fx.b_int (boot_int') (pE_var 0)) (pE_one (pE_un (ur_not sx.K) (pE_isi sx.K (by decide) rfl fx.b_isinstance rfl fx.b_bool (boot_bool') (pE_var 0))))) (by first | (rw [hfr]; rfl) | (show (!B.fr || _) = true; rw [hfr]; rfl)))
  pSs_nil)) rfl rfl
theorem sc_1 : FnScope [("thing" : Str), ("least" : Str), ("most" : Str)] [("thing" : Str), ("least" : Str), ("most" : Str)] (defScope (topS 5)) := ⟨rfl, rfl, rfl, by decide +kernel, rfl, by decide +kernel, by decide +kernel⟩
theorem ok_1 (fx : Fx P K mg) (A : Al P w K mg base n) {fd : FuncData} (Fd : L2.Fun K "is_within" "is_within" (topS 5) (He.ga K "is_within") fd) : FnOk P w K mg base (L2.CX P w) (n + 1) (He.ga K "is_within") fd [("thing" : Str), ("least" : Str), ("most" : Str)] (spF (G0 K w) (runF Tb WN (n + 1)) 1 none) :=
  fn_ok (F := runF Tb WN n) (wn := WN) (hot := []) Fd sc_1 d_1 (fun vs => rfl) rfl rfl rfl rfl (fun cdv A' outer s H E B sx hr aw hfr hB =>
  (pSs_cons (pS_ret (pE_and sx.K (pE_call sx hr A.k_0 rfl (pAs_cons (pE_var 0) pAs_nil)) (pE_one (pE_chain (or_le sx.K (Sx.u70 sx)) (or_le sx.K (Sx.u70 sx)) (pE_var 1) (pE_var 0) (pE_var 2)))) (by first | (rw [hfr]; rfl) | (show (!B.fr || _) = true; rw [hfr]; rfl)))
  pSs_nil)) rfl rfl
theorem sc_2 : FnScope [("thing" : Str), ("length" : Str)] [("thing" : Str), ("length" : Str)] (defScope (topS 6)) := ⟨rfl, rfl, rfl, by decide +kernel, rfl, by decide +kernel, by decide +kernel⟩
theorem ok_2 (fx : Fx P K mg) (A : Al P w K mg base n) {fd : FuncData} (Fd : L2.Fun K "is_long" "is_long" (topS 6) (He.ga K "is_long") fd) : FnOk P w K mg base (L2.CX P w) (n + 1) (He.ga K "is_long") fd [("thing" : Str), ("length" : Str)] (spF (G0 K w) (runF Tb WN (n + 1)) 2 none) :=
  fn_ok (F := runF Tb WN n) (wn := WN) (hot := []) Fd sc_2 d_2 (fun vs => rfl) rfl rfl rfl rfl (fun cdv A' outer s H E B sx hr aw hfr hB =>
  (pSs_cons (pS_ret (pE_and sx.K (pE_isi sx.K (by decide) rfl fx.b_isinstance rfl fx.b_tuple (boot_tuple') (pE_var 0)) (pE_one (pE_cmp (or_eq sx.K (Sx.u70 sx)) (pE_callB (cr_len sx.K sx.w) rfl fx.b_len (boot_len') (pAs_cons (pE_var 0) pAs_nil)) (pE_var 1) (by with_unfolding_all rfl)))) (by first | (rw [hfr]; rfl) | (show (!B.fr || _) = true; rw [hfr]; rfl)))
  pSs_nil)) rfl rfl
theorem sc_3 : FnScope [("value" : Str), ("own" : Str)] [("value" : Str)] (defScope (topS 7)) := ⟨rfl, rfl, rfl, by decide +kernel, rfl, by decide +kernel, by decide +kernel⟩
theorem ok_3 (fx : Fx P K mg) (A : Al P w K mg base n) {fd : FuncData} (Fd : L2.Fun K "tupled" "tupled" (topS 7) (He.ga K "tupled") fd) : FnOk P w K mg base (L2.CX P w) (n + 1) (He.ga K "tupled") fd [("value" : Str)] (spF (G0 K w) (runF Tb WN (n + 1)) 3 none) :=
  fn_ok (F := runF Tb WN n) (wn := WN) (hot := []) Fd sc_3 d_3 (fun vs => rfl) rfl rfl rfl rfl (fun cdv A' outer s H E B sx hr aw hfr hB =>
  (pSs_cons (pS_ret (pE_ite (pT_val sx.K (pE_isi2 (m := 16) (n := 8) sx.K (by decide) (by decide) (by decide) rfl fx.b_isinstance rfl fx.b_list (boot_list') rfl fx.b_tuple (boot_tuple') (pE_var 0))) (pE_callTy (cr_tuple sx.K) rfl fx.b_tuple (boot_tuple') (pAs_cons (pE_lc [(("own" : Str), 1)] rfl sx.nd (pI_seq sx.K (pE_var 0)) (blkOk_by (by kernel_rfl)) (fun _ _ _ _ _ => (pG_name 1 (Sx.blk sx).nd rfl (by first | exact Or.inl rfl | exact Or.inr rfl))) (fun _ _ _ _ _ => pTs_nil) (fun _ _ _ _ _ => (pE_call (Sx.blk sx) hr A.k_3 rfl (pAs_cons (pE_var 1) pAs_nil)))) pAs_nil)) (pE_var 0)) (by first | (rw [hfr]; rfl) | (show (!B.fr || _) = true; rw [hfr]; rfl)))
  pSs_nil)) rfl rfl
theorem sc_4 : FnScope [("row" : Str), ("k" : Str)] [("row" : Str)] (defScope (topS 8)) := ⟨rfl, rfl, rfl, by decide +kernel, rfl, by decide +kernel, by decide +kernel⟩
theorem ok_4 (fx : Fx P K mg) (A : Al P w K mg base n) {fd : FuncData} (Fd : L2.Fun K "ascends" "ascends" (topS 8) (He.ga K "ascends") fd) : FnOk P w K mg base (L2.CX P w) (n + 1) (He.ga K "ascends") fd [("row" : Str)] (spF (G0 K w) (runF Tb WN (n + 1)) 4 none) :=
  fn_ok (F := runF Tb WN n) (wn := WN) (hot := []) Fd sc_4 d_4 (fun vs => rfl) rfl rfl rfl rfl (fun cdv A' outer s H E B sx hr aw hfr hB =>
  (pSs_cons (pS_ret (pE_callB (cr_all' sx.K rfl) rfl fx.b_all (boot_all') (pAs_cons (pE_lc [(("k" : Str), 1)] rfl sx.nd (pI_range1 rfl fx.b_range (pE_bin (or_sub) (pE_callB (cr_len sx.K sx.w) rfl fx.b_len (boot_len') (pAs_cons (pE_var 0) pAs_nil)) pE_int)) (blkOk_by (by kernel_rfl)) (fun _ _ _ _ _ => (pG_name 1 (Sx.blk sx).nd rfl (by first | exact Or.inl rfl | exact Or.inr rfl))) (fun _ _ _ _ _ => pTs_nil) (fun _ _ _ _ _ => (pE_cmp (or_lt (Sx.blk sx).K (Sx.u70 (Sx.blk sx))) (pE_ix (ir_ix (Sx.blk sx).K (Sx.blk sx).w (Sx.u70 (Sx.blk sx))) (pE_var 0) (pE_var 1) (fun _ _ => rfl)) (pE_ix (ir_ix (Sx.blk sx).K (Sx.blk sx).w (Sx.u70 (Sx.blk sx))) (pE_var 0) (pE_bin (or_add (Sx.blk sx).K) (pE_var 1) pE_int) (fun _ _ => rfl)) (by with_unfolding_all rfl)))) pAs_nil)) (by first | (rw [hfr]; rfl) | (show (!B.fr || _) = true; rw [hfr]; rfl)))
  pSs_nil)) rfl rfl
theorem sc_5 : FnScope [("row" : Str)] [("row" : Str)] (defScope (topS 9)) := ⟨rfl, rfl, rfl, by decide +kernel, rfl, by decide +kernel, by decide +kernel⟩
theorem ok_5 (fx : Fx P K mg) (A : Al P w K mg base n) {fd : FuncData} (Fd : L2.Fun K "set_of" "set_of" (topS 9) (He.ga K "set_of") fd) : FnOk P w K mg base (L2.CX P w) (n + 1) (He.ga K "set_of") fd [("row" : Str)] (spF (G0 K w) (runF Tb WN (n + 1)) 5 none) :=
  fn_ok (F := runF Tb WN n) (wn := WN) (hot := []) Fd sc_5 d_5 (fun vs => rfl) rfl rfl rfl rfl (fun cdv A' outer s H E B sx hr aw hfr hB =>
  (pSs_cons (pS_ret (pE_callTy (cr_tuple sx.K) rfl fx.b_tuple (boot_tuple') (pAs_cons (pE_sset sx.K sx.w sx.un rfl fx.b_sorted fx.b_set rfl rfl (pE_var 0)) pAs_nil)) (by first | (rw [hfr]; rfl) | (show (!B.fr || _) = true; rw [hfr]; rfl)))
  pSs_nil)) rfl rfl
theorem sc_6 : FnScope [("one" : Str), ("other" : Str), ("own" : Str)] [("one" : Str), ("other" : Str)] (defScope (topS 10)) := ⟨rfl, rfl, rfl, by decide +kernel, rfl, by decide +kernel, by decide +kernel⟩
theorem ok_6 (fx : Fx P K mg) (A : Al P w K mg base n) {fd : FuncData} (Fd : L2.Fun K "minus" "minus" (topS 10) (He.ga K "minus") fd) : FnOk P w K mg base (L2.CX P w) (n + 1) (He.ga K "minus") fd [("one" : Str), ("other" : Str)] (spF (G0 K w) (runF Tb WN (n + 1)) 6 none) :=
  fn_ok (F := runF Tb WN n) (wn := WN) (hot := []) Fd sc_6 d_6 (fun vs => rfl) rfl rfl rfl rfl (fun cdv A' outer s H E B sx hr aw hfr hB =>
  (pSs_cons (pS_ret (pE_callTy (cr_tuple sx.K) rfl fx.b_tuple (boot_tuple') (pAs_cons (pE_lc [(("own" : Str), 2)] rfl sx.nd (pI_seq sx.K (pE_var 0)) (blkOk_by (by kernel_rfl)) (fun _ _ _ _ _ => (pG_name 2 (Sx.blk sx).nd rfl (by first | exact Or.inl rfl | exact Or.inr rfl))) (fun _ _ _ _ _ => (pTs_one (pT_cmp' (or_notin (Sx.blk sx).K (Sx.blk sx).w (Sx.u70 (Sx.blk sx))) (pE_var 2) (pE_var 1) (by with_unfolding_all rfl)))) (fun _ _ _ _ _ => (pE_var 2))) pAs_nil)) (by first | (rw [hfr]; rfl) | (show (!B.fr || _) = true; rw [hfr]; rfl)))
  pSs_nil)) rfl rfl
theorem sc_7 : FnScope [("thing" : Str), ("own" : Str)] [("thing" : Str)] (defScope (topS 11)) := ⟨rfl, rfl, rfl, by decide +kernel, rfl, by decide +kernel, by decide +kernel⟩
theorem ok_7 (fx : Fx P K mg) (A : Al P w K mg base n) {fd : FuncData} (Fd : L2.Fun K "is_pair" "is_pair" (topS 11) (He.ga K "is_pair") fd) : FnOk P w K mg base (L2.CX P w) (n + 1) (He.ga K "is_pair") fd [("thing" : Str)] (spF (G0 K w) (runF Tb WN (n + 1)) 7 none) :=
  fn_ok (F := runF Tb WN n) (wn := WN) (hot := []) Fd sc_7 d_7 (fun vs => rfl) rfl rfl rfl rfl (fun cdv A' outer s H E B sx hr aw hfr hB =>
  (pSs_cons (pS_ret (pE_and sx.K (pE_call sx hr A.k_2 rfl (pAs_cons (pE_var 0) (pAs_cons pE_int pAs_nil))) (pE_one (pE_callB (cr_all' sx.K rfl) rfl fx.b_all (boot_all') (pAs_cons (pE_lc [(("own" : Str), 1)] rfl sx.nd (pI_seq sx.K (pE_var 0)) (blkOk_by (by kernel_rfl)) (fun _ _ _ _ _ => (pG_name 1 (Sx.blk sx).nd rfl (by first | exact Or.inl rfl | exact Or.inr rfl))) (fun _ _ _ _ _ => pTs_nil) (fun _ _ _ _ _ => (pE_call (Sx.blk sx) hr A.k_0 rfl (pAs_cons (pE_var 1) pAs_nil)))) pAs_nil)))) (by first | (rw [hfr]; rfl) | (show (!B.fr || _) = true; rw [hfr]; rfl)))
  pSs_nil)) rfl rfl
theorem sc_8 : FnScope [("cell" : Str)] [("cell" : Str)] (defScope (topS 12)) := ⟨rfl, rfl, rfl, by decide +kernel, rfl, by decide +kernel, by decide +kernel⟩
theorem ok_8 (fx : Fx P K mg) (A : Al P w K mg base n) {fd : FuncData} (Fd : L2.Fun K "diagonal_of" "diagonal_of" (topS 12) (He.ga K "diagonal_of") fd) : FnOk P w K mg base (L2.CX P w) (n + 1) (He.ga K "diagonal_of") fd [("cell" : Str)] (spF (G0 K w) (runF Tb WN (n + 1)) 8 none) :=
  fn_ok (F := runF Tb WN n) (wn := WN) (hot := []) Fd sc_8 d_8 (fun vs => rfl) rfl rfl rfl rfl (fun cdv A' outer s H E B sx hr aw hfr hB =>
  (pSs_cons (pS_ret (pE_bin (or_add sx.K) (pE_ix (ir_ix sx.K sx.w (Sx.u70 sx)) (pE_var 0) pE_int (fun _ _ => rfl)) (pE_ix (ir_ix sx.K sx.w (Sx.u70 sx)) (pE_var 0) pE_int (fun _ _ => rfl))) (by first | (rw [hfr]; rfl) | (show (!B.fr || _) = true; rw [hfr]; rfl)))
  pSs_nil)) rfl rfl
theorem sc_9 : FnScope [("cell" : Str)] [("cell" : Str)] (defScope (topS 13)) := ⟨rfl, rfl, rfl, by decide +kernel, rfl, by decide +kernel, by decide +kernel⟩
theorem ok_9 (fx : Fx P K mg) (A : Al P w K mg base n) {fd : FuncData} (Fd : L2.Fun K "spot_of" "spot_of" (topS 13) (He.ga K "spot_of") fd) : FnOk P w K mg base (L2.CX P w) (n + 1) (He.ga K "spot_of") fd [("cell" : Str)] (spF (G0 K w) (runF Tb WN (n + 1)) 9 none) :=
  fn_ok (F := runF Tb WN n) (wn := WN) (hot := []) Fd sc_9 d_9 (fun vs => rfl) rfl rfl rfl rfl (fun cdv A' outer s H E B sx hr aw hfr hB =>
  (pSs_cons (pS_ret (pE_bin (or_sub) (pE_ix (ir_ix sx.K sx.w (Sx.u70 sx)) (pE_var 0) pE_int (fun _ _ => rfl)) (pE_ix (ir_ix sx.K sx.w (Sx.u70 sx)) (pE_var 0) pE_int (fun _ _ => rfl))) (by first | (rw [hfr]; rfl) | (show (!B.fr || _) = true; rw [hfr]; rfl)))
  pSs_nil)) rfl rfl
theorem sc_10 : FnScope [("cell" : Str), ("x" : Str), ("y" : Str)] [("cell" : Str)] (defScope (topS 14)) := ⟨rfl, rfl, rfl, by decide +kernel, rfl, by decide +kernel, by decide +kernel⟩
theorem ok_10 (fx : Fx P K mg) (A : Al P w K mg base n) {fd : FuncData} (Fd : L2.Fun K "beside" "beside" (topS 14) (He.ga K "beside") fd) : FnOk P w K mg base (L2.CX P w) (n + 1) (He.ga K "beside") fd [("cell" : Str)] (spF (G0 K w) (runF Tb WN (n + 1)) 10 none) :=
  fn_ok (F := runF Tb WN n) (wn := WN) (hot := []) Fd sc_10 d_10 (fun vs => rfl) rfl rfl rfl rfl (fun cdv A' outer s H E B sx hr aw hfr hB =>
  (pSs_cons (pS_tgt (pE_var 0) (pG_tup sx.K rfl (pGs_cons (pG_name 1 sx.nd rfl (by first | exact Or.inl rfl | exact Or.inr rfl)) (pGs_cons (pG_name 2 sx.nd rfl (by first | exact Or.inl rfl | exact Or.inr rfl)) pGs_nil))))
  (pSs_cons (pS_ret (pE_lst (pAs_cons (pE_tup (pAs_cons (pE_bin (or_sub) (pE_var 1) pE_int) (pAs_cons (pE_var 2) pAs_nil))) (pAs_cons (pE_tup (pAs_cons (pE_bin (or_add sx.K) (pE_var 1) pE_int) (pAs_cons (pE_var 2) pAs_nil))) (pAs_cons (pE_tup (pAs_cons (pE_var 1) (pAs_cons (pE_bin (or_sub) (pE_var 2) pE_int) pAs_nil))) (pAs_cons (pE_tup (pAs_cons (pE_var 1) (pAs_cons (pE_bin (or_add sx.K) (pE_var 2) pE_int) pAs_nil))) pAs_nil))))) (by first | (rw [hfr]; rfl) | (show (!B.fr || _) = true; rw [hfr]; rfl)))
  pSs_nil))) rfl rfl
theorem sc_11 : FnScope [("cells" : Str), ("known" : Str), ("left" : Str), ("many" : Str), ("near" : Str), ("own" : Str)] [("cells" : Str)] (defScope (topS 16)) := ⟨rfl, rfl, rfl, by decide +kernel, rfl, by decide +kernel, by decide +kernel⟩
theorem ok_11 (fx : Fx P K mg) (A : Al P w K mg base n) {fd : FuncData} (Fd : L2.Fun K "hang_together" "hang_together" (topS 16) (He.ga K "hang_together") fd) : FnOk P w K mg base (L2.CX P w) (n + 1) (He.ga K "hang_together") fd [("cells" : Str)] (spF (G0 K w) (runF Tb WN (n + 1)) 11 none) :=
  fn_ok (F := runF Tb WN n) (wn := WN) (hot := [1, 2]) Fd sc_11 d_11 (fun vs => rfl) rfl rfl rfl rfl (fun cdv A' outer s H E B sx hr aw hfr hB =>
  (pSs_cons (pS_new 1 sx.nd (aw 1 (by decide)) rfl (by first | exact Or.inl rfl | exact Or.inr rfl) (pE_callTy (cr_dict sx.K sx.w rfl (Sx.u70 sx)) rfl fx.b_dict (boot_dict') (pAs_cons (pE_lc [(("own" : Str), 5)] rfl sx.nd (pI_seq sx.K (pE_var 0)) (blkOk_by (by kernel_rfl)) (fun _ _ _ _ _ => (pG_name 5 (Sx.blk sx).nd rfl (by first | exact Or.inl rfl | exact Or.inr rfl))) (fun _ _ _ _ _ => pTs_nil) (fun _ _ _ _ _ => (pE_tup (pAs_cons (pE_var 5) (pAs_cons pE_bl pAs_nil))))) pAs_nil)) rfl)
  (pSs_cons (pS_sub 1 sx.K sx.w (Sx.u70 sx) pE_bl (pE_ix (ir_ix sx.K sx.w (Sx.u70 sx)) (pE_var 0) pE_int (fun _ _ => rfl)))
  (pSs_cons (pS_new 2 sx.nd (aw 2 (by decide)) rfl (by first | exact Or.inl rfl | exact Or.inr rfl) (pE_lst (pAs_cons (pE_ix (ir_ix sx.K sx.w (Sx.u70 sx)) (pE_var 0) pE_int (fun _ _ => rfl)) pAs_nil)) rfl)
  (pSs_cons (pS_set 3 sx.nd rfl (by first | exact Or.inl rfl | exact Or.inr rfl) pE_int)
  (pSs_cons (pS_while (passes_of rfl) (pT_cmp' (or_ne sx.K (Sx.u70 sx)) (pE_var 2) (pE_lst pAs_nil) (by with_unfolding_all rfl)) (pSs_cons (pS_for (passes_of rfl) rfl (pI_seq sx.K (pE_call sx hr A.k_10 rfl (pAs_cons (pE_pop 2) pAs_nil))) (pG_name 4 sx.nd rfl (by first | exact Or.inl rfl | exact Or.inr rfl)) (pSs_cons (pS_if (PW.pt (pW_and (pT_cmp' (or_in sx.K sx.w (Sx.u70 sx)) (pE_var 4) (pE_var 1) (by with_unfolding_all rfl)) (pW_and1 (pT_not (pT_val sx.K (pE_ix (ir_ix sx.K sx.w (Sx.u70 sx)) (pE_var 1) (pE_var 4) (fun _ _ => rfl))))))) (pSs_cons (pS_sub 1 sx.K sx.w (Sx.u70 sx) pE_bl (pE_var 4))
  (pSs_cons (pS_aug 3 ip_add hf_add sx.nd rfl (by first | exact Or.inl rfl | exact Or.inr rfl) pE_int)
  (pSs_cons (pS_app 2 (pE_var 4))
  pSs_nil))) pSs_nil)
  pSs_nil))
  pSs_nil))
  (pSs_cons (pS_ret (pE_cmp (or_eq sx.K (Sx.u70 sx)) (pE_var 3) (pE_callB (cr_len sx.K sx.w) rfl fx.b_len (boot_len') (pAs_cons (pE_var 0) pAs_nil)) (by with_unfolding_all rfl)) (by first | (rw [hfr]; rfl) | (show (!B.fr || _) = true; rw [hfr]; rfl)))
  pSs_nil))))))) rfl rfl
theorem sc_12 : FnScope [("cells" : Str), ("known" : Str), ("corners" : Str), ("pairs" : Str), ("x" : Str), ("y" : Str), ("own" : Str)] [("cells" : Str)] (defScope (topS 17)) := ⟨rfl, rfl, rfl, by decide +kernel, rfl, by decide +kernel, by decide +kernel⟩
theorem ok_12 (fx : Fx P K mg) (A : Al P w K mg base n) {fd : FuncData} (Fd : L2.Fun K "shut_nothing_in" "shut_nothing_in" (topS 17) (He.ga K "shut_nothing_in") fd) : FnOk P w K mg base (L2.CX P w) (n + 1) (He.ga K "shut_nothing_in") fd [("cells" : Str)] (spF (G0 K w) (runF Tb WN (n + 1)) 12 none) :=
  fn_ok (F := runF Tb WN n) (wn := WN) (hot := [2]) Fd sc_12 d_12 (fun vs => rfl) rfl rfl rfl rfl (fun cdv A' outer s H E B sx hr aw hfr hB =>
  (pSs_cons (pS_set 1 sx.nd rfl (by first | exact Or.inl rfl | exact Or.inr rfl) (pE_callTy (cr_dict sx.K sx.w rfl (Sx.u70 sx)) rfl fx.b_dict (boot_dict') (pAs_cons (pE_lc [(("own" : Str), 6)] rfl sx.nd (pI_seq sx.K (pE_var 0)) (blkOk_by (by kernel_rfl)) (fun _ _ _ _ _ => (pG_name 6 (Sx.blk sx).nd rfl (by first | exact Or.inl rfl | exact Or.inr rfl))) (fun _ _ _ _ _ => pTs_nil) (fun _ _ _ _ _ => (pE_tup (pAs_cons (pE_var 6) (pAs_cons pE_bl pAs_nil))))) pAs_nil)))
  (pSs_cons (by first | exact (pS_par (i := 2) (j := 3) rfl sx.nd rfl rfl (by decide) rfl rfl (.inr ⟨rfl, by decide, (aw 2 (by decide)), rfl⟩) (.inl ⟨rfl, by decide, rfl⟩) pE_dn0 pE_int rfl) | exact (pS_parT (i := 2) (j := 3) rfl sx.nd rfl rfl (by decide) (by first | exact Or.inl rfl | exact Or.inr rfl) (by first | exact Or.inl rfl | exact Or.inr rfl) (.inr ⟨rfl, by decide, (aw 2 (by decide)), rfl⟩) (.inl ⟨rfl, by decide, rfl⟩) pE_dn0 pE_int (by first | exact Or.inl rfl | exact Or.inr rfl) (by first | exact Or.inl rfl | exact Or.inr rfl)))
  (pSs_cons (pS_for (passes_of rfl) rfl (pI_seq sx.K (pE_var 0)) (pG_tup sx.K rfl (pGs_cons (pG_name 4 sx.nd rfl (by first | exact Or.inl rfl | exact Or.inr rfl)) (pGs_cons (pG_name 5 sx.nd rfl (by first | exact Or.inl rfl | exact Or.inr rfl)) pGs_nil))) (pSs_cons (pS_upd 2 sx.K sx.w rfl (Sx.u70 sx) (pE_lst (pAs_cons (pE_tup (pAs_cons (pE_tup (pAs_cons (pE_var 4) (pAs_cons (pE_var 5) pAs_nil))) (pAs_cons pE_bl pAs_nil))) (pAs_cons (pE_tup (pAs_cons (pE_tup (pAs_cons (pE_bin (or_add sx.K) (pE_var 4) pE_int) (pAs_cons (pE_var 5) pAs_nil))) (pAs_cons pE_bl pAs_nil))) (pAs_cons (pE_tup (pAs_cons (pE_tup (pAs_cons (pE_var 4) (pAs_cons (pE_bin (or_add sx.K) (pE_var 5) pE_int) pAs_nil))) (pAs_cons pE_bl pAs_nil))) (pAs_cons (pE_tup (pAs_cons (pE_tup (pAs_cons (pE_bin (or_add sx.K) (pE_var 4) pE_int) (pAs_cons (pE_bin (or_add sx.K) (pE_var 5) pE_int) pAs_nil))) (pAs_cons pE_bl pAs_nil))) pAs_nil))))))
  (pSs_cons (pS_aug 3 ip_add hf_add sx.nd rfl (by first | exact Or.inl rfl | exact Or.inr rfl) (pE_bin (or_add sx.K) (pE_callTy (cr_int) rfl fx.b_int (boot_int') (pAs_cons (pE_cmp (or_in sx.K sx.w (Sx.u70 sx)) (pE_tup (pAs_cons (pE_bin (or_add sx.K) (pE_var 4) pE_int) (pAs_cons (pE_var 5) pAs_nil))) (pE_var 1) (by with_unfolding_all rfl)) pAs_nil)) (pE_callTy (cr_int) rfl fx.b_int (boot_int') (pAs_cons (pE_cmp (or_in sx.K sx.w (Sx.u70 sx)) (pE_tup (pAs_cons (pE_var 4) (pAs_cons (pE_bin (or_add sx.K) (pE_var 5) pE_int) pAs_nil))) (pE_var 1) (by with_unfolding_all rfl)) pAs_nil))))
  pSs_nil)))
  (pSs_cons (pS_ret (pE_ck (pE_cmp (or_eq sx.K (Sx.u70 sx)) (pE_bin (or_add sx.K) (pE_bin (or_sub) (pE_callB (cr_len sx.K sx.w) rfl fx.b_len (boot_len') (pAs_cons (pE_var 2) pAs_nil)) (pE_bin (or_sub) (pE_bin (or_mul sx.K) pE_int (pE_callB (cr_len sx.K sx.w) rfl fx.b_len (boot_len') (pAs_cons (pE_var 0) pAs_nil))) (pE_var 3))) (pE_callB (cr_len sx.K sx.w) rfl fx.b_len (boot_len') (pAs_cons (pE_var 0) pAs_nil))) pE_int (by with_unfolding_all rfl))) (by first | (rw [hfr]; rfl) | (show (!B.fr || _) = true; rw [hfr]; rfl)))
  pSs_nil))))) rfl rfl
theorem sc_13 : FnScope [("cells" : Str)] [("cells" : Str)] (defScope (topS 18)) := ⟨rfl, rfl, rfl, by decide +kernel, rfl, by decide +kernel, by decide +kernel⟩
theorem ok_13 (fx : Fx P K mg) (A : Al P w K mg base n) {fd : FuncData} (Fd : L2.Fun K "are_floor" "are_floor" (topS 18) (He.ga K "are_floor") fd) : FnOk P w K mg base (L2.CX P w) (n + 1) (He.ga K "are_floor") fd [("cells" : Str)] (spF (G0 K w) (runF Tb WN (n + 1)) 13 none) :=
  fn_ok (F := runF Tb WN n) (wn := WN) (hot := []) Fd sc_13 d_13 (fun vs => rfl) rfl rfl rfl rfl (fun cdv A' outer s H E B sx hr aw hfr hB =>
  (pSs_cons (pS_ret (pE_and sx.K (pE_cmp (or_gt sx.K (Sx.u70 sx)) (pE_callB (cr_len sx.K sx.w) rfl fx.b_len (boot_len') (pAs_cons (pE_var 0) pAs_nil)) pE_int (by with_unfolding_all rfl)) (pE_and sx.K (pE_call sx hr A.k_11 rfl (pAs_cons (pE_var 0) pAs_nil)) (pE_one (pE_call sx hr A.k_12 rfl (pAs_cons (pE_var 0) pAs_nil))))) (by first | (rw [hfr]; rfl) | (show (!B.fr || _) = true; rw [hfr]; rfl)))
  pSs_nil)) rfl rfl
theorem sc_14 : FnScope [("thing" : Str), ("own" : Str)] [("thing" : Str)] (defScope (topS 19)) := ⟨rfl, rfl, rfl, by decide +kernel, rfl, by decide +kernel, by decide +kernel⟩
theorem ok_14 (fx : Fx P K mg) (A : Al P w K mg base n) {fd : FuncData} (Fd : L2.Fun K "is_floor" "is_floor" (topS 19) (He.ga K "is_floor") fd) : FnOk P w K mg base (L2.CX P w) (n + 1) (He.ga K "is_floor") fd [("thing" : Str)] (spF (G0 K w) (runF Tb WN (n + 1)) 14 none) :=
  fn_ok (F := runF Tb WN n) (wn := WN) (hot := []) Fd sc_14 d_14 (fun vs => rfl) rfl rfl rfl rfl (fun cdv A' outer s H E B sx hr aw hfr hB =>
  (pSs_cons (pS_if (PW.pt (pW_or (pT_not (pT_val sx.K (pE_isi sx.K (by decide) rfl fx.b_isinstance rfl fx.b_tuple (boot_tuple') (pE_var 0)))) (pW_or1 (pT_not (pT_val sx.K (pE_callB (cr_all' sx.K rfl) rfl fx.b_all (boot_all') (pAs_cons (pE_lc [(("own" : Str), 1)] rfl sx.nd (pI_seq sx.K (pE_var 0)) (blkOk_by (by kernel_rfl)) (fun _ _ _ _ _ => (pG_name 1 (Sx.blk sx).nd rfl (by first | exact Or.inl rfl | exact Or.inr rfl))) (fun _ _ _ _ _ => pTs_nil) (fun _ _ _ _ _ => (pE_call (Sx.blk sx) hr A.k_7 rfl (pAs_cons (pE_var 1) pAs_nil)))) pAs_nil))))))) (pSs_cons (pS_ret pE_bl (by first | (rw [hfr]; rfl) | (show (!B.fr || _) = true; rw [hfr]; rfl)))
  pSs_nil) pSs_nil)
  (pSs_cons (pS_ret (pE_and sx.K (pE_call sx hr A.k_4 rfl (pAs_cons (pE_var 0) pAs_nil)) (pE_one (pE_call sx hr A.k_13 rfl (pAs_cons (pE_var 0) pAs_nil)))) (by first | (rw [hfr]; rfl) | (show (!B.fr || _) = true; rw [hfr]; rfl)))
  pSs_nil))) rfl rfl
theorem sc_15 : FnScope [("floor" : Str), ("own" : Str)] [("floor" : Str)] (defScope (topS 20)) := ⟨rfl, rfl, rfl, by decide +kernel, rfl, by decide +kernel, by decide +kernel⟩
theorem ok_15 (fx : Fx P K mg) (A : Al P w K mg base n) {fd : FuncData} (Fd : L2.Fun K "sure_floor" "sure_floor" (topS 20) (He.ga K "sure_floor") fd) : FnOk P w K mg base (L2.CX P w) (n + 1) (He.ga K "sure_floor") fd [("floor" : Str)] (spF (G0 K w) (runF Tb WN (n + 1)) 15 none) :=
  fn_ok (F := runF Tb WN n) (wn := WN) (hot := []) Fd sc_15 d_15 (fun vs => rfl) rfl rfl rfl rfl (fun cdv A' outer s H E B sx hr aw hfr hB =>
  (pSs_cons (pS_set 1 sx.nd rfl (by first | exact Or.inl rfl | exact Or.inr rfl) (pE_call sx hr A.k_3 rfl (pAs_cons (pE_var 0) pAs_nil)))
  (pSs_cons (pS_if (pT_not (pT_val sx.K (pE_call sx hr A.k_14 rfl (pAs_cons (pE_var 1) pAs_nil)))) (pSs_cons (pS_raise0 8 rfl rfl sx.tk (mk_zero fx.ec_8 PySem.F.excBase_ValueError fx.ex_8 rfl))
  pSs_nil) pSs_nil)
  (pSs_cons (pS_ret (pE_var 1) (by first | (rw [hfr]; rfl) | (show (!B.fr || _) = true; rw [hfr]; rfl)))
  pSs_nil)))) rfl rfl
theorem sc_16 : FnScope [("cells" : Str), ("number" : Str), ("rows" : Str), ("own" : Str), ("_" : Str)] [("cells" : Str), ("number" : Str)] (defScope (topS 21)) := ⟨rfl, rfl, rfl, by decide +kernel, rfl, by decide +kernel, by decide +kernel⟩
theorem ok_16 (fx : Fx P K mg) (A : Al P w K mg base n) {fd : FuncData} (Fd : L2.Fun K "cells_on" "cells_on" (topS 21) (He.ga K "cells_on") fd) : FnOk P w K mg base (L2.CX P w) (n + 1) (He.ga K "cells_on") fd [("cells" : Str), ("number" : Str)] (spF (G0 K w) (runF Tb WN (n + 1)) 16 none) :=
  fn_ok (F := runF Tb WN n) (wn := WN) (hot := []) Fd sc_16 d_16 (fun vs => rfl) rfl rfl rfl rfl (fun cdv A' outer s H E B sx hr aw hfr hB =>
  (pSs_cons (pS_set 2 sx.nd rfl (by first | exact Or.inl rfl | exact Or.inr rfl) (pE_callB (cr_sorted sx.K sx.un) rfl fx.b_sorted (boot_sorted') (pAs_cons (pE_lc [(("own" : Str), 3)] rfl sx.nd (pI_seq sx.K (pE_var 0)) (blkOk_by (by kernel_rfl)) (fun _ _ _ _ _ => (pG_name 3 (Sx.blk sx).nd rfl (by first | exact Or.inl rfl | exact Or.inr rfl))) (fun _ _ _ _ _ => (pTs_one (pT_cmp' (or_eq (Sx.blk sx).K (Sx.u70 (Sx.blk sx))) (pE_call (Sx.blk sx) hr A.k_8 rfl (pAs_cons (pE_var 3) pAs_nil)) (pE_var 1) (by with_unfolding_all rfl)))) (fun _ _ _ _ _ => (pE_tup (pAs_cons (pE_call (Sx.blk sx) hr A.k_9 rfl (pAs_cons (pE_var 3) pAs_nil)) (pAs_cons (pE_var 3) pAs_nil))))) pAs_nil)))
  (pSs_cons (pS_ret (pE_callTy (cr_tuple sx.K) rfl fx.b_tuple (boot_tuple') (pAs_cons (pE_lc [(("_" : Str), 4), (("own" : Str), 3)] rfl sx.nd (pI_seq sx.K (pE_var 2)) (blkOk_by (by kernel_rfl)) (fun _ _ _ _ _ => (pG_tup (Sx.blk sx).K rfl (pGs_cons (pG_name 4 (Sx.blk sx).nd rfl (by first | exact Or.inl rfl | exact Or.inr rfl)) (pGs_cons (pG_name 3 (Sx.blk sx).nd rfl (by first | exact Or.inl rfl | exact Or.inr rfl)) pGs_nil)))) (fun _ _ _ _ _ => pTs_nil) (fun _ _ _ _ _ => (pE_var 3))) pAs_nil)) (by first | (rw [hfr]; rfl) | (show (!B.fr || _) = true; rw [hfr]; rfl)))
  pSs_nil))) rfl rfl
theorem sc_17 : FnScope [("floor" : Str), ("number" : Str)] [("floor" : Str), ("number" : Str)] (defScope (topS 22)) := ⟨rfl, rfl, rfl, by decide +kernel, rfl, by decide +kernel, by decide +kernel⟩
theorem ok_17 (fx : Fx P K mg) (A : Al P w K mg base n) {fd : FuncData} (Fd : L2.Fun K "diagonal" "diagonal" (topS 22) (He.ga K "diagonal") fd) : FnOk P w K mg base (L2.CX P w) (n + 1) (He.ga K "diagonal") fd [("floor" : Str), ("number" : Str)] (spF (G0 K w) (runF Tb WN (n + 1)) 17 none) :=
  fn_ok (F := runF Tb WN n) (wn := WN) (hot := []) Fd sc_17 d_17 (fun vs => rfl) rfl rfl rfl rfl (fun cdv A' outer s H E B sx hr aw hfr hB =>
  (pSs_cons (pS_ret (pE_call sx hr A.k_16 rfl (pAs_cons (pE_call sx hr A.k_15 rfl (pAs_cons (pE_var 0) pAs_nil)) (pAs_cons (pE_var 1) pAs_nil))) (by first | (rw [hfr]; rfl) | (show (!B.fr || _) = true; rw [hfr]; rfl)))
  pSs_nil)) rfl rfl
theorem sc_18 : FnScope [("floor" : Str), ("found" : Str), ("own" : Str)] [("floor" : Str)] (defScope (topS 23)) := ⟨rfl, rfl, rfl, by decide +kernel, rfl, by decide +kernel, by decide +kernel⟩
theorem ok_18 (fx : Fx P K mg) (A : Al P w K mg base n) {fd : FuncData} (Fd : L2.Fun K "span" "span" (topS 23) (He.ga K "span") fd) : FnOk P w K mg base (L2.CX P w) (n + 1) (He.ga K "span") fd [("floor" : Str)] (spF (G0 K w) (runF Tb WN (n + 1)) 18 none) :=
  fn_ok (F := runF Tb WN n) (wn := WN) (hot := []) Fd sc_18 d_18 (fun vs => rfl) rfl rfl rfl rfl (fun cdv A' outer s H E B sx hr aw hfr hB =>
  (pSs_cons (by first | exact (pS_setLc 1 [(("own" : Str), 2)] rfl sx.nd rfl rfl (sw_true rfl rfl rfl (by decide +kernel)) (pI_seq sx.K (pE_call sx hr A.k_15 rfl (pAs_cons (pE_var 0) pAs_nil))) (blkOk_by (by kernel_rfl)) (fun _ _ _ _ _ => (pG_name 2 (Sx.blk sx).nd rfl (by first | exact Or.inl rfl | exact Or.inr rfl))) (fun _ _ _ _ _ => pTs_nil) (fun _ _ _ _ _ => (pE_call (Sx.blk sx) hr A.k_8 rfl (pAs_cons (pE_var 2) pAs_nil)))) | exact (pS_set 1 sx.nd rfl (by first | exact Or.inl rfl | exact Or.inr rfl) (pE_lc [(("own" : Str), 2)] rfl sx.nd (pI_seq sx.K (pE_call sx hr A.k_15 rfl (pAs_cons (pE_var 0) pAs_nil))) (blkOk_by (by kernel_rfl)) (fun _ _ _ _ _ => (pG_name 2 (Sx.blk sx).nd rfl (by first | exact Or.inl rfl | exact Or.inr rfl))) (fun _ _ _ _ _ => pTs_nil) (fun _ _ _ _ _ => (pE_call (Sx.blk sx) hr A.k_8 rfl (pAs_cons (pE_var 2) pAs_nil))))))
  (pSs_cons (pS_ret (pE_tup (pAs_cons (pE_callB (cr_min1 sx.K rfl sx.un) rfl fx.b_min (boot_min') (pAs_cons (pE_var 1) pAs_nil)) (pAs_cons (pE_callB (cr_max1 sx.K rfl sx.un) rfl fx.b_max (boot_max') (pAs_cons (pE_var 1) pAs_nil)) pAs_nil))) (by first | (rw [hfr]; rfl) | (show (!B.fr || _) = true; rw [hfr]; rfl)))
  pSs_nil))) rfl rfl
theorem sc_19 : FnScope [("cells" : Str), ("cell" : Str)] [("cells" : Str), ("cell" : Str)] (defScope (topS 24)) := ⟨rfl, rfl, rfl, by decide +kernel, rfl, by decide +kernel, by decide +kernel⟩
theorem ok_19 (fx : Fx P K mg) (A : Al P w K mg base n) {fd : FuncData} (Fd : L2.Fun K "with_cell" "with_cell" (topS 24) (He.ga K "with_cell") fd) : FnOk P w K mg base (L2.CX P w) (n + 1) (He.ga K "with_cell") fd [("cells" : Str), ("cell" : Str)] (spF (G0 K w) (runF Tb WN (n + 1)) 19 none) :=
  fn_ok (F := runF Tb WN n) (wn := WN) (hot := []) Fd sc_19 d_19 (fun vs => rfl) rfl rfl rfl rfl (fun cdv A' outer s H E B sx hr aw hfr hB =>
  (pSs_cons (pS_ret (pE_call sx hr A.k_5 rfl (pAs_cons (pE_lst (pAs_star sx.K (pE_var 0) (pAs_cons (pE_var 1) pAs_nil))) pAs_nil)) (by first | (rw [hfr]; rfl) | (show (!B.fr || _) = true; rw [hfr]; rfl)))
  pSs_nil)) rfl rfl
theorem sc_20 : FnScope [("floor" : Str), ("cell" : Str), ("own" : Str), ("more" : Str)] [("floor" : Str), ("cell" : Str)] (defScope (topS 25)) := ⟨rfl, rfl, rfl, by decide +kernel, rfl, by decide +kernel, by decide +kernel⟩
theorem ok_20 (fx : Fx P K mg) (A : Al P w K mg base n) {fd : FuncData} (Fd : L2.Fun K "can_grow" "can_grow" (topS 25) (He.ga K "can_grow") fd) : FnOk P w K mg base (L2.CX P w) (n + 1) (He.ga K "can_grow") fd [("floor" : Str), ("cell" : Str)] (spF (G0 K w) (runF Tb WN (n + 1)) 20 none) :=
  fn_ok (F := runF Tb WN n) (wn := WN) (hot := []) Fd sc_20 d_20 (fun vs => rfl) rfl rfl rfl rfl (fun cdv A' outer s H E B sx hr aw hfr hB =>
  (pSs_cons (by first | exact (pS_par (i := 2) (j := 3) rfl sx.nd rfl rfl (by decide) rfl rfl (.inl ⟨rfl, by decide, rfl⟩) (.inl ⟨rfl, by decide, rfl⟩) (pE_call sx hr A.k_15 rfl (pAs_cons (pE_var 0) pAs_nil)) (pE_call sx hr A.k_3 rfl (pAs_cons (pE_var 1) pAs_nil)) rfl) | exact (pS_parT (i := 2) (j := 3) rfl sx.nd rfl rfl (by decide) (by first | exact Or.inl rfl | exact Or.inr rfl) (by first | exact Or.inl rfl | exact Or.inr rfl) (.inl ⟨rfl, by decide, rfl⟩) (.inl ⟨rfl, by decide, rfl⟩) (pE_call sx hr A.k_15 rfl (pAs_cons (pE_var 0) pAs_nil)) (pE_call sx hr A.k_3 rfl (pAs_cons (pE_var 1) pAs_nil)) (by first | exact Or.inl rfl | exact Or.inr rfl) (by first | exact Or.inl rfl | exact Or.inr rfl)))
  (pSs_cons (pS_ret (pE_and sx.K (pE_cmp (or_notin sx.K sx.w (Sx.u70 sx)) (pE_var 3) (pE_var 2) (by with_unfolding_all rfl)) (pE_one (pE_call sx hr A.k_13 rfl (pAs_cons (pE_call sx hr A.k_19 rfl (pAs_cons (pE_var 2) (pAs_cons (pE_var 3) pAs_nil))) pAs_nil)))) (by first | (rw [hfr]; rfl) | (show (!B.fr || _) = true; rw [hfr]; rfl)))
  pSs_nil))) rfl rfl
theorem sc_21 : FnScope [("floor" : Str), ("cell" : Str), ("own" : Str), ("more" : Str)] [("floor" : Str), ("cell" : Str)] (defScope (topS 26)) := ⟨rfl, rfl, rfl, by decide +kernel, rfl, by decide +kernel, by decide +kernel⟩
theorem ok_21 (fx : Fx P K mg) (A : Al P w K mg base n) {fd : FuncData} (Fd : L2.Fun K "grown" "grown" (topS 26) (He.ga K "grown") fd) : FnOk P w K mg base (L2.CX P w) (n + 1) (He.ga K "grown") fd [("floor" : Str), ("cell" : Str)] (spF (G0 K w) (runF Tb WN (n + 1)) 21 none) :=
  fn_ok (F := runF Tb WN n) (wn := WN) (hot := []) Fd sc_21 d_21 (fun vs => rfl) rfl rfl rfl rfl (fun cdv A' outer s H E B sx hr aw hfr hB =>
  (pSs_cons (by first | exact (pS_par (i := 2) (j := 3) rfl sx.nd rfl rfl (by decide) rfl rfl (.inl ⟨rfl, by decide, rfl⟩) (.inl ⟨rfl, by decide, rfl⟩) (pE_call sx hr A.k_15 rfl (pAs_cons (pE_var 0) pAs_nil)) (pE_call sx hr A.k_3 rfl (pAs_cons (pE_var 1) pAs_nil)) rfl) | exact (pS_parT (i := 2) (j := 3) rfl sx.nd rfl rfl (by decide) (by first | exact Or.inl rfl | exact Or.inr rfl) (by first | exact Or.inl rfl | exact Or.inr rfl) (.inl ⟨rfl, by decide, rfl⟩) (.inl ⟨rfl, by decide, rfl⟩) (pE_call sx hr A.k_15 rfl (pAs_cons (pE_var 0) pAs_nil)) (pE_call sx hr A.k_3 rfl (pAs_cons (pE_var 1) pAs_nil)) (by first | exact Or.inl rfl | exact Or.inr rfl) (by first | exact Or.inl rfl | exact Or.inr rfl)))
  (pSs_cons (pS_if (pT_not (pT_val sx.K (pE_call sx hr A.k_20 rfl (pAs_cons (pE_var 2) (pAs_cons (pE_var 3) pAs_nil))))) (pSs_cons (pS_raise0 8 rfl rfl sx.tk (mk_zero fx.ec_8 PySem.F.excBase_ValueError fx.ex_8 rfl))
  pSs_nil) pSs_nil)
  (pSs_cons (pS_ret (pE_call sx hr A.k_19 rfl (pAs_cons (pE_var 2) (pAs_cons (pE_var 3) pAs_nil))) (by first | (rw [hfr]; rfl) | (show (!B.fr || _) = true; rw [hfr]; rfl)))
  pSs_nil)))) rfl rfl
theorem sc_22 : FnScope [("floor" : Str), ("cell" : Str), ("left" : Str), ("own" : Str), ("less" : Str)] [("floor" : Str), ("cell" : Str)] (defScope (topS 27)) := ⟨rfl, rfl, rfl, by decide +kernel, rfl, by decide +kernel, by decide +kernel⟩
theorem ok_22 (fx : Fx P K mg) (A : Al P w K mg base n) {fd : FuncData} (Fd : L2.Fun K "shrunk" "shrunk" (topS 27) (He.ga K "shrunk") fd) : FnOk P w K mg base (L2.CX P w) (n + 1) (He.ga K "shrunk") fd [("floor" : Str), ("cell" : Str)] (spF (G0 K w) (runF Tb WN (n + 1)) 22 none) :=
  fn_ok (F := runF Tb WN n) (wn := WN) (hot := []) Fd sc_22 d_22 (fun vs => rfl) rfl rfl rfl rfl (fun cdv A' outer s H E B sx hr aw hfr hB =>
  (pSs_cons (by first | exact (pS_par (i := 3) (j := 4) rfl sx.nd rfl rfl (by decide) rfl rfl (.inl ⟨rfl, by decide, rfl⟩) (.inl ⟨rfl, by decide, rfl⟩) (pE_call sx hr A.k_15 rfl (pAs_cons (pE_var 0) pAs_nil)) (pE_call sx hr A.k_3 rfl (pAs_cons (pE_var 1) pAs_nil)) rfl) | exact (pS_parT (i := 3) (j := 4) rfl sx.nd rfl rfl (by decide) (by first | exact Or.inl rfl | exact Or.inr rfl) (by first | exact Or.inl rfl | exact Or.inr rfl) (.inl ⟨rfl, by decide, rfl⟩) (.inl ⟨rfl, by decide, rfl⟩) (pE_call sx hr A.k_15 rfl (pAs_cons (pE_var 0) pAs_nil)) (pE_call sx hr A.k_3 rfl (pAs_cons (pE_var 1) pAs_nil)) (by first | exact Or.inl rfl | exact Or.inr rfl) (by first | exact Or.inl rfl | exact Or.inr rfl)))
  (pSs_cons (pS_if (pT_cmp' (or_notin sx.K sx.w (Sx.u70 sx)) (pE_var 4) (pE_var 3) (by with_unfolding_all rfl)) (pSs_cons (pS_raise1 0 rfl rfl sx.tk (pE_var 4) (fun pa => pmk_sup fx.ec_0 fx.sp_0 hr pa rfl))
  pSs_nil) pSs_nil)
  (pSs_cons (pS_set 2 sx.nd rfl (by first | exact Or.inl rfl | exact Or.inr rfl) (pE_call sx hr A.k_6 rfl (pAs_cons (pE_var 3) (pAs_cons (pE_lst (pAs_cons (pE_var 4) pAs_nil)) pAs_nil))))
  (pSs_cons (pS_if (pT_not (pT_val sx.K (pE_call sx hr A.k_13 rfl (pAs_cons (pE_var 2) pAs_nil)))) (pSs_cons (pS_raise0 8 rfl rfl sx.tk (mk_zero fx.ec_8 PySem.F.excBase_ValueError fx.ex_8 rfl))
  pSs_nil) pSs_nil)
  (pSs_cons (pS_ret (pE_var 2) (by first | (rw [hfr]; rfl) | (show (!B.fr || _) = true; rw [hfr]; rfl)))
  pSs_nil)))))) rfl rfl
theorem sc_23 : FnScope [("floor" : Str), ("cell" : Str), ("own" : Str), ("found" : Str)] [("floor" : Str)] (defScope (topS 28)) := ⟨rfl, rfl, rfl, by decide +kernel, rfl, by decide +kernel, by decide +kernel⟩
theorem ok_23 (fx : Fx P K mg) (A : Al P w K mg base n) {fd : FuncData} (Fd : L2.Fun K "borders" "borders" (topS 28) (He.ga K "borders") fd) : FnOk P w K mg base (L2.CX P w) (n + 1) (He.ga K "borders") fd [("floor" : Str)] (spF (G0 K w) (runF Tb WN (n + 1)) 23 none) :=
  fn_ok (F := runF Tb WN n) (wn := WN) (hot := [3]) Fd sc_23 d_23 (fun vs => rfl) rfl rfl rfl rfl (fun cdv A' outer s H E B sx hr aw hfr hB =>
  (pSs_cons (by first | exact (pS_par (i := 2) (j := 3) rfl sx.nd rfl rfl (by decide) rfl rfl (.inl ⟨rfl, by decide, rfl⟩) (.inr ⟨rfl, by decide, (aw 3 (by decide)), rfl⟩) (pE_call sx hr A.k_15 rfl (pAs_cons (pE_var 0) pAs_nil)) (pE_lst pAs_nil) rfl) | exact (pS_parT (i := 2) (j := 3) rfl sx.nd rfl rfl (by decide) (by first | exact Or.inl rfl | exact Or.inr rfl) (by first | exact Or.inl rfl | exact Or.inr rfl) (.inl ⟨rfl, by decide, rfl⟩) (.inr ⟨rfl, by decide, (aw 3 (by decide)), rfl⟩) (pE_call sx hr A.k_15 rfl (pAs_cons (pE_var 0) pAs_nil)) (pE_lst pAs_nil) (by first | exact Or.inl rfl | exact Or.inr rfl) (by first | exact Or.inl rfl | exact Or.inr rfl)))
  (pSs_cons (pS_for (passes_of rfl) rfl (pI_seq sx.K (pE_var 2)) (pG_name 1 sx.nd rfl (by first | exact Or.inl rfl | exact Or.inr rfl)) (pSs_cons (pS_ext 3 sx.K (pE_call sx hr A.k_10 rfl (pAs_cons (pE_var 1) pAs_nil)))
  pSs_nil))
  (pSs_cons (pS_ret (pE_callTy (cr_tuple sx.K) rfl fx.b_tuple (boot_tuple') (pAs_cons (pE_lc [(("cell" : Str), 1)] rfl sx.nd (pI_seq sx.K (pE_ck (pE_call sx hr A.k_5 rfl (pAs_cons (pE_var 3) pAs_nil)))) (blkOk_by (by kernel_rfl)) (fun _ _ _ _ _ => (pG_name 1 (Sx.blk sx).nd rfl (by first | exact Or.inl rfl | exact Or.inr rfl))) (fun _ _ _ _ _ => (pTs_one (PW.pt (pW_and (pT_cmp' (or_notin (Sx.blk sx).K (Sx.blk sx).w (Sx.u70 (Sx.blk sx))) (pE_var 1) (pE_var 2) (by with_unfolding_all rfl)) (pW_and1 (pT_val (Sx.blk sx).K (pE_call (Sx.blk sx) hr A.k_13 rfl (pAs_cons (pE_call (Sx.blk sx) hr A.k_19 rfl (pAs_cons (pE_var 2) (pAs_cons (pE_var 1) pAs_nil))) pAs_nil)))))))) (fun _ _ _ _ _ => (pE_var 1))) pAs_nil)) (by first | (rw [hfr]; rfl) | (show (!B.fr || _) = true; rw [hfr]; rfl)))
  pSs_nil)))) rfl rfl
theorem sc_24 : FnScope [("thing" : Str), ("own" : Str)] [("thing" : Str)] (defScope (topS 30)) := ⟨rfl, rfl, rfl, by decide +kernel, rfl, by decide +kernel, by decide +kernel⟩
theorem ok_24 (fx : Fx P K mg) (A : Al P w K mg base n) {fd : FuncData} (Fd : L2.Fun K "is_stair" "is_stair" (topS 30) (He.ga K "is_stair") fd) : FnOk P w K mg base (L2.CX P w) (n + 1) (He.ga K "is_stair") fd [("thing" : Str)] (spF (G0 K w) (runF Tb WN (n + 1)) 24 none) :=
  fn_ok (F := runF Tb WN n) (wn := WN) (hot := []) Fd sc_24 d_24 (fun vs => rfl) rfl rfl rfl rfl (fun cdv A' outer s H E B sx hr aw hfr hB =>
  (pSs_cons (pS_if (PW.pt (pW_or (pT_not (pT_val sx.K (pE_call sx hr A.k_2 rfl (pAs_cons (pE_var 0) (pAs_cons pE_int pAs_nil))))) (pW_or (pT_not (pT_val sx.K (pE_call sx hr A.k_7 rfl (pAs_cons (pE_ix (ir_ix sx.K sx.w (Sx.u70 sx)) (pE_var 0) pE_int (fun _ _ => rfl)) pAs_nil)))) (pW_or1 (pT_not (pT_val sx.K (pE_isi sx.K (by decide) rfl fx.b_isinstance rfl fx.b_tuple (boot_tuple') (pE_ix (ir_ix sx.K sx.w (Sx.u70 sx)) (pE_var 0) pE_int (fun _ _ => rfl))))))))) (pSs_cons (pS_ret pE_bl (by first | (rw [hfr]; rfl) | (show (!B.fr || _) = true; rw [hfr]; rfl)))
  pSs_nil) pSs_nil)
  (pSs_cons (pS_ret (pE_callB (cr_all' sx.K rfl) rfl fx.b_all (boot_all') (pAs_cons (pE_lc [(("own" : Str), 1)] rfl sx.nd (pI_seq sx.K (pE_ix (ir_ix sx.K sx.w (Sx.u70 sx)) (pE_var 0) pE_int (fun _ _ => rfl))) (blkOk_by (by kernel_rfl)) (fun _ _ _ _ _ => (pG_name 1 (Sx.blk sx).nd rfl (by first | exact Or.inl rfl | exact Or.inr rfl))) (fun _ _ _ _ _ => pTs_nil) (fun _ _ _ _ _ => (pE_call (Sx.blk sx) hr A.k_1 rfl (pAs_cons (pE_var 1) (pAs_cons pE_int (pAs_cons pE_int pAs_nil)))))) pAs_nil)) (by first | (rw [hfr]; rfl) | (show (!B.fr || _) = true; rw [hfr]; rfl)))
  pSs_nil))) rfl rfl
theorem sc_25 : FnScope [("stair" : Str), ("own" : Str)] [("stair" : Str)] (defScope (topS 31)) := ⟨rfl, rfl, rfl, by decide +kernel, rfl, by decide +kernel, by decide +kernel⟩
theorem ok_25 (fx : Fx P K mg) (A : Al P w K mg base n) {fd : FuncData} (Fd : L2.Fun K "sure_stair" "sure_stair" (topS 31) (He.ga K "sure_stair") fd) : FnOk P w K mg base (L2.CX P w) (n + 1) (He.ga K "sure_stair") fd [("stair" : Str)] (spF (G0 K w) (runF Tb WN (n + 1)) 25 none) :=
  fn_ok (F := runF Tb WN n) (wn := WN) (hot := []) Fd sc_25 d_25 (fun vs => rfl) rfl rfl rfl rfl (fun cdv A' outer s H E B sx hr aw hfr hB =>
  (pSs_cons (pS_set 1 sx.nd rfl (by first | exact Or.inl rfl | exact Or.inr rfl) (pE_call sx hr A.k_3 rfl (pAs_cons (pE_var 0) pAs_nil)))
  (pSs_cons (pS_if (pT_not (pT_val sx.K (pE_call sx hr A.k_24 rfl (pAs_cons (pE_var 1) pAs_nil)))) (pSs_cons (pS_raise0 8 rfl rfl sx.tk (mk_zero fx.ec_8 PySem.F.excBase_ValueError fx.ex_8 rfl))
  pSs_nil) pSs_nil)
  (pSs_cons (pS_ret (pE_var 1) (by first | (rw [hfr]; rfl) | (show (!B.fr || _) = true; rw [hfr]; rfl)))
  pSs_nil)))) rfl rfl
theorem sc_26 : FnScope [("stair" : Str), ("found" : Str), ("up" : Str), ("x" : Str), ("y" : Str)] [("stair" : Str)] (defScope (topS 32)) := ⟨rfl, rfl, rfl, by decide +kernel, rfl, by decide +kernel, by decide +kernel⟩
theorem ok_26 (fx : Fx P K mg) (A : Al P w K mg base n) {fd : FuncData} (Fd : L2.Fun K "cells_by" "cells_by" (topS 32) (He.ga K "cells_by") fd) : FnOk P w K mg base (L2.CX P w) (n + 1) (He.ga K "cells_by") fd [("stair" : Str)] (spF (G0 K w) (runF Tb WN (n + 1)) 26 none) :=
  fn_ok (F := runF Tb WN n) (wn := WN) (hot := [1]) Fd sc_26 d_26 (fun vs => rfl) rfl rfl rfl rfl (fun cdv A' outer s H E B sx hr aw hfr hB =>
  (pSs_cons (pS_tgt (pE_ix (ir_ix sx.K sx.w (Sx.u70 sx)) (pE_var 0) pE_int (fun _ _ => rfl)) (pG_tup sx.K rfl (pGs_cons (pG_name 3 sx.nd rfl (by first | exact Or.inl rfl | exact Or.inr rfl)) (pGs_cons (pG_name 4 sx.nd rfl (by first | exact Or.inl rfl | exact Or.inr rfl)) pGs_nil))))
  (pSs_cons (pS_new 1 sx.nd (aw 1 (by decide)) rfl (by first | exact Or.inl rfl | exact Or.inr rfl) (pE_lst (pAs_cons (pE_tup (pAs_cons (pE_var 3) (pAs_cons (pE_var 4) pAs_nil))) pAs_nil)) rfl)
  (pSs_cons (pS_for (passes_of rfl) rfl (pI_seq sx.K (pE_ix (ir_ix sx.K sx.w (Sx.u70 sx)) (pE_var 0) pE_int (fun _ _ => rfl))) (pG_name 2 sx.nd rfl (by first | exact Or.inl rfl | exact Or.inr rfl)) (pSs_cons (by first | exact (pS_par (i := 3) (j := 4) rfl sx.nd rfl rfl (by decide) rfl rfl (.inl ⟨rfl, by decide, rfl⟩) (.inl ⟨rfl, by decide, rfl⟩) (pE_bin (or_sub) (pE_bin (or_add sx.K) (pE_var 3) pE_int) (pE_var 2)) (pE_bin (or_add sx.K) (pE_var 4) (pE_var 2)) rfl) | exact (pS_parT (i := 3) (j := 4) rfl sx.nd rfl rfl (by decide) (by first | exact Or.inl rfl | exact Or.inr rfl) (by first | exact Or.inl rfl | exact Or.inr rfl) (.inl ⟨rfl, by decide, rfl⟩) (.inl ⟨rfl, by decide, rfl⟩) (pE_bin (or_sub) (pE_bin (or_add sx.K) (pE_var 3) pE_int) (pE_var 2)) (pE_bin (or_add sx.K) (pE_var 4) (pE_var 2)) (by first | exact Or.inl rfl | exact Or.inr rfl) (by first | exact Or.inl rfl | exact Or.inr rfl)))
  (pSs_cons (pS_app 1 (pE_tup (pAs_cons (pE_var 3) (pAs_cons (pE_var 4) pAs_nil))))
  pSs_nil)))
  (pSs_cons (pS_ret (pE_ck (pE_callTy (cr_tuple sx.K) rfl fx.b_tuple (boot_tuple') (pAs_cons (pE_var 1) pAs_nil))) (by first | (rw [hfr]; rfl) | (show (!B.fr || _) = true; rw [hfr]; rfl)))
  pSs_nil))))) rfl rfl
theorem sc_27 : FnScope [("stair" : Str)] [("stair" : Str)] (defScope (topS 33)) := ⟨rfl, rfl, rfl, by decide +kernel, rfl, by decide +kernel, by decide +kernel⟩
theorem ok_27 (fx : Fx P K mg) (A : Al P w K mg base n) {fd : FuncData} (Fd : L2.Fun K "cells_of" "cells_of" (topS 33) (He.ga K "cells_of") fd) : FnOk P w K mg base (L2.CX P w) (n + 1) (He.ga K "cells_of") fd [("stair" : Str)] (spF (G0 K w) (runF Tb WN (n + 1)) 27 none) :=
  fn_ok (F := runF Tb WN n) (wn := WN) (hot := []) Fd sc_27 d_27 (fun vs => rfl) rfl rfl rfl rfl (fun cdv A' outer s H E B sx hr aw hfr hB =>
  (pSs_cons (pS_ret (pE_call sx hr A.k_26 rfl (pAs_cons (pE_call sx hr A.k_25 rfl (pAs_cons (pE_var 0) pAs_nil)) pAs_nil)) (by first | (rw [hfr]; rfl) | (show (!B.fr || _) = true; rw [hfr]; rfl)))
  pSs_nil)) rfl rfl
theorem sc_28 : FnScope [("stairs" : Str), ("found" : Str), ("own" : Str)] [("stairs" : Str)] (defScope (topS 34)) := ⟨rfl, rfl, rfl, by decide +kernel, rfl, by decide +kernel, by decide +kernel⟩
theorem ok_28 (fx : Fx P K mg) (A : Al P w K mg base n) {fd : FuncData} (Fd : L2.Fun K "all_cells" "all_cells" (topS 34) (He.ga K "all_cells") fd) : FnOk P w K mg base (L2.CX P w) (n + 1) (He.ga K "all_cells") fd [("stairs" : Str)] (spF (G0 K w) (runF Tb WN (n + 1)) 28 none) :=
  fn_ok (F := runF Tb WN n) (wn := WN) (hot := [1]) Fd sc_28 d_28 (fun vs => rfl) rfl rfl rfl rfl (fun cdv A' outer s H E B sx hr aw hfr hB =>
  (pSs_cons (pS_new 1 sx.nd (aw 1 (by decide)) rfl (by first | exact Or.inl rfl | exact Or.inr rfl) (pE_lst pAs_nil) rfl)
  (pSs_cons (pS_for (passes_of rfl) rfl (pI_seq sx.K (pE_var 0)) (pG_name 2 sx.nd rfl (by first | exact Or.inl rfl | exact Or.inr rfl)) (pSs_cons (pS_ext 1 sx.K (pE_call sx hr A.k_26 rfl (pAs_cons (pE_var 2) pAs_nil)))
  pSs_nil))
  (pSs_cons (pS_ret (pE_ckn (pE_callB (cr_sorted sx.K sx.un) rfl fx.b_sorted (boot_sorted') (pAs_cons (pE_var 1) pAs_nil))) (by first | (rw [hfr]; rfl) | (show (!B.fr || _) = true; rw [hfr]; rfl)))
  pSs_nil)))) rfl rfl
theorem sc_29 : FnScope [("thing" : Str), ("size" : Str), ("own" : Str)] [("thing" : Str), ("size" : Str)] (defScope (topS 35)) := ⟨rfl, rfl, rfl, by decide +kernel, rfl, by decide +kernel, by decide +kernel⟩
theorem ok_29 (fx : Fx P K mg) (A : Al P w K mg base n) {fd : FuncData} (Fd : L2.Fun K "are_stairs" "are_stairs" (topS 35) (He.ga K "are_stairs") fd) : FnOk P w K mg base (L2.CX P w) (n + 1) (He.ga K "are_stairs") fd [("thing" : Str), ("size" : Str)] (spF (G0 K w) (runF Tb WN (n + 1)) 29 none) :=
  fn_ok (F := runF Tb WN n) (wn := WN) (hot := []) Fd sc_29 d_29 (fun vs => rfl) rfl rfl rfl rfl (fun cdv A' outer s H E B sx hr aw hfr hB =>
  (pSs_cons (pS_if (PW.pt (pW_or (pT_not (pT_val sx.K (pE_isi sx.K (by decide) rfl fx.b_isinstance rfl fx.b_tuple (boot_tuple') (pE_var 0)))) (pW_or1 (pT_not (pT_val sx.K (pE_callB (cr_all' sx.K rfl) rfl fx.b_all (boot_all') (pAs_cons (pE_lc [(("own" : Str), 2)] rfl sx.nd (pI_seq sx.K (pE_var 0)) (blkOk_by (by kernel_rfl)) (fun _ _ _ _ _ => (pG_name 2 (Sx.blk sx).nd rfl (by first | exact Or.inl rfl | exact Or.inr rfl))) (fun _ _ _ _ _ => pTs_nil) (fun _ _ _ _ _ => (pE_and (Sx.blk sx).K (pE_call (Sx.blk sx) hr A.k_24 rfl (pAs_cons (pE_var 2) pAs_nil)) (pE_one (pE_cmp (or_eq (Sx.blk sx).K (Sx.u70 (Sx.blk sx))) (pE_callB (cr_len (Sx.blk sx).K (Sx.blk sx).w) rfl fx.b_len (boot_len') (pAs_cons (pE_ix (ir_ix (Sx.blk sx).K (Sx.blk sx).w (Sx.u70 (Sx.blk sx))) (pE_var 2) pE_int (fun _ _ => rfl)) pAs_nil)) (pE_bin (or_sub) (pE_var 1) pE_int) (by with_unfolding_all rfl)))))) pAs_nil))))))) (pSs_cons (pS_ret pE_bl (by first | (rw [hfr]; rfl) | (show (!B.fr || _) = true; rw [hfr]; rfl)))
  pSs_nil) pSs_nil)
  (pSs_cons (pS_ret (pE_call sx hr A.k_4 rfl (pAs_cons (pE_var 0) pAs_nil)) (by first | (rw [hfr]; rfl) | (show (!B.fr || _) = true; rw [hfr]; rfl)))
  pSs_nil))) rfl rfl
theorem sc_30 : FnScope [("laying" : Str), ("own" : Str), ("cells" : Str)] [("laying" : Str)] (defScope (topS 36)) := ⟨rfl, rfl, rfl, by decide +kernel, rfl, by decide +kernel, by decide +kernel⟩
theorem ok_30 (fx : Fx P K mg) (A : Al P w K mg base n) {fd : FuncData} (Fd : L2.Fun K "sure_laying" "sure_laying" (topS 36) (He.ga K "sure_laying") fd) : FnOk P w K mg base (L2.CX P w) (n + 1) (He.ga K "sure_laying") fd [("laying" : Str)] (spF (G0 K w) (runF Tb WN (n + 1)) 30 none) :=
  fn_ok (F := runF Tb WN n) (wn := WN) (hot := []) Fd sc_30 d_30 (fun vs => rfl) rfl rfl rfl rfl (fun cdv A' outer s H E B sx hr aw hfr hB =>
  (pSs_cons (pS_set 1 sx.nd rfl (by first | exact Or.inl rfl | exact Or.inr rfl) (pE_call sx hr A.k_3 rfl (pAs_cons (pE_var 0) pAs_nil)))
  (pSs_cons (pS_if (PW.pt (pW_or (pT_not (pT_val sx.K (pE_isi sx.K (by decide) rfl fx.b_isinstance rfl fx.b_tuple (boot_tuple') (pE_var 1)))) (pW_or (pT_cmp' (or_eq sx.K (Sx.u70 sx)) (pE_var 1) (pE_tup pAs_nil) (by with_unfolding_all rfl)) (pW_or (pT_not (pT_val sx.K (pE_call sx hr A.k_24 rfl (pAs_cons (pE_ix (ir_ix sx.K sx.w (Sx.u70 sx)) (pE_var 1) pE_int (fun _ _ => rfl)) pAs_nil)))) (pW_or1 (pT_not (pT_val sx.K (pE_call sx hr A.k_29 rfl (pAs_cons (pE_var 1) (pAs_cons (pE_bin (or_add sx.K) (pE_callB (cr_len sx.K sx.w) rfl fx.b_len (boot_len') (pAs_cons (pE_ix (ir_ix sx.K sx.w (Sx.u70 sx)) (pE_ix (ir_ix sx.K sx.w (Sx.u70 sx)) (pE_var 1) pE_int (fun _ _ => rfl)) pE_int (fun _ _ => rfl)) pAs_nil)) pE_int) pAs_nil)))))))))) (pSs_cons (pS_raise0 8 rfl rfl sx.tk (mk_zero fx.ec_8 PySem.F.excBase_ValueError fx.ex_8 rfl))
  pSs_nil) pSs_nil)
  (pSs_cons (pS_set 2 sx.nd rfl (by first | exact Or.inl rfl | exact Or.inr rfl) (pE_call sx hr A.k_28 rfl (pAs_cons (pE_var 1) pAs_nil)))
  (pSs_cons (pS_if (PW.pt (pW_or (pT_not (pT_val sx.K (pE_call sx hr A.k_4 rfl (pAs_cons (pE_var 2) pAs_nil)))) (pW_or1 (pT_not (pT_val sx.K (pE_call sx hr A.k_13 rfl (pAs_cons (pE_callTy (cr_tuple sx.K) rfl fx.b_tuple (boot_tuple') (pAs_cons (pE_var 2) pAs_nil)) pAs_nil))))))) (pSs_cons (pS_raise0 8 rfl rfl sx.tk (mk_zero fx.ec_8 PySem.F.excBase_ValueError fx.ex_8 rfl))
  pSs_nil) pSs_nil)
  (pSs_cons (pS_ret (pE_var 1) (by first | (rw [hfr]; rfl) | (show (!B.fr || _) = true; rw [hfr]; rfl)))
  pSs_nil)))))) rfl rfl
theorem sc_31 : FnScope [("cell" : Str), ("by" : Str)] [("cell" : Str), ("by" : Str)] (defScope (topS 38)) := ⟨rfl, rfl, rfl, by decide +kernel, rfl, by decide +kernel, by decide +kernel⟩
theorem ok_31 (fx : Fx P K mg) (A : Al P w K mg base n) {fd : FuncData} (Fd : L2.Fun K "moved" "moved" (topS 38) (He.ga K "moved") fd) : FnOk P w K mg base (L2.CX P w) (n + 1) (He.ga K "moved") fd [("cell" : Str), ("by" : Str)] (spF (G0 K w) (runF Tb WN (n + 1)) 31 none) :=
  fn_ok (F := runF Tb WN n) (wn := WN) (hot := []) Fd sc_31 d_31 (fun vs => rfl) rfl rfl rfl rfl (fun cdv A' outer s H E B sx hr aw hfr hB =>
  (pSs_cons (pS_ret (pE_tup (pAs_cons (pE_bin (or_add sx.K) (pE_ix (ir_ix sx.K sx.w (Sx.u70 sx)) (pE_var 0) pE_int (fun _ _ => rfl)) (pE_ix (ir_ix sx.K sx.w (Sx.u70 sx)) (pE_var 1) pE_int (fun _ _ => rfl))) (pAs_cons (pE_bin (or_add sx.K) (pE_ix (ir_ix sx.K sx.w (Sx.u70 sx)) (pE_var 0) pE_int (fun _ _ => rfl)) (pE_ix (ir_ix sx.K sx.w (Sx.u70 sx)) (pE_var 1) pE_int (fun _ _ => rfl))) pAs_nil))) (by first | (rw [hfr]; rfl) | (show (!B.fr || _) = true; rw [hfr]; rfl)))
  pSs_nil)) rfl rfl
theorem sc_32 : FnScope [("floor" : Str), ("by" : Str), ("cell" : Str)] [("floor" : Str), ("by" : Str)] (defScope (topS 39)) := ⟨rfl, rfl, rfl, by decide +kernel, rfl, by decide +kernel, by decide +kernel⟩
theorem ok_32 (fx : Fx P K mg) (A : Al P w K mg base n) {fd : FuncData} (Fd : L2.Fun K "shifted" "shifted" (topS 39) (He.ga K "shifted") fd) : FnOk P w K mg base (L2.CX P w) (n + 1) (He.ga K "shifted") fd [("floor" : Str), ("by" : Str)] (spF (G0 K w) (runF Tb WN (n + 1)) 32 none) :=
  fn_ok (F := runF Tb WN n) (wn := WN) (hot := []) Fd sc_32 d_32 (fun vs => rfl) rfl rfl rfl rfl (fun cdv A' outer s H E B sx hr aw hfr hB =>
  (pSs_cons (pS_ret (pE_call sx hr A.k_5 rfl (pAs_cons (pE_lc [(("cell" : Str), 2)] rfl sx.nd (pI_seq sx.K (pE_call sx hr A.k_15 rfl (pAs_cons (pE_var 0) pAs_nil))) (blkOk_by (by kernel_rfl)) (fun _ _ _ _ _ => (pG_name 2 (Sx.blk sx).nd rfl (by first | exact Or.inl rfl | exact Or.inr rfl))) (fun _ _ _ _ _ => pTs_nil) (fun _ _ _ _ _ => (pE_call (Sx.blk sx) hr A.k_31 rfl (pAs_cons (pE_var 2) (pAs_cons (pE_var 1) pAs_nil))))) pAs_nil)) (by first | (rw [hfr]; rfl) | (show (!B.fr || _) = true; rw [hfr]; rfl)))
  pSs_nil)) rfl rfl
theorem sc_33 : FnScope [("floor" : Str), ("x" : Str), ("y" : Str)] [("floor" : Str)] (defScope (topS 40)) := ⟨rfl, rfl, rfl, by decide +kernel, rfl, by decide +kernel, by decide +kernel⟩
theorem ok_33 (fx : Fx P K mg) (A : Al P w K mg base n) {fd : FuncData} (Fd : L2.Fun K "mirrored" "mirrored" (topS 40) (He.ga K "mirrored") fd) : FnOk P w K mg base (L2.CX P w) (n + 1) (He.ga K "mirrored") fd [("floor" : Str)] (spF (G0 K w) (runF Tb WN (n + 1)) 33 none) :=
  fn_ok (F := runF Tb WN n) (wn := WN) (hot := []) Fd sc_33 d_33 (fun vs => rfl) rfl rfl rfl rfl (fun cdv A' outer s H E B sx hr aw hfr hB =>
  (pSs_cons (pS_ret (pE_call sx hr A.k_5 rfl (pAs_cons (pE_lc [(("x" : Str), 1), (("y" : Str), 2)] rfl sx.nd (pI_seq sx.K (pE_call sx hr A.k_15 rfl (pAs_cons (pE_var 0) pAs_nil))) (blkOk_by (by kernel_rfl)) (fun _ _ _ _ _ => (pG_tup (Sx.blk sx).K rfl (pGs_cons (pG_name 1 (Sx.blk sx).nd rfl (by first | exact Or.inl rfl | exact Or.inr rfl)) (pGs_cons (pG_name 2 (Sx.blk sx).nd rfl (by first | exact Or.inl rfl | exact Or.inr rfl)) pGs_nil)))) (fun _ _ _ _ _ => pTs_nil) (fun _ _ _ _ _ => (pE_tup (pAs_cons (pE_var 2) (pAs_cons (pE_var 1) pAs_nil))))) pAs_nil)) (by first | (rw [hfr]; rfl) | (show (!B.fr || _) = true; rw [hfr]; rfl)))
  pSs_nil)) rfl rfl
theorem sc_34 : FnScope [("floor" : Str), ("x" : Str), ("y" : Str)] [("floor" : Str)] (defScope (topS 41)) := ⟨rfl, rfl, rfl, by decide +kernel, rfl, by decide +kernel, by decide +kernel⟩
theorem ok_34 (fx : Fx P K mg) (A : Al P w K mg base n) {fd : FuncData} (Fd : L2.Fun K "half_turned" "half_turned" (topS 41) (He.ga K "half_turned") fd) : FnOk P w K mg base (L2.CX P w) (n + 1) (He.ga K "half_turned") fd [("floor" : Str)] (spF (G0 K w) (runF Tb WN (n + 1)) 34 none) :=
  fn_ok (F := runF Tb WN n) (wn := WN) (hot := []) Fd sc_34 d_34 (fun vs => rfl) rfl rfl rfl rfl (fun cdv A' outer s H E B sx hr aw hfr hB =>
  (pSs_cons (pS_ret (pE_call sx hr A.k_5 rfl (pAs_cons (pE_lc [(("x" : Str), 1), (("y" : Str), 2)] rfl sx.nd (pI_seq sx.K (pE_call sx hr A.k_15 rfl (pAs_cons (pE_var 0) pAs_nil))) (blkOk_by (by kernel_rfl)) (fun _ _ _ _ _ => (pG_tup (Sx.blk sx).K rfl (pGs_cons (pG_name 1 (Sx.blk sx).nd rfl (by first | exact Or.inl rfl | exact Or.inr rfl)) (pGs_cons (pG_name 2 (Sx.blk sx).nd rfl (by first | exact Or.inl rfl | exact Or.inr rfl)) pGs_nil)))) (fun _ _ _ _ _ => pTs_nil) (fun _ _ _ _ _ => (pE_tup (pAs_cons (pE_un ur_neg (pE_var 1)) (pAs_cons (pE_un ur_neg (pE_var 2)) pAs_nil))))) pAs_nil)) (by first | (rw [hfr]; rfl) | (show (!B.fr || _) = true; rw [hfr]; rfl)))
  pSs_nil)) rfl rfl
theorem sc_35 : FnScope [("stair" : Str), ("by" : Str), ("first" : Str), ("steps" : Str)] [("stair" : Str), ("by" : Str)] (defScope (topS 42)) := ⟨rfl, rfl, rfl, by decide +kernel, rfl, by decide +kernel, by decide +kernel⟩
theorem ok_35 (fx : Fx P K mg) (A : Al P w K mg base n) {fd : FuncData} (Fd : L2.Fun K "stair_shifted" "stair_shifted" (topS 42) (He.ga K "stair_shifted") fd) : FnOk P w K mg base (L2.CX P w) (n + 1) (He.ga K "stair_shifted") fd [("stair" : Str), ("by" : Str)] (spF (G0 K w) (runF Tb WN (n + 1)) 35 none) :=
  fn_ok (F := runF Tb WN n) (wn := WN) (hot := []) Fd sc_35 d_35 (fun vs => rfl) rfl rfl rfl rfl (fun cdv A' outer s H E B sx hr aw hfr hB =>
  (pSs_cons (pS_tgt (pE_call sx hr A.k_25 rfl (pAs_cons (pE_var 0) pAs_nil)) (pG_tup sx.K rfl (pGs_cons (pG_name 2 sx.nd rfl (by first | exact Or.inl rfl | exact Or.inr rfl)) (pGs_cons (pG_name 3 sx.nd rfl (by first | exact Or.inl rfl | exact Or.inr rfl)) pGs_nil))))
  (pSs_cons (pS_ret (pE_tup (pAs_cons (pE_call sx hr A.k_31 rfl (pAs_cons (pE_var 2) (pAs_cons (pE_var 1) pAs_nil))) (pAs_cons (pE_var 3) pAs_nil))) (by first | (rw [hfr]; rfl) | (show (!B.fr || _) = true; rw [hfr]; rfl)))
  pSs_nil))) rfl rfl
theorem sc_36 : FnScope [("stair" : Str), ("steps" : Str), ("x" : Str), ("y" : Str), ("own" : Str)] [("stair" : Str)] (defScope (topS 43)) := ⟨rfl, rfl, rfl, by decide +kernel, rfl, by decide +kernel, by decide +kernel⟩
theorem ok_36 (fx : Fx P K mg) (A : Al P w K mg base n) {fd : FuncData} (Fd : L2.Fun K "stair_mirrored" "stair_mirrored" (topS 43) (He.ga K "stair_mirrored") fd) : FnOk P w K mg base (L2.CX P w) (n + 1) (He.ga K "stair_mirrored") fd [("stair" : Str)] (spF (G0 K w) (runF Tb WN (n + 1)) 36 none) :=
  fn_ok (F := runF Tb WN n) (wn := WN) (hot := []) Fd sc_36 d_36 (fun vs => rfl) rfl rfl rfl rfl (fun cdv A' outer s H E B sx hr aw hfr hB =>
  (pSs_cons (pS_tgt (pE_call sx hr A.k_25 rfl (pAs_cons (pE_var 0) pAs_nil)) (pG_tup sx.K rfl (pGs_cons (pG_tup sx.K rfl (pGs_cons (pG_name 2 sx.nd rfl (by first | exact Or.inl rfl | exact Or.inr rfl)) (pGs_cons (pG_name 3 sx.nd rfl (by first | exact Or.inl rfl | exact Or.inr rfl)) pGs_nil))) (pGs_cons (pG_name 1 sx.nd rfl (by first | exact Or.inl rfl | exact Or.inr rfl)) pGs_nil))))
  (pSs_cons (pS_ret (pE_tup (pAs_cons (pE_tup (pAs_cons (pE_var 3) (pAs_cons (pE_var 2) pAs_nil))) (pAs_cons (pE_callTy (cr_tuple sx.K) rfl fx.b_tuple (boot_tuple') (pAs_cons (pE_lc [(("own" : Str), 4)] rfl sx.nd (pI_seq sx.K (pE_var 1)) (blkOk_by (by kernel_rfl)) (fun _ _ _ _ _ => (pG_name 4 (Sx.blk sx).nd rfl (by first | exact Or.inl rfl | exact Or.inr rfl))) (fun _ _ _ _ _ => pTs_nil) (fun _ _ _ _ _ => (pE_bin (or_sub) pE_int (pE_var 4)))) pAs_nil)) pAs_nil))) (by first | (rw [hfr]; rfl) | (show (!B.fr || _) = true; rw [hfr]; rfl)))
  pSs_nil))) rfl rfl
theorem sc_37 : FnScope [("stair" : Str), ("own" : Str), ("x" : Str), ("y" : Str)] [("stair" : Str)] (defScope (topS 44)) := ⟨rfl, rfl, rfl, by decide +kernel, rfl, by decide +kernel, by decide +kernel⟩
theorem ok_37 (fx : Fx P K mg) (A : Al P w K mg base n) {fd : FuncData} (Fd : L2.Fun K "stair_half_turned" "stair_half_turned" (topS 44) (He.ga K "stair_half_turned") fd) : FnOk P w K mg base (L2.CX P w) (n + 1) (He.ga K "stair_half_turned") fd [("stair" : Str)] (spF (G0 K w) (runF Tb WN (n + 1)) 37 none) :=
  fn_ok (F := runF Tb WN n) (wn := WN) (hot := []) Fd sc_37 d_37 (fun vs => rfl) rfl rfl rfl rfl (fun cdv A' outer s H E B sx hr aw hfr hB =>
  (pSs_cons (pS_set 1 sx.nd rfl (by first | exact Or.inl rfl | exact Or.inr rfl) (pE_call sx hr A.k_25 rfl (pAs_cons (pE_var 0) pAs_nil)))
  (pSs_cons (pS_tgt (pE_ix (ir_ix sx.K sx.w (Sx.u70 sx)) (pE_call sx hr A.k_27 rfl (pAs_cons (pE_var 1) pAs_nil)) (pE_un ur_neg pE_int) (fun _ _ => rfl)) (pG_tup sx.K rfl (pGs_cons (pG_name 2 sx.nd rfl (by first | exact Or.inl rfl | exact Or.inr rfl)) (pGs_cons (pG_name 3 sx.nd rfl (by first | exact Or.inl rfl | exact Or.inr rfl)) pGs_nil))))
  (pSs_cons (pS_ret (pE_tup (pAs_cons (pE_tup (pAs_cons (pE_un ur_neg (pE_var 2)) (pAs_cons (pE_un ur_neg (pE_var 3)) pAs_nil))) (pAs_cons (pE_rev sx.K (pE_ix (ir_ix sx.K sx.w (Sx.u70 sx)) (pE_var 1) pE_int (fun _ _ => rfl))) pAs_nil))) (by first | (rw [hfr]; rfl) | (show (!B.fr || _) = true; rw [hfr]; rfl)))
  pSs_nil)))) rfl rfl
theorem sc_38 : FnScope [("laying" : Str), ("by" : Str), ("own" : Str)] [("laying" : Str), ("by" : Str)] (defScope (topS 45)) := ⟨rfl, rfl, rfl, by decide +kernel, rfl, by decide +kernel, by decide +kernel⟩
theorem ok_38 (fx : Fx P K mg) (A : Al P w K mg base n) {fd : FuncData} (Fd : L2.Fun K "laying_shifted" "laying_shifted" (topS 45) (He.ga K "laying_shifted") fd) : FnOk P w K mg base (L2.CX P w) (n + 1) (He.ga K "laying_shifted") fd [("laying" : Str), ("by" : Str)] (spF (G0 K w) (runF Tb WN (n + 1)) 38 none) :=
  fn_ok (F := runF Tb WN n) (wn := WN) (hot := []) Fd sc_38 d_38 (fun vs => rfl) rfl rfl rfl rfl (fun cdv A' outer s H E B sx hr aw hfr hB =>
  (pSs_cons (pS_ret (pE_call sx hr A.k_5 rfl (pAs_cons (pE_lc [(("own" : Str), 2)] rfl sx.nd (pI_seq sx.K (pE_call sx hr A.k_30 rfl (pAs_cons (pE_var 0) pAs_nil))) (blkOk_by (by kernel_rfl)) (fun _ _ _ _ _ => (pG_name 2 (Sx.blk sx).nd rfl (by first | exact Or.inl rfl | exact Or.inr rfl))) (fun _ _ _ _ _ => pTs_nil) (fun _ _ _ _ _ => (pE_call (Sx.blk sx) hr A.k_35 rfl (pAs_cons (pE_var 2) (pAs_cons (pE_var 1) pAs_nil))))) pAs_nil)) (by first | (rw [hfr]; rfl) | (show (!B.fr || _) = true; rw [hfr]; rfl)))
  pSs_nil)) rfl rfl
theorem sc_39 : FnScope [("laying" : Str), ("own" : Str)] [("laying" : Str)] (defScope (topS 46)) := ⟨rfl, rfl, rfl, by decide +kernel, rfl, by decide +kernel, by decide +kernel⟩
theorem ok_39 (fx : Fx P K mg) (A : Al P w K mg base n) {fd : FuncData} (Fd : L2.Fun K "laying_mirrored" "laying_mirrored" (topS 46) (He.ga K "laying_mirrored") fd) : FnOk P w K mg base (L2.CX P w) (n + 1) (He.ga K "laying_mirrored") fd [("laying" : Str)] (spF (G0 K w) (runF Tb WN (n + 1)) 39 none) :=
  fn_ok (F := runF Tb WN n) (wn := WN) (hot := []) Fd sc_39 d_39 (fun vs => rfl) rfl rfl rfl rfl (fun cdv A' outer s H E B sx hr aw hfr hB =>
  (pSs_cons (pS_ret (pE_call sx hr A.k_5 rfl (pAs_cons (pE_lc [(("own" : Str), 1)] rfl sx.nd (pI_seq sx.K (pE_call sx hr A.k_30 rfl (pAs_cons (pE_var 0) pAs_nil))) (blkOk_by (by kernel_rfl)) (fun _ _ _ _ _ => (pG_name 1 (Sx.blk sx).nd rfl (by first | exact Or.inl rfl | exact Or.inr rfl))) (fun _ _ _ _ _ => pTs_nil) (fun _ _ _ _ _ => (pE_call (Sx.blk sx) hr A.k_36 rfl (pAs_cons (pE_var 1) pAs_nil)))) pAs_nil)) (by first | (rw [hfr]; rfl) | (show (!B.fr || _) = true; rw [hfr]; rfl)))
  pSs_nil)) rfl rfl
theorem sc_40 : FnScope [("laying" : Str), ("own" : Str)] [("laying" : Str)] (defScope (topS 47)) := ⟨rfl, rfl, rfl, by decide +kernel, rfl, by decide +kernel, by decide +kernel⟩
theorem ok_40 (fx : Fx P K mg) (A : Al P w K mg base n) {fd : FuncData} (Fd : L2.Fun K "laying_half_turned" "laying_half_turned" (topS 47) (He.ga K "laying_half_turned") fd) : FnOk P w K mg base (L2.CX P w) (n + 1) (He.ga K "laying_half_turned") fd [("laying" : Str)] (spF (G0 K w) (runF Tb WN (n + 1)) 40 none) :=
  fn_ok (F := runF Tb WN n) (wn := WN) (hot := []) Fd sc_40 d_40 (fun vs => rfl) rfl rfl rfl rfl (fun cdv A' outer s H E B sx hr aw hfr hB =>
  (pSs_cons (pS_ret (pE_call sx hr A.k_5 rfl (pAs_cons (pE_lc [(("own" : Str), 1)] rfl sx.nd (pI_seq sx.K (pE_call sx hr A.k_30 rfl (pAs_cons (pE_var 0) pAs_nil))) (blkOk_by (by kernel_rfl)) (fun _ _ _ _ _ => (pG_name 1 (Sx.blk sx).nd rfl (by first | exact Or.inl rfl | exact Or.inr rfl))) (fun _ _ _ _ _ => pTs_nil) (fun _ _ _ _ _ => (pE_call (Sx.blk sx) hr A.k_37 rfl (pAs_cons (pE_var 1) pAs_nil)))) pAs_nil)) (by first | (rw [hfr]; rfl) | (show (!B.fr || _) = true; rw [hfr]; rfl)))
  pSs_nil)) rfl rfl
theorem sc_41 : FnScope [("floor" : Str), ("found" : Str), ("own" : Str), ("by" : Str), ("cell" : Str), ("x" : Str), ("_" : Str), ("y" : Str)] [("floor" : Str)] (defScope (topS 48)) := ⟨rfl, rfl, rfl, by decide +kernel, rfl, by decide +kernel, by decide +kernel⟩
theorem ok_41 (fx : Fx P K mg) (A : Al P w K mg base n) {fd : FuncData} (Fd : L2.Fun K "least_form" "least_form" (topS 48) (He.ga K "least_form") fd) : FnOk P w K mg base (L2.CX P w) (n + 1) (He.ga K "least_form") fd [("floor" : Str)] (spF (G0 K w) (runF Tb WN (n + 1)) 41 none) :=
  fn_ok (F := runF Tb WN n) (wn := WN) (hot := [1]) Fd sc_41 d_41 (fun vs => rfl) rfl rfl rfl rfl (fun cdv A' outer s H E B sx hr aw hfr hB =>
  (pSs_cons (pS_new 1 sx.nd (aw 1 (by decide)) rfl (by first | exact Or.inl rfl | exact Or.inr rfl) (pE_lst pAs_nil) rfl)
  (pSs_cons (pS_for (passes_of rfl) rfl (pI_seq sx.K (pE_tup (pAs_cons (pE_var 0) (pAs_cons (pE_call sx hr A.k_33 rfl (pAs_cons (pE_var 0) pAs_nil)) (pAs_cons (pE_call sx hr A.k_34 rfl (pAs_cons (pE_var 0) pAs_nil)) (pAs_cons (pE_call sx hr A.k_34 rfl (pAs_cons (pE_call sx hr A.k_33 rfl (pAs_cons (pE_var 0) pAs_nil)) pAs_nil)) pAs_nil)))))) (pG_name 2 sx.nd rfl (by first | exact Or.inl rfl | exact Or.inr rfl)) (pSs_cons (pS_set 3 sx.nd rfl (by first | exact Or.inl rfl | exact Or.inr rfl) (pE_tup (pAs_cons (pE_un ur_neg (pE_callB (cr_min1 sx.K rfl sx.un) rfl fx.b_min (boot_min') (pAs_cons (pE_lc [(("x" : Str), 5), (("_" : Str), 6)] rfl sx.nd (pI_seq sx.K (pE_var 2)) (blkOk_by (by kernel_rfl)) (fun _ _ _ _ _ => (pG_tup (Sx.blk sx).K rfl (pGs_cons (pG_name 5 (Sx.blk sx).nd rfl (by first | exact Or.inl rfl | exact Or.inr rfl)) (pGs_cons (pG_name 6 (Sx.blk sx).nd rfl (by first | exact Or.inl rfl | exact Or.inr rfl)) pGs_nil)))) (fun _ _ _ _ _ => pTs_nil) (fun _ _ _ _ _ => (pE_var 5))) pAs_nil))) (pAs_cons (pE_un ur_neg (pE_callB (cr_min1 sx.K rfl sx.un) rfl fx.b_min (boot_min') (pAs_cons (pE_lc [(("_" : Str), 6), (("y" : Str), 7)] rfl sx.nd (pI_seq sx.K (pE_var 2)) (blkOk_by (by kernel_rfl)) (fun _ _ _ _ _ => (pG_tup (Sx.blk sx).K rfl (pGs_cons (pG_name 6 (Sx.blk sx).nd rfl (by first | exact Or.inl rfl | exact Or.inr rfl)) (pGs_cons (pG_name 7 (Sx.blk sx).nd rfl (by first | exact Or.inl rfl | exact Or.inr rfl)) pGs_nil)))) (fun _ _ _ _ _ => pTs_nil) (fun _ _ _ _ _ => (pE_var 7))) pAs_nil))) pAs_nil))))
  (pSs_cons (pS_app 1 (pE_call sx hr A.k_5 rfl (pAs_cons (pE_lc [(("cell" : Str), 4)] rfl sx.nd (pI_seq sx.K (pE_var 2)) (blkOk_by (by kernel_rfl)) (fun _ _ _ _ _ => (pG_name 4 (Sx.blk sx).nd rfl (by first | exact Or.inl rfl | exact Or.inr rfl))) (fun _ _ _ _ _ => pTs_nil) (fun _ _ _ _ _ => (pE_call (Sx.blk sx) hr A.k_31 rfl (pAs_cons (pE_var 4) (pAs_cons (pE_var 3) pAs_nil))))) pAs_nil)))
  pSs_nil)))
  (pSs_cons (pS_ret (pE_ck (pE_callB (cr_min1 sx.K rfl sx.un) rfl fx.b_min (boot_min') (pAs_cons (pE_var 1) pAs_nil))) (by first | (rw [hfr]; rfl) | (show (!B.fr || _) = true; rw [hfr]; rfl)))
  pSs_nil)))) rfl rfl
theorem sc_42 : FnScope [("floor" : Str), ("other" : Str), ("near" : Str), ("far" : Str)] [("floor" : Str), ("other" : Str)] (defScope (topS 49)) := ⟨rfl, rfl, rfl, by decide +kernel, rfl, by decide +kernel, by decide +kernel⟩
theorem ok_42 (fx : Fx P K mg) (A : Al P w K mg base n) {fd : FuncData} (Fd : L2.Fun K "alike" "alike" (topS 49) (He.ga K "alike") fd) : FnOk P w K mg base (L2.CX P w) (n + 1) (He.ga K "alike") fd [("floor" : Str), ("other" : Str)] (spF (G0 K w) (runF Tb WN (n + 1)) 42 none) :=
  fn_ok (F := runF Tb WN n) (wn := WN) (hot := []) Fd sc_42 d_42 (fun vs => rfl) rfl rfl rfl rfl (fun cdv A' outer s H E B sx hr aw hfr hB =>
  (pSs_cons (by first | exact (pS_par (i := 2) (j := 3) rfl sx.nd rfl rfl (by decide) rfl rfl (.inl ⟨rfl, by decide, rfl⟩) (.inl ⟨rfl, by decide, rfl⟩) (pE_call sx hr A.k_15 rfl (pAs_cons (pE_var 0) pAs_nil)) (pE_call sx hr A.k_15 rfl (pAs_cons (pE_var 1) pAs_nil)) rfl) | exact (pS_parT (i := 2) (j := 3) rfl sx.nd rfl rfl (by decide) (by first | exact Or.inl rfl | exact Or.inr rfl) (by first | exact Or.inl rfl | exact Or.inr rfl) (.inl ⟨rfl, by decide, rfl⟩) (.inl ⟨rfl, by decide, rfl⟩) (pE_call sx hr A.k_15 rfl (pAs_cons (pE_var 0) pAs_nil)) (pE_call sx hr A.k_15 rfl (pAs_cons (pE_var 1) pAs_nil)) (by first | exact Or.inl rfl | exact Or.inr rfl) (by first | exact Or.inl rfl | exact Or.inr rfl)))
  (pSs_cons (pS_ret (pE_cmp (or_eq sx.K (Sx.u70 sx)) (pE_call sx hr A.k_41 rfl (pAs_cons (pE_var 2) pAs_nil)) (pE_call sx hr A.k_41 rfl (pAs_cons (pE_var 3) pAs_nil)) (by with_unfolding_all rfl)) (by first | (rw [hfr]; rfl) | (show (!B.fr || _) = true; rw [hfr]; rfl)))
  pSs_nil))) rfl rfl
theorem sc_43 : FnScope [("script" : Str), ("k" : Str), ("bit_so" : Str)] [("script" : Str), ("k" : Str)] (defScope (topS 51)) := ⟨rfl, rfl, rfl, by decide +kernel, rfl, by decide +kernel, by decide +kernel⟩
theorem ok_43 (fx : Fx P K mg) (A : Al P w K mg base n) {fd : FuncData} (Fd : L2.Fun K "_law_box" "_law_box" (topS 51) (He.ga K "_law_box") fd) : FnOk P w K mg base (L2.CX P w) (n + 1) (He.ga K "_law_box") fd [("script" : Str), ("k" : Str)] (spF (G0 K w) (runF Tb WN (n + 1)) 43 none) :=
  fn_ok (F := runF Tb WN n) (wn := WN) (hot := []) Fd sc_43 d_43 (fun vs => rfl) rfl rfl rfl rfl (fun cdv A' outer s H E B sx hr aw hfr hB =>
  (pSs_cons (pS_set 2 sx.nd rfl (by first | exact Or.inl rfl | exact Or.inr rfl) (pE_ite (pT_cmp' (or_lt sx.K (Sx.u70 sx)) (pE_var 1) (pE_callB (cr_len sx.K sx.w) rfl fx.b_len (boot_len') (pAs_cons (pE_var 0) pAs_nil)) (by with_unfolding_all rfl)) (pE_ix (ir_ix sx.K sx.w (Sx.u70 sx)) (pE_var 0) (pE_var 1) (fun _ _ => rfl)) pE_int))
  (pSs_cons (pS_ret (pE_lst (pAs_cons (pE_bin (or_mul sx.K) (pE_callB (cr_abs) rfl fx.b_abs (boot_abs') (pAs_cons (pE_var 2) pAs_nil)) (pE_callTy (cr_int) rfl fx.b_int (boot_int') (pAs_cons (pE_cmp (or_ge sx.K (Sx.u70 sx)) (pE_callB (cr_abs) rfl fx.b_abs (boot_abs') (pAs_cons (pE_var 2) pAs_nil)) (pE_bin (or_pow) pE_int pE_int) (by with_unfolding_all rfl)) pAs_nil))) (pAs_cons (pE_bin (or_add sx.K) (pE_bin (or_add sx.K) (pE_bin (or_mod) (pE_callTy (cr_int) rfl fx.b_int (boot_int') (pAs_cons (pE_var 2) pAs_nil)) pE_int) (pE_bin (or_mul sx.K) pE_int (pE_var 1))) pE_int) (pAs_cons pE_int pAs_nil)))) (by first | (rw [hfr]; rfl) | (show (!B.fr || _) = true; rw [hfr]; rfl)))
  pSs_nil))) rfl rfl
theorem sc_44 : FnScope [("tin" : Str), ("below_so" : Str), ("once_so" : Str), ("wide_so" : Str), ("twice_so" : Str), ("drawn" : Str)] [("tin" : Str), ("below_so" : Str)] (defScope (topS 52)) := ⟨rfl, rfl, rfl, by decide +kernel, rfl, by decide +kernel, by decide +kernel⟩
theorem ok_44 (fx : Fx P K mg) (A : Al P w K mg base n) {fd : FuncData} (Fd : L2.Fun K "_law_take" "_law_take" (topS 52) (He.ga K "_law_take") fd) : FnOk P w K mg base (L2.CX P w) (n + 1) (He.ga K "_law_take") fd [("tin" : Str), ("below_so" : Str)] (spF (G0 K w) (runF Tb WN (n + 1)) 44 (some 0)) :=
  fn_ok (F := runF Tb WN n) (wn := WN) (hot := [0]) Fd sc_44 d_44 (fun vs => rfl) rfl rfl rfl rfl (fun cdv A' outer s H E B sx hr aw hfr hB =>
  (pSs_cons (pS_if (pT_cmp' (or_gt sx.K (Sx.u70 sx)) (pE_ix (ir_ix sx.K sx.w (Sx.u70 sx)) (pE_var 0) pE_int (fun _ _ => rfl)) pE_int (by with_unfolding_all rfl)) (pSs_cons (pS_set 5 sx.nd rfl (by first | exact Or.inl rfl | exact Or.inr rfl) (pE_ck (pE_bin (or_mod) (pE_callTy (cr_int) rfl fx.b_int (boot_int') (pAs_cons (pE_ix (ir_ix sx.K sx.w (Sx.u70 sx)) (pE_var 0) pE_int (fun _ _ => rfl)) pAs_nil)) (pE_var 1))))
  (pSs_cons (pS_sub 0 sx.K sx.w (Sx.u70 sx) (pE_ck (pE_bin (or_fdiv) (pE_ix (ir_ix sx.K sx.w (Sx.u70 sx)) (pE_var 0) pE_int (fun _ _ => rfl)) (pE_var 1))) pE_int)
  (pSs_cons (pS_ret (pE_var 5) (by first | (rw [hfr]; rfl) | (show (!B.fr || _) = true; rw [hfr]; rfl)))
  pSs_nil))) pSs_nil)
  (pSs_cons (pS_sub 0 sx.K sx.w (Sx.u70 sx) (pE_ck (pE_bin (or_add sx.K) (pE_ix (ir_ix sx.K sx.w (Sx.u70 sx)) (pE_var 0) pE_int (fun _ _ => rfl)) pE_int)) pE_int)
  (pSs_cons (pS_set 2 sx.nd rfl (by first | exact Or.inl rfl | exact Or.inr rfl) (pE_ck (pE_bin (or_mod) (pE_callTy (cr_int) rfl fx.b_int (boot_int') (pAs_cons (pE_bin (or_mul sx.K) (pE_bin (or_add sx.K) (pE_ix (ir_ix sx.K sx.w (Sx.u70 sx)) (pE_var 0) pE_int (fun _ _ => rfl)) (pE_bin (or_mul sx.K) pE_int (pE_ix (ir_ix sx.K sx.w (Sx.u70 sx)) (pE_var 0) pE_int (fun _ _ => rfl)))) (pE_bin (or_add sx.K) pE_int (pE_ix (ir_ix sx.K sx.w (Sx.u70 sx)) (pE_var 0) pE_int (fun _ _ => rfl)))) pAs_nil)) pE_int)))
  (pSs_cons (pS_set 3 sx.nd rfl (by first | exact Or.inl rfl | exact Or.inr rfl) (pE_bin (or_add sx.K) (pE_bin (or_mod) (pE_callTy (cr_int) rfl fx.b_int (boot_int') (pAs_cons (pE_var 2) pAs_nil)) pE_int) pE_int))
  (pSs_cons (pS_set 4 sx.nd rfl (by first | exact Or.inl rfl | exact Or.inr rfl) (pE_ck (pE_bin (or_mod) (pE_callTy (cr_int) rfl fx.b_int (boot_int') (pAs_cons (pE_bin (or_mul sx.K) (pE_bin (or_add sx.K) (pE_bin (or_add sx.K) (pE_var 2) (pE_ix (ir_ix sx.K sx.w (Sx.u70 sx)) (pE_var 0) pE_int (fun _ _ => rfl))) (pE_bin (or_fdiv) (pE_ix (ir_ix sx.K sx.w (Sx.u70 sx)) (pE_var 0) pE_int (fun _ _ => rfl)) pE_int)) (pE_var 3)) pAs_nil)) pE_int)))
  (pSs_cons (pS_ret (pE_bin (or_mod) (pE_callTy (cr_int) rfl fx.b_int (boot_int') (pAs_cons (pE_bin (or_fdiv) (pE_bin (or_mod) (pE_callTy (cr_int) rfl fx.b_int (boot_int') (pAs_cons (pE_bin (or_add sx.K) (pE_bin (or_mul sx.K) (pE_var 4) pE_int) (pE_var 2)) pAs_nil)) pE_int) pE_int) pAs_nil)) (pE_var 1)) (by first | (rw [hfr]; rfl) | (show (!B.fr || _) = true; rw [hfr]; rfl)))
  pSs_nil))))))) rfl rfl
theorem sc_45 : FnScope [("script" : Str), ("most_so" : Str), ("cells_so" : Str), ("k" : Str), ("bit_so" : Str), ("at_so" : Str)] [("script" : Str), ("most_so" : Str)] (defScope (topS 53)) := ⟨rfl, rfl, rfl, by decide +kernel, rfl, by decide +kernel, by decide +kernel⟩
theorem ok_45 (fx : Fx P K mg) (A : Al P w K mg base n) {fd : FuncData} (Fd : L2.Fun K "_law_cells" "_law_cells" (topS 53) (He.ga K "_law_cells") fd) : FnOk P w K mg base (L2.CX P w) (n + 1) (He.ga K "_law_cells") fd [("script" : Str), ("most_so" : Str)] (spF (G0 K w) (runF Tb WN (n + 1)) 45 none) :=
  fn_ok (F := runF Tb WN n) (wn := WN) (hot := [2]) Fd sc_45 d_45 (fun vs => rfl) rfl rfl rfl rfl (fun cdv A' outer s H E B sx hr aw hfr hB =>
  (pSs_cons (pS_new 2 sx.nd (aw 2 (by decide)) rfl (by first | exact Or.inl rfl | exact Or.inr rfl) (pE_or sx.K (pE_callTy (cr_list sx.K) rfl fx.b_list (boot_list') (pAs_cons (pE_slH sx.K (pE_var 0) (pE_var 1)) pAs_nil)) (pE_one (pE_lst (pAs_cons pE_int pAs_nil)))) rfl)
  (pSs_cons (pS_for (passes_of rfl) rfl (pI_enum sx.K rfl fx.b_enumerate (pE_sl sx.K (pE_var 0) (pE_var 1) pE_int)) (pG_tup sx.K rfl (pGs_cons (pG_name 3 sx.nd rfl (by first | exact Or.inl rfl | exact Or.inr rfl)) (pGs_cons (pG_name 4 sx.nd rfl (by first | exact Or.inl rfl | exact Or.inr rfl)) pGs_nil))) (pSs_cons (pS_set 5 sx.nd rfl (by first | exact Or.inl rfl | exact Or.inr rfl) (pE_bin (or_mod) (pE_callTy (cr_int) rfl fx.b_int (boot_int') (pAs_cons (pE_var 3) pAs_nil)) (pE_var 1)))
  (pSs_cons (pS_sub 2 sx.K sx.w (Sx.u70 sx) (pE_ck (pE_bin (or_add sx.K) (pE_ix (ir_ix sx.K sx.w (Sx.u70 sx)) (pE_var 2) (pE_var 5) (fun _ _ => rfl)) (pE_bin (or_mul sx.K) (pE_var 4) (pE_bin (or_add sx.K) (pE_var 3) pE_int)))) (pE_var 5))
  pSs_nil)))
  (pSs_cons (pS_retH 2 (aw 2 (by decide)))
  pSs_nil)))) rfl rfl
theorem sc_46 : FnScope [("matter" : Str), ("bit" : Str)] [("matter" : Str)] (defScope (topS 54)) := ⟨rfl, rfl, rfl, by decide +kernel, rfl, by decide +kernel, by decide +kernel⟩
theorem ok_46 (fx : Fx P K mg) (A : Al P w K mg base n) {fd : FuncData} (Fd : L2.Fun K "_law_lists" "_law_lists" (topS 54) (He.ga K "_law_lists") fd) : FnOk P w K mg base (L2.CX P w) (n + 1) (He.ga K "_law_lists") fd [("matter" : Str)] (spF (G0 K w) (runF Tb WN (n + 1)) 46 none) :=
  fn_ok (F := runF Tb WN n) (wn := WN) (hot := []) Fd sc_46 d_46 (fun vs => rfl) rfl rfl rfl rfl (fun cdv A' outer s H E B sx hr aw hfr hB =>
  (pSs_cons (pS_ret (pE_ite (pT_val sx.K (pE_isi2 (m := 16) (n := 8) sx.K (by decide) (by decide) (by decide) rfl fx.b_isinstance rfl fx.b_list (boot_list') rfl fx.b_tuple (boot_tuple') (pE_var 0))) (pE_lc [(("bit" : Str), 1)] rfl sx.nd (pI_seq sx.K (pE_var 0)) (blkOk_by (by kernel_rfl)) (fun _ _ _ _ _ => (pG_name 1 (Sx.blk sx).nd rfl (by first | exact Or.inl rfl | exact Or.inr rfl))) (fun _ _ _ _ _ => pTs_nil) (fun _ _ _ _ _ => (pE_call (Sx.blk sx) hr A.k_46 rfl (pAs_cons (pE_var 1) pAs_nil)))) (pE_var 0)) (by first | (rw [hfr]; rfl) | (show (!B.fr || _) = true; rw [hfr]; rfl)))
  pSs_nil)) rfl rfl
theorem sc_47 : FnScope [("got" : Str), ("due" : Str), ("mine" : Str), ("its" : Str)] [("got" : Str), ("due" : Str)] (defScope (topS 55)) := ⟨rfl, rfl, rfl, by decide +kernel, rfl, by decide +kernel, by decide +kernel⟩
theorem ok_47 (fx : Fx P K mg) (A : Al P w K mg base n) {fd : FuncData} (Fd : L2.Fun K "_law_same" "_law_same" (topS 55) (He.ga K "_law_same") fd) : FnOk P w K mg base (L2.CX P w) (n + 1) (He.ga K "_law_same") fd [("got" : Str), ("due" : Str)] (spF (G0 K w) (runF Tb WN (n + 1)) 47 none) :=
  fn_ok (F := runF Tb WN n) (wn := WN) (hot := []) Fd sc_47 d_47 (fun vs => rfl) rfl rfl rfl rfl (fun cdv A' outer s H E B sx hr aw hfr hB =>
  (pSs_cons (pS_if (pT_val sx.K (pE_isi2 (m := 16) (n := 8) sx.K (by decide) (by decide) (by decide) rfl fx.b_isinstance rfl fx.b_list (boot_list') rfl fx.b_tuple (boot_tuple') (pE_var 1))) (pSs_cons (pS_if (PW.pt (pW_or (pT_cmp' (or_ne sx.K (Sx.u70 sx)) (pE_isi sx.K (by decide) rfl fx.b_isinstance rfl fx.b_list (boot_list') (pE_var 0)) (pE_isi sx.K (by decide) rfl fx.b_isinstance rfl fx.b_list (boot_list') (pE_var 1)) (by with_unfolding_all rfl)) (pW_or1 (pT_cmp' (or_ne sx.K (Sx.u70 sx)) (pE_isi sx.K (by decide) rfl fx.b_isinstance rfl fx.b_tuple (boot_tuple') (pE_var 0)) (pE_isi sx.K (by decide) rfl fx.b_isinstance rfl fx.b_tuple (boot_tuple') (pE_var 1)) (by with_unfolding_all rfl))))) (pSs_cons (pS_ret pE_bl (by first | (rw [hfr]; rfl) | (show (!B.fr || _) = true; rw [hfr]; rfl)))
  pSs_nil) pSs_nil)
  (pSs_cons (pS_ret (pE_and sx.K (pE_cmp (or_eq sx.K (Sx.u70 sx)) (pE_callB (cr_len sx.K sx.w) rfl fx.b_len (boot_len') (pAs_cons (pE_var 0) pAs_nil)) (pE_callB (cr_len sx.K sx.w) rfl fx.b_len (boot_len') (pAs_cons (pE_var 1) pAs_nil)) (by with_unfolding_all rfl)) (pE_one (pE_callB (cr_all' sx.K rfl) rfl fx.b_all (boot_all') (pAs_cons (pE_lc [(("mine" : Str), 2), (("its" : Str), 3)] rfl sx.nd (pI_zip sx.K rfl fx.b_zip (pE_var 0) (pE_var 1)) (blkOk_by (by kernel_rfl)) (fun _ _ _ _ _ => (pG_tup (Sx.blk sx).K rfl (pGs_cons (pG_name 2 (Sx.blk sx).nd rfl (by first | exact Or.inl rfl | exact Or.inr rfl)) (pGs_cons (pG_name 3 (Sx.blk sx).nd rfl (by first | exact Or.inl rfl | exact Or.inr rfl)) pGs_nil)))) (fun _ _ _ _ _ => pTs_nil) (fun _ _ _ _ _ => (pE_call (Sx.blk sx) hr A.k_47 rfl (pAs_cons (pE_var 2) (pAs_cons (pE_var 3) pAs_nil))))) pAs_nil)))) (by first | (rw [hfr]; rfl) | (show (!B.fr || _) = true; rw [hfr]; rfl)))
  pSs_nil)) pSs_nil)
  (pSs_cons (pS_if (PW.pt (pW_or (pT_isN (pE_var 1)) (pW_or1 (pT_val sx.K (pE_isi2 (m := 2) (n := 4) sx.K (by decide) (by decide) (by decide) rfl fx.b_isinstance rfl fx.b_bool (boot_bool') rfl fx.b_str (boot_str') (pE_var 1)))))) (pSs_cons (pS_ret (pE_and sx.K (pE_cmp (or_eq sx.K (Sx.u70 sx)) (pE_var 0) (pE_var 1) (by with_unfolding_all rfl)) (pE_and sx.K (pE_cmp (or_eq sx.K (Sx.u70 sx)) (pE_isi sx.K (by decide) rfl fx.b_isinstance rfl fx.b_bool (boot_bool') (pE_var 0)) (pE_isi sx.K (by decide) rfl fx.b_isinstance rfl fx.b_bool (boot_bool') (pE_var 1)) (by with_unfolding_all rfl)) (pE_one (pE_cmp (or_eq sx.K (Sx.u70 sx)) (pE_isN (pE_var 0)) (pE_isN (pE_var 1)) (by with_unfolding_all rfl))))) (by first | (rw [hfr]; rfl) | (show (!B.fr || _) = true; rw [hfr]; rfl)))
  pSs_nil) pSs_nil)
  (pSs_cons (pS_ret (pE_and sx.K (pE_isi sx.K (by decide) rfl fx.b_isinstance rfl fx.b_int (boot_int') (pE_var 0)) (pE_and sx.K (pE_un (ur_not sx.K) (pE_isi sx.K (by decide) rfl fx.b_isinstance rfl fx.b_bool (boot_bool') (pE_var 0))) (pE_one (pE_cmp (or_eq sx.K (Sx.u70 sx)) (pE_var 0) (pE_var 1) (by with_unfolding_all rfl))))) (by first | (rw [hfr]; rfl) | (show (!B.fr || _) = true; rw [hfr]; rfl)))
  pSs_nil)))) rfl rfl
theorem sc_48 : FnScope [("wide_so" : Str), ("high_so" : Str), ("found" : Str), ("x" : Str), ("y" : Str)] [("wide_so" : Str), ("high_so" : Str)] (defScope (topS 56)) := ⟨rfl, rfl, rfl, by decide +kernel, rfl, by decide +kernel, by decide +kernel⟩
theorem ok_48 (fx : Fx P K mg) (A : Al P w K mg base n) {fd : FuncData} (Fd : L2.Fun K "_law_oblong" "_law_oblong" (topS 56) (He.ga K "_law_oblong") fd) : FnOk P w K mg base (L2.CX P w) (n + 1) (He.ga K "_law_oblong") fd [("wide_so" : Str), ("high_so" : Str)] (spF (G0 K w) (runF Tb WN (n + 1)) 48 none) :=
  fn_ok (F := runF Tb WN n) (wn := WN) (hot := []) Fd sc_48 d_48 (fun vs => rfl) rfl rfl rfl rfl (fun cdv A' outer s H E B sx hr aw hfr hB =>
  (pSs_cons (pS_set 2 sx.nd rfl (by first | exact Or.inl rfl | exact Or.inr rfl) (pE_lst pAs_nil))
  (pSs_cons (pS_for (passes_of rfl) rfl (pI_range1 rfl fx.b_range (pE_var 0)) (pG_name 3 sx.nd rfl (by first | exact Or.inl rfl | exact Or.inr rfl)) (pSs_cons (pS_set 2 sx.nd rfl (by first | exact Or.inl rfl | exact Or.inr rfl) (pE_bin (or_add sx.K) (pE_var 2) (pE_lc [(("y" : Str), 4)] rfl sx.nd (pI_range1 rfl fx.b_range (pE_var 1)) (blkOk_by (by kernel_rfl)) (fun _ _ _ _ _ => (pG_name 4 (Sx.blk sx).nd rfl (by first | exact Or.inl rfl | exact Or.inr rfl))) (fun _ _ _ _ _ => pTs_nil) (fun _ _ _ _ _ => (pE_tup (pAs_cons (pE_var 3) (pAs_cons (pE_var 4) pAs_nil)))))))
  pSs_nil))
  (pSs_cons (pS_ret (pE_callTy (cr_tuple sx.K) rfl fx.b_tuple (boot_tuple') (pAs_cons (pE_var 2) pAs_nil)) (by first | (rw [hfr]; rfl) | (show (!B.fr || _) = true; rw [hfr]; rfl)))
  pSs_nil)))) rfl rfl
theorem sc_49 : FnScope [] [] (defScope (topS 57)) := ⟨rfl, rfl, rfl, by decide +kernel, rfl, by decide +kernel, by decide +kernel⟩
theorem ok_49 (fx : Fx P K mg) (A : Al P w K mg base n) {fd : FuncData} (Fd : L2.Fun K "_law_corner" "_law_corner" (topS 57) (He.ga K "_law_corner") fd) : FnOk P w K mg base (L2.CX P w) (n + 1) (He.ga K "_law_corner") fd [] (spF (G0 K w) (runF Tb WN (n + 1)) 49 none) :=
  fn_ok (F := runF Tb WN n) (wn := WN) (hot := []) Fd sc_49 d_49 (fun vs => rfl) rfl rfl rfl rfl (fun cdv A' outer s H E B sx hr aw hfr hB =>
  (pSs_cons (pS_ret (pE_tup (pAs_cons (pE_tup (pAs_cons pE_int (pAs_cons pE_int pAs_nil))) (pAs_cons (pE_tup (pAs_cons pE_int (pAs_cons pE_int pAs_nil))) (pAs_cons (pE_tup (pAs_cons pE_int (pAs_cons pE_int pAs_nil))) pAs_nil)))) (by first | (rw [hfr]; rfl) | (show (!B.fr || _) = true; rw [hfr]; rfl)))
  pSs_nil)) rfl rfl
theorem sc_50 : FnScope [] [] (defScope (topS 58)) := ⟨rfl, rfl, rfl, by decide +kernel, rfl, by decide +kernel, by decide +kernel⟩
theorem ok_50 (fx : Fx P K mg) (A : Al P w K mg base n) {fd : FuncData} (Fd : L2.Fun K "_law_cup" "_law_cup" (topS 58) (He.ga K "_law_cup") fd) : FnOk P w K mg base (L2.CX P w) (n + 1) (He.ga K "_law_cup") fd [] (spF (G0 K w) (runF Tb WN (n + 1)) 50 none) :=
  fn_ok (F := runF Tb WN n) (wn := WN) (hot := []) Fd sc_50 d_50 (fun vs => rfl) rfl rfl rfl rfl (fun cdv A' outer s H E B sx hr aw hfr hB =>
  (pSs_cons (pS_ret (pE_tup (pAs_cons (pE_tup (pAs_cons pE_int (pAs_cons pE_int pAs_nil))) (pAs_cons (pE_tup (pAs_cons pE_int (pAs_cons pE_int pAs_nil))) (pAs_cons (pE_tup (pAs_cons pE_int (pAs_cons pE_int pAs_nil))) (pAs_cons (pE_tup (pAs_cons pE_int (pAs_cons pE_int pAs_nil))) (pAs_cons (pE_tup (pAs_cons pE_int (pAs_cons pE_int pAs_nil))) (pAs_cons (pE_tup (pAs_cons pE_int (pAs_cons pE_int pAs_nil))) pAs_nil))))))) (by first | (rw [hfr]; rfl) | (show (!B.fr || _) = true; rw [hfr]; rfl)))
  pSs_nil)) rfl rfl
theorem sc_51 : FnScope [("door" : Str), ("one" : Str), ("two" : Str), ("ones_so" : Str), ("twos_so" : Str), ("error" : Str)] [("door" : Str), ("one" : Str), ("two" : Str)] (defScope (topS 59)) := ⟨rfl, rfl, rfl, by decide +kernel, rfl, by decide +kernel, by decide +kernel⟩
theorem ok_51 (fx : Fx P K mg) (A : Al P w K mg base n) {fd : FuncData} (Fd : L2.Fun K "_law_heard" "_law_heard" (topS 59) (He.ga K "_law_heard") fd) : FnOk P w K mg base (L2.CX P w) (n + 1) (He.ga K "_law_heard") fd [("door" : Str), ("one" : Str), ("two" : Str)] (spF (G0 K w) (runF Tb WN (n + 1)) 51 none) :=
  fn_ok (F := runF Tb WN n) (wn := WN) (hot := []) Fd sc_51 d_51 (fun vs => rfl) rfl rfl rfl rfl (fun cdv A' outer s H E B sx hr aw hfr hB =>
  (pSs_cons (pS_set 3 sx.nd rfl (by first | exact Or.inl rfl | exact Or.inr rfl) (pE_tup (pAs_cons (pE_fn (g := 18) rfl rfl fx.m_18) (pAs_cons (pE_fn (g := 23) rfl rfl fx.m_23) (pAs_cons (pE_fn (g := 33) rfl rfl fx.m_33) (pAs_cons (pE_fn (g := 34) rfl rfl fx.m_34) (pAs_cons (pE_fn (g := 36) rfl rfl fx.m_36) (pAs_cons (pE_fn (g := 37) rfl rfl fx.m_37) pAs_nil))))))))
  (pSs_cons (pS_set 3 sx.nd rfl (by first | exact Or.inl rfl | exact Or.inr rfl) (pE_bin (or_add sx.K) (pE_var 3) (pE_tup (pAs_cons (pE_fn (g := 39) rfl rfl fx.m_39) (pAs_cons (pE_fn (g := 40) rfl rfl fx.m_40) pAs_nil)))))
  (pSs_cons (pS_set 4 sx.nd rfl (by first | exact Or.inl rfl | exact Or.inr rfl) (pE_tup (pAs_cons (pE_fn (g := 17) rfl rfl fx.m_17) (pAs_cons (pE_fn (g := 20) rfl rfl fx.m_20) (pAs_cons (pE_fn (g := 21) rfl rfl fx.m_21) (pAs_cons (pE_fn (g := 22) rfl rfl fx.m_22) (pAs_cons (pE_fn (g := 32) rfl rfl fx.m_32) (pAs_cons (pE_fn (g := 42) rfl rfl fx.m_42) (pAs_cons (pE_fn (g := 35) rfl rfl fx.m_35) (pAs_cons (pE_fn (g := 38) rfl rfl fx.m_38) pAs_nil))))))))))
  (pSs_cons (pS_try sx rfl rfl hB fx.exm rfl (fun W' pn xe tk ps => (pSs_cons (pS_ret (pE_ite (pT_cmp' (or_lt (sx.tr tk).K (Sx.u70 (sx.tr tk))) (pE_var 0) pE_int (by with_unfolding_all rfl)) (pE_callv (gs := [17, 18, 20, 21, 22, 23, 32, 33, 34, 35, 36, 37, 38, 39, 40, 42]) (sx.tr tk) hr (kvs A) (pE_ix (ir_ix (sx.tr tk).K (sx.tr tk).w (Sx.u70 (sx.tr tk))) (pE_var 3) (pE_var 0) (fun _ _ => rfl)) (pAs_cons (pE_var 1) pAs_nil)) (pE_callv (gs := [17, 18, 20, 21, 22, 23, 32, 33, 34, 35, 36, 37, 38, 39, 40, 42]) (sx.tr tk) hr (kvs A) (pE_ix (ir_ix (sx.tr tk).K (sx.tr tk).w (Sx.u70 (sx.tr tk))) (pE_var 4) (pE_bin (or_sub) (pE_var 0) pE_int) (fun _ _ => rfl)) (pAs_cons (pE_var 1) (pAs_cons (pE_var 2) pAs_nil)))) (by first | (rw [hfr]; rfl) | (show (!B.fr || _) = true; rw [hfr]; rfl)))
  pSs_nil)) (clause ⟨rfl, by decide, .inl fx.ec_0.g⟩ rfl rfl (fun e oe cls dd pn hz hf => (pSs_cons (pS_ret (pE_lst (pAs_cons pE_str (pAs_cons (pE_fld fx.xf_0 rfl fx.no_0 hz hf) (pAs_cons (pE_isx hz hf fx.ki_0 rfl fx.b_isinstance rfl fx.b_LookupError (boot_LookupError')) pAs_nil)))) (by first | (rw [hfr]; rfl) | (show (!B.fr || _) = true; rw [hfr]; rfl)))
  pSs_nil)) (clause ⟨rfl, by decide, .inl fx.ec_8.g⟩ rfl rfl (fun e oe cls dd pn hz hf => (pSs_cons (pS_ret (pE_lst (pAs_cons pE_str (pAs_cons (pE_isx hz hf fx.ki_1 rfl fx.b_isinstance rfl fx.b_ValueError (boot_ValueError')) pAs_nil))) (by first | (rw [hfr]; rfl) | (show (!B.fr || _) = true; rw [hfr]; rfl)))
  pSs_nil)) .nil)))
  pSs_nil))))) rfl rfl
theorem sc_52 : FnScope [("got" : Str), ("due" : Str), ("cup" : Str), ("corner" : Str)] [] (defScope (topS 60)) := ⟨rfl, rfl, rfl, by decide +kernel, rfl, by decide +kernel, by decide +kernel⟩
theorem ok_52 (fx : Fx P K mg) (A : Al P w K mg base n) {fd : FuncData} (Fd : L2.Fun K "_law_always_right" "_law_always_right" (topS 60) (He.ga K "_law_always_right") fd) : FnOk P w K mg base (L2.CX P w) (n + 1) (He.ga K "_law_always_right") fd [] (spF (G0 K w) (runF Tb WN (n + 1)) 52 none) :=
  fn_ok (F := runF Tb WN n) (wn := WN) (hot := []) Fd sc_52 d_52 (fun vs => rfl) rfl rfl rfl rfl (fun cdv A' outer s H E B sx hr aw hfr hB =>
  (pSs_cons (by first | exact (pS_par (i := 2) (j := 3) rfl sx.nd rfl rfl (by decide) rfl rfl (.inl ⟨rfl, by decide, rfl⟩) (.inl ⟨rfl, by decide, rfl⟩) (pE_call0 sx hr A.k_50 rfl) (pE_call0 sx hr A.k_49 rfl) rfl) | exact (pS_parT (i := 2) (j := 3) rfl sx.nd rfl rfl (by decide) (by first | exact Or.inl rfl | exact Or.inr rfl) (by first | exact Or.inl rfl | exact Or.inr rfl) (.inl ⟨rfl, by decide, rfl⟩) (.inl ⟨rfl, by decide, rfl⟩) (pE_call0 sx hr A.k_50 rfl) (pE_call0 sx hr A.k_49 rfl) (by first | exact Or.inl rfl | exact Or.inr rfl) (by first | exact Or.inl rfl | exact Or.inr rfl)))
  (pSs_cons (pS_set 0 sx.nd rfl (by first | exact Or.inl rfl | exact Or.inr rfl) (pE_lst (pAs_cons (pE_call sx hr A.k_18 rfl (pAs_cons (pE_var 2) pAs_nil)) (pAs_cons (pE_call sx hr A.k_23 rfl (pAs_cons (pE_tup (pAs_cons (pE_tup (pAs_cons pE_int (pAs_cons pE_int pAs_nil))) pAs_nil)) pAs_nil)) (pAs_cons (pE_call sx hr A.k_17 rfl (pAs_cons (pE_var 2) (pAs_cons pE_int pAs_nil))) (pAs_cons (pE_call sx hr A.k_33 rfl (pAs_cons (pE_var 2) pAs_nil)) (pAs_cons (pE_call sx hr A.k_34 rfl (pAs_cons (pE_var 3) pAs_nil)) pAs_nil)))))))
  (pSs_cons (pS_set 0 sx.nd rfl (by first | exact Or.inl rfl | exact Or.inr rfl) (pE_bin (or_add sx.K) (pE_var 0) (pE_lst (pAs_cons (pE_call sx hr A.k_32 rfl (pAs_cons (pE_var 3) (pAs_cons (pE_tup (pAs_cons (pE_un ur_neg pE_int) (pAs_cons pE_int pAs_nil))) pAs_nil))) pAs_nil))))
  (pSs_cons (pS_set 1 sx.nd rfl (by first | exact Or.inl rfl | exact Or.inr rfl) (pE_lst (pAs_cons (pE_tup (pAs_cons pE_int (pAs_cons pE_int pAs_nil))) (pAs_cons (pE_tup (pAs_cons (pE_tup (pAs_cons (pE_un ur_neg pE_int) (pAs_cons pE_int pAs_nil))) (pAs_cons (pE_tup (pAs_cons pE_int (pAs_cons (pE_un ur_neg pE_int) pAs_nil))) (pAs_cons (pE_tup (pAs_cons pE_int (pAs_cons pE_int pAs_nil))) (pAs_cons (pE_tup (pAs_cons pE_int (pAs_cons pE_int pAs_nil))) pAs_nil))))) (pAs_cons (pE_tup (pAs_cons (pE_tup (pAs_cons pE_int (pAs_cons pE_int pAs_nil))) (pAs_cons (pE_tup (pAs_cons pE_int (pAs_cons pE_int pAs_nil))) pAs_nil))) pAs_nil)))))
  (pSs_cons (pS_set 1 sx.nd rfl (by first | exact Or.inl rfl | exact Or.inr rfl) (pE_bin (or_add sx.K) (pE_var 1) (pE_lst (pAs_cons (pE_tup (pAs_cons (pE_tup (pAs_cons pE_int (pAs_cons pE_int pAs_nil))) (pAs_cons (pE_tup (pAs_cons pE_int (pAs_cons pE_int pAs_nil))) (pAs_cons (pE_tup (pAs_cons pE_int (pAs_cons pE_int pAs_nil))) (pAs_cons (pE_tup (pAs_cons pE_int (pAs_cons pE_int pAs_nil))) (pAs_cons (pE_tup (pAs_cons pE_int (pAs_cons pE_int pAs_nil))) (pAs_cons (pE_tup (pAs_cons pE_int (pAs_cons pE_int pAs_nil))) pAs_nil))))))) pAs_nil))))
  (pSs_cons (pS_set 1 sx.nd rfl (by first | exact Or.inl rfl | exact Or.inr rfl) (pE_bin (or_add sx.K) (pE_var 1) (pE_lst (pAs_cons (pE_tup (pAs_cons (pE_tup (pAs_cons (pE_un ur_neg pE_int) (pAs_cons pE_int pAs_nil))) (pAs_cons (pE_tup (pAs_cons pE_int (pAs_cons (pE_un ur_neg pE_int) pAs_nil))) (pAs_cons (pE_tup (pAs_cons pE_int (pAs_cons pE_int pAs_nil))) pAs_nil)))) (pAs_cons (pE_tup (pAs_cons (pE_tup (pAs_cons (pE_un ur_neg pE_int) (pAs_cons pE_int pAs_nil))) (pAs_cons (pE_tup (pAs_cons (pE_un ur_neg pE_int) (pAs_cons pE_int pAs_nil))) (pAs_cons (pE_tup (pAs_cons pE_int (pAs_cons pE_int pAs_nil))) pAs_nil)))) pAs_nil)))))
  (pSs_cons (pS_set 0 sx.nd rfl (by first | exact Or.inl rfl | exact Or.inr rfl) (pE_bin (or_add sx.K) (pE_var 0) (pE_lst (pAs_cons (pE_call sx hr A.k_20 rfl (pAs_cons (pE_var 2) (pAs_cons (pE_tup (pAs_cons pE_int (pAs_cons pE_int pAs_nil))) pAs_nil))) (pAs_cons (pE_call sx hr A.k_21 rfl (pAs_cons (pE_var 3) (pAs_cons (pE_tup (pAs_cons (pE_un ur_neg pE_int) (pAs_cons pE_int pAs_nil))) pAs_nil))) (pAs_cons (pE_call sx hr A.k_22 rfl (pAs_cons (pE_var 2) (pAs_cons (pE_tup (pAs_cons pE_int (pAs_cons pE_int pAs_nil))) pAs_nil))) pAs_nil))))))
  (pSs_cons (pS_set 0 sx.nd rfl (by first | exact Or.inl rfl | exact Or.inr rfl) (pE_bin (or_add sx.K) (pE_var 0) (pE_lst (pAs_cons (pE_call sx hr A.k_51 rfl (pAs_cons pE_int (pAs_cons (pE_var 2) (pAs_cons (pE_tup (pAs_cons pE_int (pAs_cons pE_int pAs_nil))) pAs_nil)))) (pAs_cons (pE_call sx hr A.k_51 rfl (pAs_cons pE_int (pAs_cons (pE_var 2) (pAs_cons (pE_tup (pAs_cons pE_int (pAs_cons pE_int pAs_nil))) pAs_nil)))) pAs_nil)))))
  (pSs_cons (pS_set 1 sx.nd rfl (by first | exact Or.inl rfl | exact Or.inr rfl) (pE_bin (or_add sx.K) (pE_var 1) (pE_lst (pAs_cons pE_bl (pAs_cons (pE_bin (or_add sx.K) (pE_tup (pAs_cons (pE_tup (pAs_cons (pE_un ur_neg pE_int) (pAs_cons pE_int pAs_nil))) pAs_nil)) (pE_var 3)) (pAs_cons (pE_bin (or_add sx.K) (pE_slH sx.K (pE_var 2) pE_int) (pE_slL sx.K (pE_var 2) pE_int)) (pAs_cons (pE_lst (pAs_cons pE_str (pAs_cons pE_bl pAs_nil))) (pAs_cons (pE_lst (pAs_cons pE_str (pAs_cons pE_bl pAs_nil))) pAs_nil))))))))
  (pSs_cons (by first | exact (pS_par (i := 0) (j := 1) rfl sx.nd rfl rfl (by decide) rfl rfl (.inl ⟨rfl, by decide, rfl⟩) (.inl ⟨rfl, by decide, rfl⟩) (pE_bin (or_add sx.K) (pE_var 0) (pE_lst (pAs_cons (pE_call sx hr A.k_51 rfl (pAs_cons pE_int (pAs_cons (pE_var 2) (pAs_cons (pE_tup (pAs_cons pE_int (pAs_cons pE_int pAs_nil))) pAs_nil)))) pAs_nil))) (pE_bin (or_add sx.K) (pE_var 1) (pE_lst (pAs_cons (pE_lst (pAs_cons pE_str (pAs_cons (pE_tup (pAs_cons pE_int (pAs_cons pE_int pAs_nil))) (pAs_cons pE_bl pAs_nil)))) pAs_nil))) rfl) | exact (pS_parT (i := 0) (j := 1) rfl sx.nd rfl rfl (by decide) (by first | exact Or.inl rfl | exact Or.inr rfl) (by first | exact Or.inl rfl | exact Or.inr rfl) (.inl ⟨rfl, by decide, rfl⟩) (.inl ⟨rfl, by decide, rfl⟩) (pE_bin (or_add sx.K) (pE_var 0) (pE_lst (pAs_cons (pE_call sx hr A.k_51 rfl (pAs_cons pE_int (pAs_cons (pE_var 2) (pAs_cons (pE_tup (pAs_cons pE_int (pAs_cons pE_int pAs_nil))) pAs_nil)))) pAs_nil))) (pE_bin (or_add sx.K) (pE_var 1) (pE_lst (pAs_cons (pE_lst (pAs_cons pE_str (pAs_cons (pE_tup (pAs_cons pE_int (pAs_cons pE_int pAs_nil))) (pAs_cons pE_bl pAs_nil)))) pAs_nil))) (by first | exact Or.inl rfl | exact Or.inr rfl) (by first | exact Or.inl rfl | exact Or.inr rfl)))
  (pSs_cons (pS_set 0 sx.nd rfl (by first | exact Or.inl rfl | exact Or.inr rfl) (pE_bin (or_add sx.K) (pE_var 0) (pE_lst (pAs_cons (pE_call sx hr A.k_37 rfl (pAs_cons (pE_tup (pAs_cons (pE_tup (pAs_cons pE_int (pAs_cons pE_int pAs_nil))) (pAs_cons (pE_tup (pAs_cons pE_int (pAs_cons pE_int (pAs_cons pE_int pAs_nil)))) pAs_nil))) pAs_nil)) (pAs_cons (pE_call sx hr A.k_36 rfl (pAs_cons (pE_tup (pAs_cons (pE_tup (pAs_cons pE_int (pAs_cons pE_int pAs_nil))) (pAs_cons (pE_tup (pAs_cons pE_int (pAs_cons pE_int pAs_nil))) pAs_nil))) pAs_nil)) pAs_nil)))))
  (pSs_cons (pS_set 0 sx.nd rfl (by first | exact Or.inl rfl | exact Or.inr rfl) (pE_bin (or_add sx.K) (pE_var 0) (pE_lst (pAs_cons (pE_call sx hr A.k_42 rfl (pAs_cons (pE_var 2) (pAs_cons (pE_call sx hr A.k_33 rfl (pAs_cons (pE_var 2) pAs_nil)) pAs_nil))) (pAs_cons (pE_call sx hr A.k_42 rfl (pAs_cons (pE_var 2) (pAs_cons (pE_var 3) pAs_nil))) pAs_nil)))))
  (pSs_cons (pS_ret (pE_call sx hr A.k_47 rfl (pAs_cons (pE_var 0) (pAs_cons (pE_bin (or_add sx.K) (pE_var 1) (pE_lst (pAs_cons (pE_tup (pAs_cons (pE_tup (pAs_cons (pE_un ur_neg pE_int) (pAs_cons (pE_un ur_neg pE_int) pAs_nil))) (pAs_cons (pE_tup (pAs_cons pE_int (pAs_cons pE_int (pAs_cons pE_int pAs_nil)))) pAs_nil))) (pAs_cons (pE_tup (pAs_cons (pE_tup (pAs_cons pE_int (pAs_cons pE_int pAs_nil))) (pAs_cons (pE_tup (pAs_cons pE_int (pAs_cons pE_int pAs_nil))) pAs_nil))) (pAs_cons pE_bl (pAs_cons pE_bl pAs_nil)))))) pAs_nil))) (by first | (rw [hfr]; rfl) | (show (!B.fr || _) = true; rw [hfr]; rfl)))
  pSs_nil)))))))))))))) rfl rfl
theorem sc_53 : FnScope [("ring_so" : Str), ("got" : Str), ("own" : Str), ("due" : Str), ("beds_so" : Str), ("cup" : Str), ("corner" : Str), ("door" : Str)] [] (defScope (topS 61)) := ⟨rfl, rfl, rfl, by decide +kernel, rfl, by decide +kernel, by decide +kernel⟩
theorem ok_53 (fx : Fx P K mg) (A : Al P w K mg base n) {fd : FuncData} (Fd : L2.Fun K "_law_refused_right" "_law_refused_right" (topS 61) (He.ga K "_law_refused_right") fd) : FnOk P w K mg base (L2.CX P w) (n + 1) (He.ga K "_law_refused_right") fd [] (spF (G0 K w) (runF Tb WN (n + 1)) 53 none) :=
  fn_ok (F := runF Tb WN n) (wn := WN) (hot := []) Fd sc_53 d_53 (fun vs => rfl) rfl rfl rfl rfl (fun cdv A' outer s H E B sx hr aw hfr hB =>
  (pSs_cons (pS_set 0 sx.nd rfl (by first | exact Or.inl rfl | exact Or.inr rfl) (pE_callTy (cr_tuple sx.K) rfl fx.b_tuple (boot_tuple') (pAs_cons (pE_lc [(("own" : Str), 2)] rfl sx.nd (pI_seq sx.K (pE_call sx hr A.k_48 rfl (pAs_cons pE_int (pAs_cons pE_int pAs_nil)))) (blkOk_by (by kernel_rfl)) (fun _ _ _ _ _ => (pG_name 2 (Sx.blk sx).nd rfl (by first | exact Or.inl rfl | exact Or.inr rfl))) (fun _ _ _ _ _ => (pTs_one (pT_cmp' (or_ne (Sx.blk sx).K (Sx.u70 (Sx.blk sx))) (pE_var 2) (pE_tup (pAs_cons pE_int (pAs_cons pE_int pAs_nil))) (by with_unfolding_all rfl)))) (fun _ _ _ _ _ => (pE_var 2))) pAs_nil)))
  (pSs_cons (pS_tgt (pE_tup (pAs_cons (pE_call0 sx hr A.k_50 rfl) (pAs_cons (pE_call0 sx hr A.k_49 rfl) (pAs_cons (pE_lst pAs_nil) pAs_nil)))) (pG_tup sx.K rfl (pGs_cons (pG_name 5 sx.nd rfl (by first | exact Or.inl rfl | exact Or.inr rfl)) (pGs_cons (pG_name 6 sx.nd rfl (by first | exact Or.inl rfl | exact Or.inr rfl)) (pGs_cons (pG_name 3 sx.nd rfl (by first | exact Or.inl rfl | exact Or.inr rfl)) pGs_nil)))))
  (pSs_cons (pS_set 1 sx.nd rfl (by first | exact Or.inl rfl | exact Or.inr rfl) (pE_lst pAs_nil))
  (pSs_cons (pS_for (passes_of rfl) rfl (pI_seq sx.K (pE_tup (pAs_cons (pE_var 0) (pAs_cons (pE_tup (pAs_cons (pE_tup (pAs_cons pE_int (pAs_cons pE_int pAs_nil))) (pAs_cons (pE_tup (pAs_cons pE_int (pAs_cons pE_int pAs_nil))) pAs_nil))) (pAs_cons (pE_tup pAs_nil) (pAs_cons pE_non (pAs_cons pE_int (pAs_cons (pE_rev sx.K (pE_var 5)) (pAs_cons (pE_tup (pAs_cons (pE_tup (pAs_cons pE_int (pAs_cons pE_int pAs_nil))) (pAs_cons (pE_tup (pAs_cons pE_int (pAs_cons pE_bl pAs_nil))) pAs_nil))) pAs_nil))))))))) (pG_name 2 sx.nd rfl (by first | exact Or.inl rfl | exact Or.inr rfl)) (pSs_cons (pS_set 1 sx.nd rfl (by first | exact Or.inl rfl | exact Or.inr rfl) (pE_bin (or_add sx.K) (pE_var 1) (pE_lc [(("door" : Str), 7)] rfl sx.nd (pI_seq sx.K (pE_tup (pAs_cons pE_int (pAs_cons pE_int (pAs_cons pE_int (pAs_cons pE_int (pAs_cons pE_int (pAs_cons pE_int (pAs_cons pE_int (pAs_cons pE_int (pAs_cons pE_int pAs_nil))))))))))) (blkOk_by (by kernel_rfl)) (fun _ _ _ _ _ => (pG_name 7 (Sx.blk sx).nd rfl (by first | exact Or.inl rfl | exact Or.inr rfl))) (fun _ _ _ _ _ => pTs_nil) (fun _ _ _ _ _ => (pE_call (Sx.blk sx) hr A.k_51 rfl (pAs_cons (pE_var 7) (pAs_cons (pE_var 2) (pAs_cons (pE_tup (pAs_cons pE_int (pAs_cons pE_int pAs_nil))) pAs_nil))))))))
  (pSs_cons (pS_set 1 sx.nd rfl (by first | exact Or.inl rfl | exact Or.inr rfl) (pE_bin (or_add sx.K) (pE_var 1) (pE_lst (pAs_cons (pE_call sx hr A.k_51 rfl (pAs_cons pE_int (pAs_cons (pE_var 2) (pAs_cons (pE_var 5) pAs_nil)))) (pAs_cons (pE_call sx hr A.k_51 rfl (pAs_cons pE_int (pAs_cons (pE_var 5) (pAs_cons (pE_var 2) pAs_nil)))) pAs_nil)))))
  pSs_nil)))
  (pSs_cons (pS_set 3 sx.nd rfl (by first | exact Or.inl rfl | exact Or.inr rfl) (pE_bin (or_add sx.K) (pE_var 3) (pE_bin (or_mul sx.K) (pE_lst (pAs_cons (pE_lst (pAs_cons pE_str (pAs_cons pE_bl pAs_nil))) pAs_nil)) pE_int)))
  (pSs_cons (pS_for (passes_of rfl) rfl (pI_seq sx.K (pE_tup (pAs_cons (pE_tup (pAs_cons (pE_tup (pAs_cons pE_int (pAs_cons pE_int pAs_nil))) (pAs_cons (pE_tup (pAs_cons pE_int (pAs_cons pE_int pAs_nil))) pAs_nil))) (pAs_cons (pE_tup (pAs_cons (pE_tup (pAs_cons pE_int (pAs_cons pE_int pAs_nil))) pAs_nil)) (pAs_cons (pE_tup (pAs_cons pE_int (pAs_cons pE_int pAs_nil))) (pAs_cons pE_non (pAs_cons (pE_tup (pAs_cons (pE_tup (pAs_cons pE_int (pAs_cons pE_int pAs_nil))) (pAs_cons pE_int pAs_nil))) (pAs_cons (pE_tup (pAs_cons (pE_tup (pAs_cons pE_int (pAs_cons pE_bl pAs_nil))) (pAs_cons (pE_tup (pAs_cons pE_int pAs_nil)) pAs_nil))) (pAs_cons (pE_tup (pAs_cons (pE_tup (pAs_cons pE_int (pAs_cons pE_int pAs_nil))) (pAs_cons (pE_tup (pAs_cons pE_int (pAs_cons pE_bl pAs_nil))) pAs_nil))) pAs_nil))))))))) (pG_name 2 sx.nd rfl (by first | exact Or.inl rfl | exact Or.inr rfl)) (pSs_cons (pS_set 1 sx.nd rfl (by first | exact Or.inl rfl | exact Or.inr rfl) (pE_bin (or_add sx.K) (pE_var 1) (pE_lc [(("door" : Str), 7)] rfl sx.nd (pI_seq sx.K (pE_tup (pAs_cons pE_int (pAs_cons pE_int (pAs_cons pE_int pAs_nil))))) (blkOk_by (by kernel_rfl)) (fun _ _ _ _ _ => (pG_name 7 (Sx.blk sx).nd rfl (by first | exact Or.inl rfl | exact Or.inr rfl))) (fun _ _ _ _ _ => pTs_nil) (fun _ _ _ _ _ => (pE_call (Sx.blk sx) hr A.k_51 rfl (pAs_cons (pE_var 7) (pAs_cons (pE_var 2) (pAs_cons (pE_tup (pAs_cons pE_int (pAs_cons pE_int pAs_nil))) pAs_nil))))))))
  pSs_nil))
  (pSs_cons (pS_set 3 sx.nd rfl (by first | exact Or.inl rfl | exact Or.inr rfl) (pE_bin (or_add sx.K) (pE_var 3) (pE_bin (or_mul sx.K) (pE_lst (pAs_cons (pE_lst (pAs_cons pE_str (pAs_cons pE_bl pAs_nil))) pAs_nil)) pE_int)))
  (pSs_cons (pS_set 4 sx.nd rfl (by first | exact Or.inl rfl | exact Or.inr rfl) (pE_lst (pAs_cons (pE_tup (pAs_cons (pE_tup (pAs_cons (pE_tup (pAs_cons pE_int (pAs_cons pE_int pAs_nil))) (pAs_cons (pE_tup (pAs_cons pE_int pAs_nil)) pAs_nil))) (pAs_cons (pE_tup (pAs_cons (pE_tup (pAs_cons pE_int (pAs_cons pE_int pAs_nil))) (pAs_cons (pE_tup (pAs_cons pE_int pAs_nil)) pAs_nil))) pAs_nil))) (pAs_cons (pE_tup (pAs_cons (pE_tup (pAs_cons (pE_tup (pAs_cons pE_int (pAs_cons pE_int pAs_nil))) (pAs_cons (pE_tup pAs_nil) pAs_nil))) (pAs_cons (pE_tup (pAs_cons (pE_tup (pAs_cons pE_int (pAs_cons pE_int pAs_nil))) (pAs_cons (pE_tup (pAs_cons pE_int pAs_nil)) pAs_nil))) pAs_nil))) pAs_nil))))
  (pSs_cons (pS_set 4 sx.nd rfl (by first | exact Or.inl rfl | exact Or.inr rfl) (pE_bin (or_add sx.K) (pE_var 4) (pE_lst (pAs_cons (pE_tup (pAs_cons (pE_tup (pAs_cons (pE_tup (pAs_cons pE_int (pAs_cons pE_int pAs_nil))) (pAs_cons (pE_tup pAs_nil) pAs_nil))) (pAs_cons (pE_tup (pAs_cons (pE_tup (pAs_cons pE_int (pAs_cons pE_int pAs_nil))) (pAs_cons (pE_tup pAs_nil) pAs_nil))) pAs_nil))) (pAs_cons (pE_tup (pAs_cons (pE_tup (pAs_cons (pE_tup (pAs_cons pE_int (pAs_cons pE_int pAs_nil))) (pAs_cons (pE_tup pAs_nil) pAs_nil))) (pAs_cons (pE_tup (pAs_cons (pE_tup (pAs_cons pE_int (pAs_cons pE_int pAs_nil))) (pAs_cons (pE_tup pAs_nil) pAs_nil))) pAs_nil))) pAs_nil)))))
  (pSs_cons (pS_for (passes_of rfl) rfl (pI_seq sx.K (pE_bin (or_add sx.K) (pE_var 4) (pE_lst (pAs_cons (pE_tup pAs_nil) (pAs_cons pE_non (pAs_cons (pE_tup (pAs_cons (pE_tup (pAs_cons pE_int (pAs_cons pE_int pAs_nil))) (pAs_cons (pE_tup (pAs_cons pE_int pAs_nil)) pAs_nil))) pAs_nil)))))) (pG_name 2 sx.nd rfl (by first | exact Or.inl rfl | exact Or.inr rfl)) (pSs_cons (pS_set 1 sx.nd rfl (by first | exact Or.inl rfl | exact Or.inr rfl) (pE_bin (or_add sx.K) (pE_var 1) (pE_lc [(("door" : Str), 7)] rfl sx.nd (pI_seq sx.K (pE_tup (pAs_cons pE_int (pAs_cons pE_int (pAs_cons pE_int pAs_nil))))) (blkOk_by (by kernel_rfl)) (fun _ _ _ _ _ => (pG_name 7 (Sx.blk sx).nd rfl (by first | exact Or.inl rfl | exact Or.inr rfl))) (fun _ _ _ _ _ => pTs_nil) (fun _ _ _ _ _ => (pE_call (Sx.blk sx) hr A.k_51 rfl (pAs_cons (pE_var 7) (pAs_cons (pE_var 2) (pAs_cons (pE_tup (pAs_cons pE_int (pAs_cons pE_int pAs_nil))) pAs_nil))))))))
  pSs_nil))
  (pSs_cons (pS_set 3 sx.nd rfl (by first | exact Or.inl rfl | exact Or.inr rfl) (pE_bin (or_add sx.K) (pE_var 3) (pE_bin (or_mul sx.K) (pE_lst (pAs_cons (pE_lst (pAs_cons pE_str (pAs_cons pE_bl pAs_nil))) pAs_nil)) pE_int)))
  (pSs_cons (pS_set 1 sx.nd rfl (by first | exact Or.inl rfl | exact Or.inr rfl) (pE_bin (or_add sx.K) (pE_var 1) (pE_lc [(("own" : Str), 2)] rfl sx.nd (pI_seq sx.K (pE_tup (pAs_cons (pE_tup (pAs_cons pE_int (pAs_cons pE_int pAs_nil))) (pAs_cons (pE_tup (pAs_cons pE_int (pAs_cons pE_int pAs_nil))) (pAs_cons (pE_tup (pAs_cons pE_int (pAs_cons pE_int pAs_nil))) (pAs_cons (pE_tup (pAs_cons (pE_un ur_neg pE_int) (pAs_cons (pE_un ur_neg pE_int) pAs_nil))) pAs_nil)))))) (blkOk_by (by kernel_rfl)) (fun _ _ _ _ _ => (pG_name 2 (Sx.blk sx).nd rfl (by first | exact Or.inl rfl | exact Or.inr rfl))) (fun _ _ _ _ _ => pTs_nil) (fun _ _ _ _ _ => (pE_call (Sx.blk sx) hr A.k_51 rfl (pAs_cons pE_int (pAs_cons (pE_var 6) (pAs_cons (pE_var 2) pAs_nil))))))))
  (pSs_cons (pS_set 1 sx.nd rfl (by first | exact Or.inl rfl | exact Or.inr rfl) (pE_bin (or_add sx.K) (pE_var 1) (pE_lc [(("own" : Str), 2)] rfl sx.nd (pI_seq sx.K (pE_tup (pAs_cons (pE_tup (pAs_cons pE_int (pAs_cons pE_int pAs_nil))) (pAs_cons (pE_tup (pAs_cons pE_int (pAs_cons pE_int pAs_nil))) (pAs_cons (pE_tup (pAs_cons pE_int (pAs_cons pE_int pAs_nil))) pAs_nil))))) (blkOk_by (by kernel_rfl)) (fun _ _ _ _ _ => (pG_name 2 (Sx.blk sx).nd rfl (by first | exact Or.inl rfl | exact Or.inr rfl))) (fun _ _ _ _ _ => pTs_nil) (fun _ _ _ _ _ => (pE_call (Sx.blk sx) hr A.k_51 rfl (pAs_cons pE_int (pAs_cons (pE_var 6) (pAs_cons (pE_var 2) pAs_nil))))))))
  (pSs_cons (pS_set 3 sx.nd rfl (by first | exact Or.inl rfl | exact Or.inr rfl) (pE_bin (or_add sx.K) (pE_bin (or_add sx.K) (pE_var 3) (pE_bin (or_mul sx.K) (pE_lst (pAs_cons (pE_lst (pAs_cons pE_str (pAs_cons pE_bl pAs_nil))) pAs_nil)) pE_int)) (pE_lst (pAs_cons (pE_lst (pAs_cons pE_str (pAs_cons (pE_tup (pAs_cons pE_int (pAs_cons pE_int pAs_nil))) (pAs_cons pE_bl pAs_nil)))) (pAs_cons (pE_lst (pAs_cons pE_str (pAs_cons pE_bl pAs_nil))) (pAs_cons (pE_tup (pAs_cons (pE_tup (pAs_cons pE_int (pAs_cons pE_int pAs_nil))) (pAs_cons (pE_tup (pAs_cons pE_int (pAs_cons pE_int pAs_nil))) pAs_nil))) pAs_nil))))))
  (pSs_cons (pS_ret (pE_call sx hr A.k_47 rfl (pAs_cons (pE_var 1) (pAs_cons (pE_var 3) pAs_nil))) (by first | (rw [hfr]; rfl) | (show (!B.fr || _) = true; rw [hfr]; rfl)))
  pSs_nil)))))))))))))))) rfl rfl
theorem sc_54 : FnScope [("got" : Str), ("due" : Str), ("cup" : Str), ("bent_so" : Str), ("soft" : Str), ("mild" : Str)] [] (defScope (topS 62)) := ⟨rfl, rfl, rfl, by decide +kernel, rfl, by decide +kernel, by decide +kernel⟩
theorem ok_54 (fx : Fx P K mg) (A : Al P w K mg base n) {fd : FuncData} (Fd : L2.Fun K "_law_soft_right" "_law_soft_right" (topS 62) (He.ga K "_law_soft_right") fd) : FnOk P w K mg base (L2.CX P w) (n + 1) (He.ga K "_law_soft_right") fd [] (spF (G0 K w) (runF Tb WN (n + 1)) 54 none) :=
  fn_ok (F := runF Tb WN n) (wn := WN) (hot := []) Fd sc_54 d_54 (fun vs => rfl) rfl rfl rfl rfl (fun cdv A' outer s H E B sx hr aw hfr hB =>
  (pSs_cons (by first | exact (pS_par (i := 2) (j := 3) rfl sx.nd rfl rfl (by decide) rfl rfl (.inl ⟨rfl, by decide, rfl⟩) (.inl ⟨rfl, by decide, rfl⟩) (pE_call0 sx hr A.k_50 rfl) (pE_tup (pAs_cons (pE_tup (pAs_cons (pE_tup (pAs_cons pE_int (pAs_cons pE_int pAs_nil))) (pAs_cons (pE_tup (pAs_cons pE_int (pAs_cons pE_int pAs_nil))) pAs_nil))) (pAs_cons (pE_tup (pAs_cons (pE_tup (pAs_cons pE_int (pAs_cons pE_int pAs_nil))) (pAs_cons (pE_tup (pAs_cons pE_int (pAs_cons pE_int pAs_nil))) pAs_nil))) pAs_nil))) rfl) | exact (pS_parT (i := 2) (j := 3) rfl sx.nd rfl rfl (by decide) (by first | exact Or.inl rfl | exact Or.inr rfl) (by first | exact Or.inl rfl | exact Or.inr rfl) (.inl ⟨rfl, by decide, rfl⟩) (.inl ⟨rfl, by decide, rfl⟩) (pE_call0 sx hr A.k_50 rfl) (pE_tup (pAs_cons (pE_tup (pAs_cons (pE_tup (pAs_cons pE_int (pAs_cons pE_int pAs_nil))) (pAs_cons (pE_tup (pAs_cons pE_int (pAs_cons pE_int pAs_nil))) pAs_nil))) (pAs_cons (pE_tup (pAs_cons (pE_tup (pAs_cons pE_int (pAs_cons pE_int pAs_nil))) (pAs_cons (pE_tup (pAs_cons pE_int (pAs_cons pE_int pAs_nil))) pAs_nil))) pAs_nil))) (by first | exact Or.inl rfl | exact Or.inr rfl) (by first | exact Or.inl rfl | exact Or.inr rfl)))
  (pSs_cons (by first | exact (pS_par (i := 4) (j := 5) rfl sx.nd rfl rfl (by decide) rfl rfl (.inl ⟨rfl, by decide, rfl⟩) (.inl ⟨rfl, by decide, rfl⟩) (pE_call sx hr A.k_46 rfl (pAs_cons (pE_var 2) pAs_nil)) (pE_call sx hr A.k_46 rfl (pAs_cons (pE_var 3) pAs_nil)) rfl) | exact (pS_parT (i := 4) (j := 5) rfl sx.nd rfl rfl (by decide) (by first | exact Or.inl rfl | exact Or.inr rfl) (by first | exact Or.inl rfl | exact Or.inr rfl) (.inl ⟨rfl, by decide, rfl⟩) (.inl ⟨rfl, by decide, rfl⟩) (pE_call sx hr A.k_46 rfl (pAs_cons (pE_var 2) pAs_nil)) (pE_call sx hr A.k_46 rfl (pAs_cons (pE_var 3) pAs_nil)) (by first | exact Or.inl rfl | exact Or.inr rfl) (by first | exact Or.inl rfl | exact Or.inr rfl)))
  (pSs_cons (pS_set 0 sx.nd rfl (by first | exact Or.inl rfl | exact Or.inr rfl) (pE_lst (pAs_cons (pE_callK (n := 0) (ks := ["number", "floor"]) [1, 0] sx hr A.k_17 rfl (fun _ _ _ _ _ _ ws hl => match ws, hl with | [_, _], _ => rfl) rfl (pK_cons pE_int (pK_cons (pE_var 4) pK_nil))) (pAs_cons (pE_callK (n := 0) (ks := ["floor"]) [0] sx hr A.k_18 rfl (fun _ _ _ _ _ _ ws hl => match ws, hl with | [_], _ => rfl) rfl (pK_cons (pE_var 4) pK_nil)) (pAs_cons (pE_callK (n := 0) (ks := ["cell", "floor"]) [1, 0] sx hr A.k_20 rfl (fun _ _ _ _ _ _ ws hl => match ws, hl with | [_, _], _ => rfl) rfl (pK_cons (pE_lst (pAs_cons pE_int (pAs_cons pE_int pAs_nil))) (pK_cons (pE_var 4) pK_nil))) pAs_nil)))))
  (pSs_cons (pS_set 0 sx.nd rfl (by first | exact Or.inl rfl | exact Or.inr rfl) (pE_bin (or_add sx.K) (pE_var 0) (pE_lst (pAs_cons (pE_callK (n := 0) (ks := ["cell", "floor"]) [1, 0] sx hr A.k_22 rfl (fun _ _ _ _ _ _ ws hl => match ws, hl with | [_, _], _ => rfl) rfl (pK_cons (pE_lst (pAs_cons pE_int (pAs_cons pE_int pAs_nil))) (pK_cons (pE_var 4) pK_nil))) (pAs_cons (pE_call sx hr A.k_51 rfl (pAs_cons pE_int (pAs_cons (pE_var 4) (pAs_cons (pE_lst (pAs_cons pE_int (pAs_cons pE_int pAs_nil))) pAs_nil)))) pAs_nil)))))
  (pSs_cons (pS_set 1 sx.nd rfl (by first | exact Or.inl rfl | exact Or.inr rfl) (pE_lst (pAs_cons (pE_tup (pAs_cons (pE_tup (pAs_cons pE_int (pAs_cons pE_int pAs_nil))) (pAs_cons (pE_tup (pAs_cons pE_int (pAs_cons pE_int pAs_nil))) pAs_nil))) (pAs_cons (pE_tup (pAs_cons pE_int (pAs_cons pE_int pAs_nil))) (pAs_cons pE_bl (pAs_cons (pE_bin (or_add sx.K) (pE_slH sx.K (pE_var 2) pE_int) (pE_slL sx.K (pE_var 2) pE_int)) (pAs_cons (pE_lst (pAs_cons pE_str (pAs_cons (pE_tup (pAs_cons pE_int (pAs_cons pE_int pAs_nil))) (pAs_cons pE_bl pAs_nil)))) pAs_nil)))))))
  (pSs_cons (pS_set 0 sx.nd rfl (by first | exact Or.inl rfl | exact Or.inr rfl) (pE_bin (or_add sx.K) (pE_var 0) (pE_lst (pAs_cons (pE_callK (n := 0) (ks := ["cell", "floor"]) [1, 0] sx hr A.k_21 rfl (fun _ _ _ _ _ _ ws hl => match ws, hl with | [_, _], _ => rfl) rfl (pK_cons (pE_lst (pAs_cons pE_int (pAs_cons pE_int pAs_nil))) (pK_cons (pE_var 4) pK_nil))) (pAs_cons (pE_callB (cr_len sx.K sx.w) rfl fx.b_len (boot_len') (pAs_cons (pE_callK (n := 0) (ks := ["floor"]) [0] sx hr A.k_23 rfl (fun _ _ _ _ _ _ ws hl => match ws, hl with | [_], _ => rfl) rfl (pK_cons (pE_var 4) pK_nil)) pAs_nil)) (pAs_cons (pE_callK (n := 0) (ks := ["thing"]) [0] sx hr A.k_14 rfl (fun _ _ _ _ _ _ ws hl => match ws, hl with | [_], _ => rfl) rfl (pK_cons (pE_var 2) pK_nil)) (pAs_cons (pE_call sx hr A.k_14 rfl (pAs_cons (pE_var 4) pAs_nil)) pAs_nil)))))))
  (pSs_cons (pS_set 0 sx.nd rfl (by first | exact Or.inl rfl | exact Or.inr rfl) (pE_bin (or_add sx.K) (pE_var 0) (pE_lst (pAs_cons (pE_ix (ir_ix sx.K sx.w (Sx.u70 sx)) (pE_callK (n := 0) (ks := ["floor"]) [0] sx hr A.k_33 rfl (fun _ _ _ _ _ _ ws hl => match ws, hl with | [_], _ => rfl) rfl (pK_cons (pE_var 4) pK_nil)) pE_int (fun _ _ => rfl)) pAs_nil))))
  (pSs_cons (pS_set 1 sx.nd rfl (by first | exact Or.inl rfl | exact Or.inr rfl) (pE_bin (or_add sx.K) (pE_var 1) (pE_lst (pAs_cons (pE_bin (or_add sx.K) (pE_bin (or_add sx.K) (pE_slH sx.K (pE_var 2) pE_int) (pE_tup (pAs_cons (pE_tup (pAs_cons pE_int (pAs_cons pE_int pAs_nil))) pAs_nil))) (pE_slL sx.K (pE_var 2) pE_int)) (pAs_cons pE_int (pAs_cons pE_bl (pAs_cons pE_bl (pAs_cons (pE_tup (pAs_cons pE_int (pAs_cons pE_int pAs_nil))) pAs_nil))))))))
  (pSs_cons (pS_set 0 sx.nd rfl (by first | exact Or.inl rfl | exact Or.inr rfl) (pE_bin (or_add sx.K) (pE_var 0) (pE_lst (pAs_cons (pE_ix (ir_ix sx.K sx.w (Sx.u70 sx)) (pE_callK (n := 0) (ks := ["floor"]) [0] sx hr A.k_34 rfl (fun _ _ _ _ _ _ ws hl => match ws, hl with | [_], _ => rfl) rfl (pK_cons (pE_var 4) pK_nil)) pE_int (fun _ _ => rfl)) (pAs_cons (pE_ix (ir_ix sx.K sx.w (Sx.u70 sx)) (pE_callK (n := 0) (ks := ["by", "floor"]) [1, 0] sx hr A.k_32 rfl (fun _ _ _ _ _ _ ws hl => match ws, hl with | [_, _], _ => rfl) rfl (pK_cons (pE_lst (pAs_cons pE_int (pAs_cons pE_int pAs_nil))) (pK_cons (pE_var 4) pK_nil))) pE_int (fun _ _ => rfl)) (pAs_cons (pE_callK (n := 0) (ks := ["other", "floor"]) [1, 0] sx hr A.k_42 rfl (fun _ _ _ _ _ _ ws hl => match ws, hl with | [_, _], _ => rfl) rfl (pK_cons (pE_var 4) (pK_cons (pE_var 2) pK_nil))) pAs_nil))))))
  (pSs_cons (pS_set 1 sx.nd rfl (by first | exact Or.inl rfl | exact Or.inr rfl) (pE_bin (or_add sx.K) (pE_var 1) (pE_lst (pAs_cons (pE_tup (pAs_cons (pE_un ur_neg pE_int) (pAs_cons (pE_un ur_neg pE_int) pAs_nil))) (pAs_cons (pE_tup (pAs_cons pE_int (pAs_cons pE_int pAs_nil))) (pAs_cons pE_bl pAs_nil))))))
  (pSs_cons (pS_set 0 sx.nd rfl (by first | exact Or.inl rfl | exact Or.inr rfl) (pE_bin (or_add sx.K) (pE_var 0) (pE_lst (pAs_cons (pE_callK (n := 0) (ks := ["by", "stair"]) [1, 0] sx hr A.k_35 rfl (fun _ _ _ _ _ _ ws hl => match ws, hl with | [_, _], _ => rfl) rfl (pK_cons (pE_lst (pAs_cons pE_int (pAs_cons pE_int pAs_nil))) (pK_cons (pE_ix (ir_ix sx.K sx.w (Sx.u70 sx)) (pE_var 5) pE_int (fun _ _ => rfl)) pK_nil))) (pAs_cons (pE_callK (n := 0) (ks := ["stair"]) [0] sx hr A.k_36 rfl (fun _ _ _ _ _ _ ws hl => match ws, hl with | [_], _ => rfl) rfl (pK_cons (pE_ix (ir_ix sx.K sx.w (Sx.u70 sx)) (pE_var 5) pE_int (fun _ _ => rfl)) pK_nil)) pAs_nil)))))
  (pSs_cons (pS_set 0 sx.nd rfl (by first | exact Or.inl rfl | exact Or.inr rfl) (pE_bin (or_add sx.K) (pE_var 0) (pE_lst (pAs_cons (pE_callK (n := 0) (ks := ["stair"]) [0] sx hr A.k_37 rfl (fun _ _ _ _ _ _ ws hl => match ws, hl with | [_], _ => rfl) rfl (pK_cons (pE_ix (ir_ix sx.K sx.w (Sx.u70 sx)) (pE_var 5) pE_int (fun _ _ => rfl)) pK_nil)) pAs_nil))))
  (pSs_cons (pS_set 1 sx.nd rfl (by first | exact Or.inl rfl | exact Or.inr rfl) (pE_bin (or_add sx.K) (pE_var 1) (pE_lst (pAs_cons (pE_tup (pAs_cons (pE_tup (pAs_cons pE_int (pAs_cons pE_int pAs_nil))) (pAs_cons (pE_tup (pAs_cons pE_int (pAs_cons pE_int pAs_nil))) pAs_nil))) (pAs_cons (pE_tup (pAs_cons (pE_tup (pAs_cons pE_int (pAs_cons pE_int pAs_nil))) (pAs_cons (pE_tup (pAs_cons pE_int (pAs_cons pE_int pAs_nil))) pAs_nil))) (pAs_cons (pE_tup (pAs_cons (pE_tup (pAs_cons (pE_un ur_neg pE_int) (pAs_cons (pE_un ur_neg pE_int) pAs_nil))) (pAs_cons (pE_tup (pAs_cons pE_int (pAs_cons pE_int pAs_nil))) pAs_nil))) pAs_nil))))))
  (pSs_cons (pS_set 0 sx.nd rfl (by first | exact Or.inl rfl | exact Or.inr rfl) (pE_bin (or_add sx.K) (pE_var 0) (pE_lst (pAs_cons (pE_callK (n := 0) (ks := ["by", "laying"]) [1, 0] sx hr A.k_38 rfl (fun _ _ _ _ _ _ ws hl => match ws, hl with | [_, _], _ => rfl) rfl (pK_cons (pE_lst (pAs_cons pE_int (pAs_cons pE_int pAs_nil))) (pK_cons (pE_var 5) pK_nil))) (pAs_cons (pE_callK (n := 0) (ks := ["laying"]) [0] sx hr A.k_39 rfl (fun _ _ _ _ _ _ ws hl => match ws, hl with | [_], _ => rfl) rfl (pK_cons (pE_var 5) pK_nil)) pAs_nil)))))
  (pSs_cons (pS_set 0 sx.nd rfl (by first | exact Or.inl rfl | exact Or.inr rfl) (pE_bin (or_add sx.K) (pE_var 0) (pE_lst (pAs_cons (pE_callK (n := 0) (ks := ["laying"]) [0] sx hr A.k_40 rfl (fun _ _ _ _ _ _ ws hl => match ws, hl with | [_], _ => rfl) rfl (pK_cons (pE_var 5) pK_nil)) (pAs_cons (pE_var 4) (pAs_cons (pE_var 5) pAs_nil))))))
  (pSs_cons (pS_set 1 sx.nd rfl (by first | exact Or.inl rfl | exact Or.inr rfl) (pE_bin (or_add sx.K) (pE_var 1) (pE_lst (pAs_cons (pE_var 3) (pAs_cons (pE_tup (pAs_cons (pE_tup (pAs_cons (pE_tup (pAs_cons pE_int (pAs_cons pE_int pAs_nil))) (pAs_cons (pE_tup (pAs_cons pE_int (pAs_cons pE_int pAs_nil))) pAs_nil))) (pAs_cons (pE_tup (pAs_cons (pE_tup (pAs_cons pE_int (pAs_cons pE_int pAs_nil))) (pAs_cons (pE_tup (pAs_cons pE_int (pAs_cons pE_int pAs_nil))) pAs_nil))) pAs_nil))) (pAs_cons (pE_tup (pAs_cons (pE_tup (pAs_cons (pE_tup (pAs_cons (pE_un ur_neg pE_int) (pAs_cons (pE_un ur_neg pE_int) pAs_nil))) (pAs_cons (pE_tup (pAs_cons pE_int (pAs_cons pE_int pAs_nil))) pAs_nil))) (pAs_cons (pE_tup (pAs_cons (pE_tup (pAs_cons (pE_un ur_neg pE_int) (pAs_cons (pE_un ur_neg pE_int) pAs_nil))) (pAs_cons (pE_tup (pAs_cons pE_int (pAs_cons pE_int pAs_nil))) pAs_nil))) pAs_nil))) pAs_nil))))))
  (pSs_cons (pS_ret (pE_call sx hr A.k_47 rfl (pAs_cons (pE_var 0) (pAs_cons (pE_bin (or_add sx.K) (pE_var 1) (pE_lst (pAs_cons (pE_call sx hr A.k_46 rfl (pAs_cons (pE_var 2) pAs_nil)) (pAs_cons (pE_call sx hr A.k_46 rfl (pAs_cons (pE_var 3) pAs_nil)) pAs_nil)))) pAs_nil))) (by first | (rw [hfr]; rfl) | (show (!B.fr || _) = true; rw [hfr]; rfl)))
  pSs_nil)))))))))))))))))) rfl rfl
theorem sc_55 : FnScope [("script" : Str)] [("script" : Str)] (defScope (topS 63)) := ⟨rfl, rfl, rfl, by decide +kernel, rfl, by decide +kernel, by decide +kernel⟩
theorem ok_55 (fx : Fx P K mg) (A : Al P w K mg base n) {fd : FuncData} (Fd : L2.Fun K "law" "law" (topS 63) (He.ga K "law") fd) : FnOk P w K mg base (L2.CX P w) (n + 1) (He.ga K "law") fd [("script" : Str)] (spF (G0 K w) (runF Tb WN (n + 1)) 55 none) :=
  fn_ok (F := runF Tb WN n) (wn := WN) (hot := []) Fd sc_55 d_55 (fun vs => rfl) rfl rfl rfl rfl (fun cdv A' outer s H E B sx hr aw hfr hB =>
  (pSs_cons (pS_if (pT_not (pT_val sx.K (pE_call0 sx hr A.k_52 rfl))) (pSs_cons (pS_ret pE_bl (by first | (rw [hfr]; rfl) | (show (!B.fr || _) = true; rw [hfr]; rfl)))
  pSs_nil) pSs_nil)
  (pSs_cons (pS_ret (pE_ite (pT_cmp' (or_eq sx.K (Sx.u70 sx)) (pE_callt sx hr A.k_44 rfl (pE_call sx hr A.k_43 rfl (pAs_cons (pE_call sx hr A.k_45 rfl (pAs_cons (pE_var 0) (pAs_cons pE_int pAs_nil))) (pAs_cons pE_int pAs_nil))) (pAs_cons pE_int pAs_nil) rfl) pE_int (by with_unfolding_all rfl)) (pE_call0 sx hr A.k_53 rfl) (pE_call0 sx hr A.k_54 rfl)) (by first | (rw [hfr]; rfl) | (show (!B.fr || _) = true; rw [hfr]; rfl)))
  pSs_nil))) rfl rfl
structure Dd (K : PySem.W.Frag) (mg : Str → Option Value) : Prop where
  f_0 : Df1 K mg "is_number" (topS 4) [("thing" : Str)]
  f_1 : Df1 K mg "is_within" (topS 5) [("thing" : Str), ("least" : Str), ("most" : Str)]
  f_2 : Df1 K mg "is_long" (topS 6) [("thing" : Str), ("length" : Str)]
  f_3 : Df1 K mg "tupled" (topS 7) [("value" : Str)]
  f_4 : Df1 K mg "ascends" (topS 8) [("row" : Str)]
  f_5 : Df1 K mg "set_of" (topS 9) [("row" : Str)]
  f_6 : Df1 K mg "minus" (topS 10) [("one" : Str), ("other" : Str)]
  f_7 : Df1 K mg "is_pair" (topS 11) [("thing" : Str)]
  f_8 : Df1 K mg "diagonal_of" (topS 12) [("cell" : Str)]
  f_9 : Df1 K mg "spot_of" (topS 13) [("cell" : Str)]
  f_10 : Df1 K mg "beside" (topS 14) [("cell" : Str)]
  f_11 : Df1 K mg "hang_together" (topS 16) [("cells" : Str)]
  f_12 : Df1 K mg "shut_nothing_in" (topS 17) [("cells" : Str)]
  f_13 : Df1 K mg "are_floor" (topS 18) [("cells" : Str)]
  f_14 : Df1 K mg "is_floor" (topS 19) [("thing" : Str)]
  f_15 : Df1 K mg "sure_floor" (topS 20) [("floor" : Str)]
  f_16 : Df1 K mg "cells_on" (topS 21) [("cells" : Str), ("number" : Str)]
  f_17 : Df1 K mg "diagonal" (topS 22) [("floor" : Str), ("number" : Str)]
  f_18 : Df1 K mg "span" (topS 23) [("floor" : Str)]
  f_19 : Df1 K mg "with_cell" (topS 24) [("cells" : Str), ("cell" : Str)]
  f_20 : Df1 K mg "can_grow" (topS 25) [("floor" : Str), ("cell" : Str)]
  f_21 : Df1 K mg "grown" (topS 26) [("floor" : Str), ("cell" : Str)]
  f_22 : Df1 K mg "shrunk" (topS 27) [("floor" : Str), ("cell" : Str)]
  f_23 : Df1 K mg "borders" (topS 28) [("floor" : Str)]
  f_24 : Df1 K mg "is_stair" (topS 30) [("thing" : Str)]
  f_25 : Df1 K mg "sure_stair" (topS 31) [("stair" : Str)]
  f_26 : Df1 K mg "cells_by" (topS 32) [("stair" : Str)]
  f_27 : Df1 K mg "cells_of" (topS 33) [("stair" : Str)]
  f_28 : Df1 K mg "all_cells" (topS 34) [("stairs" : Str)]
  f_29 : Df1 K mg "are_stairs" (topS 35) [("thing" : Str), ("size" : Str)]
  f_30 : Df1 K mg "sure_laying" (topS 36) [("laying" : Str)]
  f_31 : Df1 K mg "moved" (topS 38) [("cell" : Str), ("by" : Str)]
  f_32 : Df1 K mg "shifted" (topS 39) [("floor" : Str), ("by" : Str)]
  f_33 : Df1 K mg "mirrored" (topS 40) [("floor" : Str)]
  f_34 : Df1 K mg "half_turned" (topS 41) [("floor" : Str)]
  f_35 : Df1 K mg "stair_shifted" (topS 42) [("stair" : Str), ("by" : Str)]
  f_36 : Df1 K mg "stair_mirrored" (topS 43) [("stair" : Str)]
  f_37 : Df1 K mg "stair_half_turned" (topS 44) [("stair" : Str)]
  f_38 : Df1 K mg "laying_shifted" (topS 45) [("laying" : Str), ("by" : Str)]
  f_39 : Df1 K mg "laying_mirrored" (topS 46) [("laying" : Str)]
  f_40 : Df1 K mg "laying_half_turned" (topS 47) [("laying" : Str)]
  f_41 : Df1 K mg "least_form" (topS 48) [("floor" : Str)]
  f_42 : Df1 K mg "alike" (topS 49) [("floor" : Str), ("other" : Str)]
  f_43 : Df1 K mg "_law_box" (topS 51) [("script" : Str), ("k" : Str)]
  f_44 : Df1 K mg "_law_take" (topS 52) [("tin" : Str), ("below_so" : Str)]
  f_45 : Df1 K mg "_law_cells" (topS 53) [("script" : Str), ("most_so" : Str)]
  f_46 : Df1 K mg "_law_lists" (topS 54) [("matter" : Str)]
  f_47 : Df1 K mg "_law_same" (topS 55) [("got" : Str), ("due" : Str)]
  f_48 : Df1 K mg "_law_oblong" (topS 56) [("wide_so" : Str), ("high_so" : Str)]
  f_49 : Df1 K mg "_law_corner" (topS 57) []
  f_50 : Df1 K mg "_law_cup" (topS 58) []
  f_51 : Df1 K mg "_law_heard" (topS 59) [("door" : Str), ("one" : Str), ("two" : Str)]
  f_52 : Df1 K mg "_law_always_right" (topS 60) []
  f_53 : Df1 K mg "_law_refused_right" (topS 61) []
  f_54 : Df1 K mg "_law_soft_right" (topS 62) []
  f_55 : Df1 K mg "law" (topS 63) [("script" : Str)]
theorem al (fx : Fx P K mg) (dd : Dd K mg) : ∀ n : Nat, Al P w K mg base n
  | 0 => ⟨kn_of dd.f_0 rfl fun _ => ok_none, kn_of dd.f_1 rfl fun _ => ok_none, kn_of dd.f_2 rfl fun _ => ok_none, kn_of dd.f_3 rfl fun _ => ok_none, kn_of dd.f_4 rfl fun _ => ok_none, kn_of dd.f_5 rfl fun _ => ok_none, kn_of dd.f_6 rfl fun _ => ok_none, kn_of dd.f_7 rfl fun _ => ok_none, kn_of dd.f_8 rfl fun _ => ok_none, kn_of dd.f_9 rfl fun _ => ok_none, kn_of dd.f_10 rfl fun _ => ok_none, kn_of dd.f_11 rfl fun _ => ok_none, kn_of dd.f_12 rfl fun _ => ok_none, kn_of dd.f_13 rfl fun _ => ok_none, kn_of dd.f_14 rfl fun _ => ok_none, kn_of dd.f_15 rfl fun _ => ok_none, kn_of dd.f_16 rfl fun _ => ok_none, kn_of dd.f_17 rfl fun _ => ok_none, kn_of dd.f_18 rfl fun _ => ok_none, kn_of dd.f_19 rfl fun _ => ok_none, kn_of dd.f_20 rfl fun _ => ok_none, kn_of dd.f_21 rfl fun _ => ok_none, kn_of dd.f_22 rfl fun _ => ok_none, kn_of dd.f_23 rfl fun _ => ok_none, kn_of dd.f_24 rfl fun _ => ok_none, kn_of dd.f_25 rfl fun _ => ok_none, kn_of dd.f_26 rfl fun _ => ok_none, kn_of dd.f_27 rfl fun _ => ok_none, kn_of dd.f_28 rfl fun _ => ok_none, kn_of dd.f_29 rfl fun _ => ok_none, kn_of dd.f_30 rfl fun _ => ok_none, kn_of dd.f_31 rfl fun _ => ok_none, kn_of dd.f_32 rfl fun _ => ok_none, kn_of dd.f_33 rfl fun _ => ok_none, kn_of dd.f_34 rfl fun _ => ok_none, kn_of dd.f_35 rfl fun _ => ok_none, kn_of dd.f_36 rfl fun _ => ok_none, kn_of dd.f_37 rfl fun _ => ok_none, kn_of dd.f_38 rfl fun _ => ok_none, kn_of dd.f_39 rfl fun _ => ok_none, kn_of dd.f_40 rfl fun _ => ok_none, kn_of dd.f_41 rfl fun _ => ok_none, kn_of dd.f_42 rfl fun _ => ok_none, kn_of dd.f_43 rfl fun _ => ok_none, kn_of dd.f_44 rfl fun _ => ok_none, kn_of dd.f_45 rfl fun _ => ok_none, kn_of dd.f_46 rfl fun _ => ok_none, kn_of dd.f_47 rfl fun _ => ok_none, kn_of dd.f_48 rfl fun _ => ok_none, kn_of dd.f_49 rfl fun _ => ok_none, kn_of dd.f_50 rfl fun _ => ok_none, kn_of dd.f_51 rfl fun _ => ok_none, kn_of dd.f_52 rfl fun _ => ok_none, kn_of dd.f_53 rfl fun _ => ok_none, kn_of dd.f_54 rfl fun _ => ok_none, kn_of dd.f_55 rfl fun _ => ok_none⟩
  | n + 1 => ⟨kn_of dd.f_0 rfl fun h => ok_0 fx (al fx dd n) h, kn_of dd.f_1 rfl fun h => ok_1 fx (al fx dd n) h, kn_of dd.f_2 rfl fun h => ok_2 fx (al fx dd n) h, kn_of dd.f_3 rfl fun h => ok_3 fx (al fx dd n) h, kn_of dd.f_4 rfl fun h => ok_4 fx (al fx dd n) h, kn_of dd.f_5 rfl fun h => ok_5 fx (al fx dd n) h, kn_of dd.f_6 rfl fun h => ok_6 fx (al fx dd n) h, kn_of dd.f_7 rfl fun h => ok_7 fx (al fx dd n) h, kn_of dd.f_8 rfl fun h => ok_8 fx (al fx dd n) h, kn_of dd.f_9 rfl fun h => ok_9 fx (al fx dd n) h, kn_of dd.f_10 rfl fun h => ok_10 fx (al fx dd n) h, kn_of dd.f_11 rfl fun h => ok_11 fx (al fx dd n) h, kn_of dd.f_12 rfl fun h => ok_12 fx (al fx dd n) h, kn_of dd.f_13 rfl fun h => ok_13 fx (al fx dd n) h, kn_of dd.f_14 rfl fun h => ok_14 fx (al fx dd n) h, kn_of dd.f_15 rfl fun h => ok_15 fx (al fx dd n) h, kn_of dd.f_16 rfl fun h => ok_16 fx (al fx dd n) h, kn_of dd.f_17 rfl fun h => ok_17 fx (al fx dd n) h, kn_of dd.f_18 rfl fun h => ok_18 fx (al fx dd n) h, kn_of dd.f_19 rfl fun h => ok_19 fx (al fx dd n) h, kn_of dd.f_20 rfl fun h => ok_20 fx (al fx dd n) h, kn_of dd.f_21 rfl fun h => ok_21 fx (al fx dd n) h, kn_of dd.f_22 rfl fun h => ok_22 fx (al fx dd n) h, kn_of dd.f_23 rfl fun h => ok_23 fx (al fx dd n) h, kn_of dd.f_24 rfl fun h => ok_24 fx (al fx dd n) h, kn_of dd.f_25 rfl fun h => ok_25 fx (al fx dd n) h, kn_of dd.f_26 rfl fun h => ok_26 fx (al fx dd n) h, kn_of dd.f_27 rfl fun h => ok_27 fx (al fx dd n) h, kn_of dd.f_28 rfl fun h => ok_28 fx (al fx dd n) h, kn_of dd.f_29 rfl fun h => ok_29 fx (al fx dd n) h, kn_of dd.f_30 rfl fun h => ok_30 fx (al fx dd n) h, kn_of dd.f_31 rfl fun h => ok_31 fx (al fx dd n) h, kn_of dd.f_32 rfl fun h => ok_32 fx (al fx dd n) h, kn_of dd.f_33 rfl fun h => ok_33 fx (al fx dd n) h, kn_of dd.f_34 rfl fun h => ok_34 fx (al fx dd n) h, kn_of dd.f_35 rfl fun h => ok_35 fx (al fx dd n) h, kn_of dd.f_36 rfl fun h => ok_36 fx (al fx dd n) h, kn_of dd.f_37 rfl fun h => ok_37 fx (al fx dd n) h, kn_of dd.f_38 rfl fun h => ok_38 fx (al fx dd n) h, kn_of dd.f_39 rfl fun h => ok_39 fx (al fx dd n) h, kn_of dd.f_40 rfl fun h => ok_40 fx (al fx dd n) h, kn_of dd.f_41 rfl fun h => ok_41 fx (al fx dd n) h, kn_of dd.f_42 rfl fun h => ok_42 fx (al fx dd n) h, kn_of dd.f_43 rfl fun h => ok_43 fx (al fx dd n) h, kn_of dd.f_44 rfl fun h => ok_44 fx (al fx dd n) h, kn_of dd.f_45 rfl fun h => ok_45 fx (al fx dd n) h, kn_of dd.f_46 rfl fun h => ok_46 fx (al fx dd n) h, kn_of dd.f_47 rfl fun h => ok_47 fx (al fx dd n) h, kn_of dd.f_48 rfl fun h => ok_48 fx (al fx dd n) h, kn_of dd.f_49 rfl fun h => ok_49 fx (al fx dd n) h, kn_of dd.f_50 rfl fun h => ok_50 fx (al fx dd n) h, kn_of dd.f_51 rfl fun h => ok_51 fx (al fx dd n) h, kn_of dd.f_52 rfl fun h => ok_52 fx (al fx dd n) h, kn_of dd.f_53 rfl fun h => ok_53 fx (al fx dd n) h, kn_of dd.f_54 rfl fun h => ok_54 fx (al fx dd n) h, kn_of dd.f_55 rfl fun h => ok_55 fx (al fx dd n) h⟩
end
def fnL : List He.DefD := [⟨("is_number", none), "is_number", "is_number", defArgs (topS 4), defBody (topS 4), defScope (topS 4), [], []⟩, ⟨("is_within", none), "is_within", "is_within", defArgs (topS 5), defBody (topS 5), defScope (topS 5), [], []⟩, ⟨("is_long", none), "is_long", "is_long", defArgs (topS 6), defBody (topS 6), defScope (topS 6), [], []⟩, ⟨("tupled", none), "tupled", "tupled", defArgs (topS 7), defBody (topS 7), defScope (topS 7), [], []⟩, ⟨("ascends", none), "ascends", "ascends", defArgs (topS 8), defBody (topS 8), defScope (topS 8), [], []⟩, ⟨("set_of", none), "set_of", "set_of", defArgs (topS 9), defBody (topS 9), defScope (topS 9), [], []⟩, ⟨("minus", none), "minus", "minus", defArgs (topS 10), defBody (topS 10), defScope (topS 10), [], []⟩, ⟨("is_pair", none), "is_pair", "is_pair", defArgs (topS 11), defBody (topS 11), defScope (topS 11), [], []⟩, ⟨("diagonal_of", none), "diagonal_of", "diagonal_of", defArgs (topS 12), defBody (topS 12), defScope (topS 12), [], []⟩, ⟨("spot_of", none), "spot_of", "spot_of", defArgs (topS 13), defBody (topS 13), defScope (topS 13), [], []⟩, ⟨("beside", none), "beside", "beside", defArgs (topS 14), defBody (topS 14), defScope (topS 14), [], []⟩, ⟨("hang_together", none), "hang_together", "hang_together", defArgs (topS 16), defBody (topS 16), defScope (topS 16), [], []⟩, ⟨("shut_nothing_in", none), "shut_nothing_in", "shut_nothing_in", defArgs (topS 17), defBody (topS 17), defScope (topS 17), [], []⟩, ⟨("are_floor", none), "are_floor", "are_floor", defArgs (topS 18), defBody (topS 18), defScope (topS 18), [], []⟩, ⟨("is_floor", none), "is_floor", "is_floor", defArgs (topS 19), defBody (topS 19), defScope (topS 19), [], []⟩, ⟨("sure_floor", none), "sure_floor", "sure_floor", defArgs (topS 20), defBody (topS 20), defScope (topS 20), [], []⟩, ⟨("cells_on", none), "cells_on", "cells_on", defArgs (topS 21), defBody (topS 21), defScope (topS 21), [], []⟩, ⟨("diagonal", none), "diagonal", "diagonal", defArgs (topS 22), defBody (topS 22), defScope (topS 22), [], []⟩, ⟨("span", none), "span", "span", defArgs (topS 23), defBody (topS 23), defScope (topS 23), [], []⟩, ⟨("with_cell", none), "with_cell", "with_cell", defArgs (topS 24), defBody (topS 24), defScope (topS 24), [], []⟩, ⟨("can_grow", none), "can_grow", "can_grow", defArgs (topS 25), defBody (topS 25), defScope (topS 25), [], []⟩, ⟨("grown", none), "grown", "grown", defArgs (topS 26), defBody (topS 26), defScope (topS 26), [], []⟩, ⟨("shrunk", none), "shrunk", "shrunk", defArgs (topS 27), defBody (topS 27), defScope (topS 27), [], []⟩, ⟨("borders", none), "borders", "borders", defArgs (topS 28), defBody (topS 28), defScope (topS 28), [], []⟩, ⟨("is_stair", none), "is_stair", "is_stair", defArgs (topS 30), defBody (topS 30), defScope (topS 30), [], []⟩, ⟨("sure_stair", none), "sure_stair", "sure_stair", defArgs (topS 31), defBody (topS 31), defScope (topS 31), [], []⟩, ⟨("cells_by", none), "cells_by", "cells_by", defArgs (topS 32), defBody (topS 32), defScope (topS 32), [], []⟩, ⟨("cells_of", none), "cells_of", "cells_of", defArgs (topS 33), defBody (topS 33), defScope (topS 33), [], []⟩, ⟨("all_cells", none), "all_cells", "all_cells", defArgs (topS 34), defBody (topS 34), defScope (topS 34), [], []⟩, ⟨("are_stairs", none), "are_stairs", "are_stairs", defArgs (topS 35), defBody (topS 35), defScope (topS 35), [], []⟩, ⟨("sure_laying", none), "sure_laying", "sure_laying", defArgs (topS 36), defBody (topS 36), defScope (topS 36), [], []⟩, ⟨("moved", none), "moved", "moved", defArgs (topS 38), defBody (topS 38), defScope (topS 38), [], []⟩, ⟨("shifted", none), "shifted", "shifted", defArgs (topS 39), defBody (topS 39), defScope (topS 39), [], []⟩, ⟨("mirrored", none), "mirrored", "mirrored", defArgs (topS 40), defBody (topS 40), defScope (topS 40), [], []⟩, ⟨("half_turned", none), "half_turned", "half_turned", defArgs (topS 41), defBody (topS 41), defScope (topS 41), [], []⟩, ⟨("stair_shifted", none), "stair_shifted", "stair_shifted", defArgs (topS 42), defBody (topS 42), defScope (topS 42), [], []⟩, ⟨("stair_mirrored", none), "stair_mirrored", "stair_mirrored", defArgs (topS 43), defBody (topS 43), defScope (topS 43), [], []⟩, ⟨("stair_half_turned", none), "stair_half_turned", "stair_half_turned", defArgs (topS 44), defBody (topS 44), defScope (topS 44), [], []⟩, ⟨("laying_shifted", none), "laying_shifted", "laying_shifted", defArgs (topS 45), defBody (topS 45), defScope (topS 45), [], []⟩, ⟨("laying_mirrored", none), "laying_mirrored", "laying_mirrored", defArgs (topS 46), defBody (topS 46), defScope (topS 46), [], []⟩, ⟨("laying_half_turned", none), "laying_half_turned", "laying_half_turned", defArgs (topS 47), defBody (topS 47), defScope (topS 47), [], []⟩, ⟨("least_form", none), "least_form", "least_form", defArgs (topS 48), defBody (topS 48), defScope (topS 48), [], []⟩, ⟨("alike", none), "alike", "alike", defArgs (topS 49), defBody (topS 49), defScope (topS 49), [], []⟩, ⟨("_law_box", none), "_law_box", "_law_box", defArgs (topS 51), defBody (topS 51), defScope (topS 51), [], []⟩, ⟨("_law_take", none), "_law_take", "_law_take", defArgs (topS 52), defBody (topS 52), defScope (topS 52), [], []⟩, ⟨("_law_cells", none), "_law_cells", "_law_cells", defArgs (topS 53), defBody (topS 53), defScope (topS 53), [], []⟩, ⟨("_law_lists", none), "_law_lists", "_law_lists", defArgs (topS 54), defBody (topS 54), defScope (topS 54), [], []⟩, ⟨("_law_same", none), "_law_same", "_law_same", defArgs (topS 55), defBody (topS 55), defScope (topS 55), [], []⟩, ⟨("_law_oblong", none), "_law_oblong", "_law_oblong", defArgs (topS 56), defBody (topS 56), defScope (topS 56), [], []⟩, ⟨("_law_corner", none), "_law_corner", "_law_corner", defArgs (topS 57), defBody (topS 57), defScope (topS 57), [], []⟩, ⟨("_law_cup", none), "_law_cup", "_law_cup", defArgs (topS 58), defBody (topS 58), defScope (topS 58), [], []⟩, ⟨("_law_heard", none), "_law_heard", "_law_heard", defArgs (topS 59), defBody (topS 59), defScope (topS 59), [], []⟩, ⟨("_law_always_right", none), "_law_always_right", "_law_always_right", defArgs (topS 60), defBody (topS 60), defScope (topS 60), [], []⟩, ⟨("_law_refused_right", none), "_law_refused_right", "_law_refused_right", defArgs (topS 61), defBody (topS 61), defScope (topS 61), [], []⟩, ⟨("_law_soft_right", none), "_law_soft_right", "_law_soft_right", defArgs (topS 62), defBody (topS 62), defScope (topS 62), [], []⟩, ⟨("law", none), "law", "law", defArgs (topS 63), defBody (topS 63), defScope (topS 63), [], []⟩]
def faL : List He.Fa := [.glo "is_number", .glo "is_within", .glo "is_long", .glo "tupled", .glo "ascends", .glo "set_of", .glo "minus", .glo "is_pair", .glo "diagonal_of", .glo "spot_of", .glo "beside", .glo "hang_together", .glo "shut_nothing_in", .glo "are_floor", .glo "is_floor", .glo "sure_floor", .glo "cells_on", .glo "diagonal", .glo "span", .glo "with_cell", .glo "can_grow", .glo "grown", .glo "shrunk", .glo "borders", .glo "is_stair", .glo "sure_stair", .glo "cells_by", .glo "cells_of", .glo "all_cells", .glo "are_stairs", .glo "sure_laying", .glo "moved", .glo "shifted", .glo "mirrored", .glo "half_turned", .glo "stair_shifted", .glo "stair_mirrored", .glo "stair_half_turned", .glo "laying_shifted", .glo "laying_mirrored", .glo "laying_half_turned", .glo "least_form", .glo "alike", .glo "_law_box", .glo "_law_take", .glo "_law_cells", .glo "_law_lists", .glo "_law_same", .glo "_law_oblong", .glo "_law_corner", .glo "_law_cup", .glo "_law_heard", .glo "_law_always_right", .glo "_law_refused_right", .glo "_law_soft_right", .glo "law", .glo "NoCell", .glo "Unfit", .free "LookupError", .free "ValueError", .free "abs", .free "all", .free "bool", .free "dict", .free "enumerate", .free "int", .free "isinstance", .free "len", .free "list", .free "max", .free "min", .free "range", .free "set", .free "sorted", .free "str", .free "tuple", .free "zip", .free "super"]
def suL : List SuD := [⟨"NoCell", "cell", "NoCell.__init__", "LookupError", "LookupError.__new__", "LookupError.__init__", ⟨4, 17, 4, 21⟩, ⟨4, 23, 4, 27⟩, ⟨5, 8, 5, 13⟩, ⟨5, 8, 5, 15⟩, ⟨5, 8, 5, 24⟩, ⟨5, 25, 5, 29⟩, ⟨5, 8, 5, 30⟩, ⟨5, 8, 5, 30⟩, ⟨6, 8, 6, 12⟩, ⟨6, 8, 6, 17⟩, ⟨6, 20, 6, 24⟩, ⟨6, 8, 6, 24⟩⟩]
def exL (K : PySem.W.Frag) : List Bool := [ecB K "NoCell",
  suFn Pw K (suL[0]'(by decide)),
  suRest K (suL[0]'(by decide)),
  xfB K (He.ga K "NoCell"),
  He.eqO (PySem.W.findIn K (.ref (He.ga K "NoCell")) "cell") (some none),
  slB K (He.ga K "NoCell"),
  decide (PySem.W.kitOne K (.ref (He.ga K "NoCell")) (.type "LookupError") = some true),
  decide (PySem.W.kitOne K (.ref (He.ga K "NoCell")) (.type "ValueError") = some false),
  decide (PySem.W.exmOne K (.ref (He.ga K "NoCell")) (.ref (He.ga K "NoCell")) = some true),
  decide (PySem.W.exmOne K (.ref (He.ga K "NoCell")) (.ref (He.ga K "Unfit")) = some false),
  ecB K "Unfit",
  PySem.W.excIn K (He.ga K "Unfit") [.type "ValueError", .type "Exception", .type "BaseException", .type "object"] "ValueError.__new__",
  slB K (He.ga K "Unfit"),
  decide (PySem.W.kitOne K (.ref (He.ga K "Unfit")) (.type "LookupError") = some false),
  decide (PySem.W.kitOne K (.ref (He.ga K "Unfit")) (.type "ValueError") = some true),
  decide (PySem.W.exmOne K (.ref (He.ga K "Unfit")) (.ref (He.ga K "NoCell")) = some false),
  decide (PySem.W.exmOne K (.ref (He.ga K "Unfit")) (.ref (He.ga K "Unfit")) = some true)]
abbrev Rl : PySem.W.OpenRow := PySem.W.OpenLaw.row PySem.Challenge.rw_stairlaid_k51_cells_and_spaces_by_hand_a
def loose0 : List PySem.Str := [("NoCell" : Str), ("Unfit" : Str), ("is_number" : Str), ("is_within" : Str), ("is_long" : Str), ("tupled" : Str), ("ascends" : Str), ("set_of" : Str), ("minus" : Str), ("is_pair" : Str), ("diagonal_of" : Str), ("spot_of" : Str), ("beside" : Str), ("hang_together" : Str), ("shut_nothing_in" : Str), ("are_floor" : Str), ("is_floor" : Str), ("sure_floor" : Str), ("cells_on" : Str), ("diagonal" : Str), ("span" : Str), ("with_cell" : Str), ("can_grow" : Str), ("grown" : Str), ("shrunk" : Str), ("borders" : Str), ("is_stair" : Str), ("sure_stair" : Str), ("cells_by" : Str), ("cells_of" : Str)]
def loose1 : List PySem.Str := [("all_cells" : Str), ("are_stairs" : Str), ("sure_laying" : Str), ("moved" : Str), ("shifted" : Str), ("mirrored" : Str), ("half_turned" : Str), ("stair_shifted" : Str), ("stair_mirrored" : Str), ("stair_half_turned" : Str), ("laying_shifted" : Str), ("laying_mirrored" : Str), ("laying_half_turned" : Str), ("least_form" : Str), ("alike" : Str), ("_law_box" : Str), ("_law_take" : Str), ("_law_cells" : Str), ("_law_lists" : Str), ("_law_same" : Str), ("_law_oblong" : Str), ("_law_corner" : Str), ("_law_cup" : Str), ("_law_heard" : Str), ("_law_always_right" : Str), ("_law_refused_right" : Str), ("_law_soft_right" : Str)]
def looseL : List PySem.Str := loose0 ++ loose1
theorem run (w : World) : HandSHeadRun.RunEq Rl (PySem.W.view Rl.prog [63]) (hookE 6 faL fnL suL exL) (obE 6 faL fnL suL exL) 4000 looseL w := by
  intro os
  kernel_rfl
theorem fx_of {K : PySem.W.Frag} {h : Heap} {mg : Str → Option Value} (X : K.In h) (G : h.Ns mainGlobals mg) (c : SaysE faL fnL suL exL K) : Fx Pw K mg := by
  refine ⟨?_, ?_, ?_, ?_, ?_, ?_, ?_, ?_, ?_, ?_, ?_, ?_, ?_, ?_, ?_, ?_, ?_, ?_, ?_, ?_, ?_, ?_, ?_, ?_, ?_, ?_, ?_, ?_, ?_, ?_, ?_, ?_, ?_, ?_, ?_, ?_, ?_, ?_, ?_, ?_, ?_, ?_, ?_, ?_⟩
  · exact c.no X G 58
  · exact c.no X G 59
  · exact c.no X G 60
  · exact c.no X G 61
  · exact c.no X G 62
  · exact c.no X G 63
  · exact c.no X G 64
  · exact c.no X G 65
  · exact c.no X G 66
  · exact c.no X G 67
  · exact c.no X G 68
  · exact c.no X G 69
  · exact c.no X G 70
  · exact c.no X G 71
  · exact c.no X G 72
  · exact c.no X G 73
  · exact c.no X G 74
  · exact c.no X G 75
  · exact c.no X G 76
  · exact c.yes X G 17
  · exact c.yes X G 18
  · exact c.yes X G 20
  · exact c.yes X G 21
  · exact c.yes X G 22
  · exact c.yes X G 23
  · exact c.yes X G 32
  · exact c.yes X G 33
  · exact c.yes X G 34
  · exact c.yes X G 35
  · exact c.yes X G 36
  · exact c.yes X G 37
  · exact c.yes X G 38
  · exact c.yes X G 39
  · exact c.yes X G 40
  · exact c.yes X G 42
  · exact ecB_ok (c.yes X G 56) (c.exAt 0)
  · exact supC_of (d := suL[0]) (c.suAt 0) (c.exAt 1) (c.exAt 2) PySem.F.excBase_LookupError PySem.W.kxs_LookupError PySem.F.store_LookupError (c.no X G 77) (by decide +kernel) (by decide) (by decide) rfl rfl (fun _ _ _ _ _ _ _ _ _ _ _ _ => rfl) (fun _ _ _ _ _ _ _ _ _ _ => ⟨_, rfl⟩)
  · exact L2.xfB_ok (c.exAt 3)
  · exact He.eqO_ok (c.exAt 4)
  · exact ecB_ok (c.yes X G 57) (c.exAt 10)
  · exact c.exAt 11
  · intro z hz
    have hz := any_mem hz
    simp only [knL, List.mem_cons, List.not_mem_nil, or_false] at hz
    rcases hz with rfl | rfl
    · exact ⟨slB_ok (c.exAt 5), of_decide_eq_true (c.exAt 6)⟩
    · exact ⟨slB_ok (c.exAt 12), of_decide_eq_true (c.exAt 13)⟩
  · intro z hz
    have hz := any_mem hz
    simp only [knL, List.mem_cons, List.not_mem_nil, or_false] at hz
    rcases hz with rfl | rfl
    · exact ⟨slB_ok (c.exAt 5), of_decide_eq_true (c.exAt 7)⟩
    · exact ⟨slB_ok (c.exAt 12), of_decide_eq_true (c.exAt 14)⟩
  · intro z1 z2 h1 h2
    have h1 := any_mem h1
    have h2 := any_mem h2
    simp only [knL, List.mem_cons, List.not_mem_nil, or_false] at h1 h2
    rcases h1 with rfl | rfl
    · rcases h2 with rfl | rfl
      · exact of_decide_eq_true (c.exAt 8)
      · exact of_decide_eq_true (c.exAt 9)
    · rcases h2 with rfl | rfl
      · exact of_decide_eq_true (c.exAt 15)
      · exact of_decide_eq_true (c.exAt 16)
theorem dd_of {K : PySem.W.Frag} {h : Heap} {mg : Str → Option Value} (X : K.In h) (G : h.Ns mainGlobals mg) (c : SaysE faL fnL suL exL K) : Dd K mg := by
  refine ⟨?_, ?_, ?_, ?_, ?_, ?_, ?_, ?_, ?_, ?_, ?_, ?_, ?_, ?_, ?_, ?_, ?_, ?_, ?_, ?_, ?_, ?_, ?_, ?_, ?_, ?_, ?_, ?_, ?_, ?_, ?_, ?_, ?_, ?_, ?_, ?_, ?_, ?_, ?_, ?_, ?_, ?_, ?_, ?_, ?_, ?_, ?_, ?_, ?_, ?_, ?_, ?_, ?_, ?_, ?_, ?_⟩
  · exact c.df X G 0 0 rfl rfl (fun _ _ _ _ _ _ us hl => match us, hl with | [_], _ => rfl)
  · exact c.df X G 1 1 rfl rfl (fun _ _ _ _ _ _ us hl => match us, hl with | [_, _, _], _ => rfl)
  · exact c.df X G 2 2 rfl rfl (fun _ _ _ _ _ _ us hl => match us, hl with | [_, _], _ => rfl)
  · exact c.df X G 3 3 rfl rfl (fun _ _ _ _ _ _ us hl => match us, hl with | [_], _ => rfl)
  · exact c.df X G 4 4 rfl rfl (fun _ _ _ _ _ _ us hl => match us, hl with | [_], _ => rfl)
  · exact c.df X G 5 5 rfl rfl (fun _ _ _ _ _ _ us hl => match us, hl with | [_], _ => rfl)
  · exact c.df X G 6 6 rfl rfl (fun _ _ _ _ _ _ us hl => match us, hl with | [_, _], _ => rfl)
  · exact c.df X G 7 7 rfl rfl (fun _ _ _ _ _ _ us hl => match us, hl with | [_], _ => rfl)
  · exact c.df X G 8 8 rfl rfl (fun _ _ _ _ _ _ us hl => match us, hl with | [_], _ => rfl)
  · exact c.df X G 9 9 rfl rfl (fun _ _ _ _ _ _ us hl => match us, hl with | [_], _ => rfl)
  · exact c.df X G 10 10 rfl rfl (fun _ _ _ _ _ _ us hl => match us, hl with | [_], _ => rfl)
  · exact c.df X G 11 11 rfl rfl (fun _ _ _ _ _ _ us hl => match us, hl with | [_], _ => rfl)
  · exact c.df X G 12 12 rfl rfl (fun _ _ _ _ _ _ us hl => match us, hl with | [_], _ => rfl)
  · exact c.df X G 13 13 rfl rfl (fun _ _ _ _ _ _ us hl => match us, hl with | [_], _ => rfl)
  · exact c.df X G 14 14 rfl rfl (fun _ _ _ _ _ _ us hl => match us, hl with | [_], _ => rfl)
  · exact c.df X G 15 15 rfl rfl (fun _ _ _ _ _ _ us hl => match us, hl with | [_], _ => rfl)
  · exact c.df X G 16 16 rfl rfl (fun _ _ _ _ _ _ us hl => match us, hl with | [_, _], _ => rfl)
  · exact c.df X G 17 17 rfl rfl (fun _ _ _ _ _ _ us hl => match us, hl with | [_, _], _ => rfl)
  · exact c.df X G 18 18 rfl rfl (fun _ _ _ _ _ _ us hl => match us, hl with | [_], _ => rfl)
  · exact c.df X G 19 19 rfl rfl (fun _ _ _ _ _ _ us hl => match us, hl with | [_, _], _ => rfl)
  · exact c.df X G 20 20 rfl rfl (fun _ _ _ _ _ _ us hl => match us, hl with | [_, _], _ => rfl)
  · exact c.df X G 21 21 rfl rfl (fun _ _ _ _ _ _ us hl => match us, hl with | [_, _], _ => rfl)
  · exact c.df X G 22 22 rfl rfl (fun _ _ _ _ _ _ us hl => match us, hl with | [_, _], _ => rfl)
  · exact c.df X G 23 23 rfl rfl (fun _ _ _ _ _ _ us hl => match us, hl with | [_], _ => rfl)
  · exact c.df X G 24 24 rfl rfl (fun _ _ _ _ _ _ us hl => match us, hl with | [_], _ => rfl)
  · exact c.df X G 25 25 rfl rfl (fun _ _ _ _ _ _ us hl => match us, hl with | [_], _ => rfl)
  · exact c.df X G 26 26 rfl rfl (fun _ _ _ _ _ _ us hl => match us, hl with | [_], _ => rfl)
  · exact c.df X G 27 27 rfl rfl (fun _ _ _ _ _ _ us hl => match us, hl with | [_], _ => rfl)
  · exact c.df X G 28 28 rfl rfl (fun _ _ _ _ _ _ us hl => match us, hl with | [_], _ => rfl)
  · exact c.df X G 29 29 rfl rfl (fun _ _ _ _ _ _ us hl => match us, hl with | [_, _], _ => rfl)
  · exact c.df X G 30 30 rfl rfl (fun _ _ _ _ _ _ us hl => match us, hl with | [_], _ => rfl)
  · exact c.df X G 31 31 rfl rfl (fun _ _ _ _ _ _ us hl => match us, hl with | [_, _], _ => rfl)
  · exact c.df X G 32 32 rfl rfl (fun _ _ _ _ _ _ us hl => match us, hl with | [_, _], _ => rfl)
  · exact c.df X G 33 33 rfl rfl (fun _ _ _ _ _ _ us hl => match us, hl with | [_], _ => rfl)
  · exact c.df X G 34 34 rfl rfl (fun _ _ _ _ _ _ us hl => match us, hl with | [_], _ => rfl)
  · exact c.df X G 35 35 rfl rfl (fun _ _ _ _ _ _ us hl => match us, hl with | [_, _], _ => rfl)
  · exact c.df X G 36 36 rfl rfl (fun _ _ _ _ _ _ us hl => match us, hl with | [_], _ => rfl)
  · exact c.df X G 37 37 rfl rfl (fun _ _ _ _ _ _ us hl => match us, hl with | [_], _ => rfl)
  · exact c.df X G 38 38 rfl rfl (fun _ _ _ _ _ _ us hl => match us, hl with | [_, _], _ => rfl)
  · exact c.df X G 39 39 rfl rfl (fun _ _ _ _ _ _ us hl => match us, hl with | [_], _ => rfl)
  · exact c.df X G 40 40 rfl rfl (fun _ _ _ _ _ _ us hl => match us, hl with | [_], _ => rfl)
  · exact c.df X G 41 41 rfl rfl (fun _ _ _ _ _ _ us hl => match us, hl with | [_], _ => rfl)
  · exact c.df X G 42 42 rfl rfl (fun _ _ _ _ _ _ us hl => match us, hl with | [_, _], _ => rfl)
  · exact c.df X G 43 43 rfl rfl (fun _ _ _ _ _ _ us hl => match us, hl with | [_, _], _ => rfl)
  · exact c.df X G 44 44 rfl rfl (fun _ _ _ _ _ _ us hl => match us, hl with | [_, _], _ => rfl)
  · exact c.df X G 45 45 rfl rfl (fun _ _ _ _ _ _ us hl => match us, hl with | [_, _], _ => rfl)
  · exact c.df X G 46 46 rfl rfl (fun _ _ _ _ _ _ us hl => match us, hl with | [_], _ => rfl)
  · exact c.df X G 47 47 rfl rfl (fun _ _ _ _ _ _ us hl => match us, hl with | [_, _], _ => rfl)
  · exact c.df X G 48 48 rfl rfl (fun _ _ _ _ _ _ us hl => match us, hl with | [_, _], _ => rfl)
  · exact c.df X G 49 49 rfl rfl (fun _ _ _ _ _ _ us hl => match us, hl with | [], _ => rfl)
  · exact c.df X G 50 50 rfl rfl (fun _ _ _ _ _ _ us hl => match us, hl with | [], _ => rfl)
  · exact c.df X G 51 51 rfl rfl (fun _ _ _ _ _ _ us hl => match us, hl with | [_, _, _], _ => rfl)
  · exact c.df X G 52 52 rfl rfl (fun _ _ _ _ _ _ us hl => match us, hl with | [], _ => rfl)
  · exact c.df X G 53 53 rfl rfl (fun _ _ _ _ _ _ us hl => match us, hl with | [], _ => rfl)
  · exact c.df X G 54 54 rfl rfl (fun _ _ _ _ _ _ us hl => match us, hl with | [], _ => rfl)
  · exact c.df X G 55 55 rfl rfl (fun _ _ _ _ _ _ us hl => match us, hl with | [_], _ => rfl)
def isTrue : FR → Bool
  | .ret (.bl true) [] => true
  | _ => false
theorem isTrue_ok {r : FR} (h : isTrue r = true) : r = .ret (.bl true) [] := by
  unfold isTrue at h
  split at h
  · rfl
  · cases h
theorem r52 : runF Tb WN 59 52 [] = .ret (.bl true) [] := isTrue_ok (by decide +kernel)
theorem r53 : runF Tb WN 59 53 [] = .ret (.bl true) [] := isTrue_ok (by decide +kernel)
theorem r54 : runF Tb WN 59 54 [] = .ret (.bl true) [] := isTrue_ok (by decide +kernel)
theorem law_ev (ns : List Int) (hl : ns.length ≤ 63) : runF Tb WN 60 55 [.scr (ns.map .int)] = .ret (.bl true) [] := by
  obtain ⟨cs, e1, l1⟩ := cells_run (runF Tb WN 58) WN ns 1 (by decide) hl
  obtain ⟨m, r, rfl⟩ : ∃ m r, cs = m :: r := by
    cases cs with
    | nil =>
      have : (0 : Nat) = if ns = [] then 1 else min 1 ns.length := l1
      split at this
      · omega
      · rename_i h
        have : 0 < ns.length := List.length_pos_iff.mpr h
        omega
    | cons m r => exact ⟨m, r, rfl⟩
  have e1 : runF Tb WN 59 45 [.scr (ns.map .int), .int 1] = .ret (.lst (.int m :: r.map .int)) [] := e1
  have e2 : runF Tb WN 59 43 [.lst (.int m :: r.map .int), .int 0] = _ := box_run (runF Tb WN 58) WN m (r.map .int)
  generalize (if m < 0 then -m else m) * bI (!iLt (if m < 0 then -m else m) 1000000000000000000) = a at e2
  generalize m.fmod 2305843009213693951 + 3175051 = b at e2
  obtain ⟨d, a', c', e3, d0, d1⟩ := take_run (runF Tb WN 58) WN a b 0 2 (by decide) (by decide)
  have e3 : runF Tb WN 59 44 [.lst [.int a, .int b, .int 0], .int 2] = .ret (.int d) [.lst [.int a', .int b, .int c']] := e3
  show runD (runF Tb WN 59) WN d_55 [.scr (ns.map .int)] = _
  have hd : d = 0 ∨ d = 1 := by omega
  rcases hd with rfl | rfl
  · simp [runD, d_55, exs, ex, ev, evs, R.bind, R.opt, getE, isExn, e1, e2, e3, r52, r53, r54, tempOk, inFrozen, frozens, frozen, fromFR, Sl.writeBack, permute, opSem, truth, opEq, eqOk, isData, depth, pyEq, iEq, outsOf]
  · simp [runD, d_55, exs, ex, ev, evs, R.bind, R.opt, getE, isExn, e1, e2, e3, r52, r53, r54, tempOk, inFrozen, frozens, frozen, fromFR, Sl.writeBack, permute, opSem, truth, opEq, eqOk, isData, depth, pyEq, iEq, outsOf]
theorem facts {w : World} {K : PySem.W.Frag} {h : Heap} {mg : Str → Option Value} {f : Addr} (X : K.In h) (G : h.Ns mainGlobals mg) (hfa : mg ("law" : Str) = some (.ref f)) (c : SaysE faL fnL suL exL K) :
    ∃ fd : FuncData, (∀ (s : Shared) (v : Value), BindsTo s fd ⟨[v], []⟩ [("script", v)]) ∧ ∀ base : Heap, K.In base → base.Ns mainGlobals mg → FnOk Pw w K mg base CX0 60 f fd ["script"] (calmS (spF (G0 K w) (runF Tb WN 60) 55 none)) := by
  have fx := fx_of X G c
  have dd := dd_of X G c
  obtain ⟨fd, F, _⟩ := dd.f_55.fd
  have e := hfa.symm.trans dd.f_55.mg
  cases e
  refine ⟨fd, ?_, fun base _ _ => Sl.FnOk.calm (ok_55 fx (al fx dd 59) F)⟩
  obtain ⟨oc, od, kV, doc, pm, an, cdv, ct, osl, rfl, _, _⟩ := F.ex
  exact fun s v => .of_eq rfl
end Kx
open PySem PySem.W PySem.Calls PyProof.Rows
set_option maxHeartbeats 0 in
theorem PySem.Challenge.cw_stairlaid_k51_cells_and_spaces_by_hand_a_holds : PySem.Challenge.rw_stairlaid_k51_cells_and_spaces_by_hand_a.Holds := by
  w_on; o_law
  refine HandSHeadRun.head_any (r := Kx.Rl) (q := view Kx.Rl.prog [63]) (H := Sl.hookE 6 Kx.faL Kx.fnL Kx.suL Kx.exL) (ob := Sl.obE 6 Kx.faL Kx.fnL Kx.suL Kx.exL) (M := 4000) (loose := Kx.looseL) (d := HandSHeadRun.topDef Kx.Rl.prog 63) (kwd := []) (Sl.obE_eq _ _ _ _ _)
    (by kernel_rfl) (fun s => by kernel_rfl) Kx.run (by kernel_rfl) (by kernel_rfl) (by kernel_rfl) (by rfl) (by first | assumption | decide +kernel) (by decide +kernel) ⟨rfl, rfl, rfl, rfl, rfl, by decide +kernel⟩ ?hw ?hc
  case hw => w_witness2
  case hc =>
    refine L2.walk_ofE (l := PySem.Challenge.rw_stairlaid_k51_cells_and_spaces_by_hand_a) (n := 63) (k := 60) (x := "script") (CX := L2.CX0) rfl (by decide) (by kernel_rfl) ⟨rfl, by decide, by decide⟩ ?F (fun _ _ _ _ z => z)
    intro w mg fa h Y G hmg0
    obtain ⟨K, KX, c⟩ := Y
    have hmg : mg ("law" : PySem.Str) = some (.ref fa) := by
      have e : (HandSHeadRun.topDef Kx.Rl.prog 63).name = ("law" : PySem.Str) := by kernel_rfl
      rw [← e]
      exact hmg0
    obtain ⟨fd, hb, hF⟩ := Kx.facts (w := w) KX G hmg c
    exact ⟨K, fd, Sl.calmS (Sl.spF (Kx.G0 K w) (Sl.runF Kx.Tb Kx.WN 60) 55 none), KX, hb, fun H a ns hl hO hS => Sl.at_door (G := Kx.G0 K w) hO hS (Kx.law_ev ns hl), hF⟩
