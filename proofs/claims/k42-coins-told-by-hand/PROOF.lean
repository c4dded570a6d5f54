import PyProof.Rows.All
import Wide.All
import OpenK.AllK
import Wide.FinOn
import PySem.Syntax
import HandS.ForMost
import HandS.ForExc
import HandS.TryMany
import HandS.Flow
import HandS.IsInst
import HandS.TupAny
import KE.KDictKeyed
import HandS.TupMul
import HandS.SetFor
import HandS.Strs
import HandS.Deep
import KE.SortData
import KE.DataCmp
import KE.DataMinMax
import KE.DataFind
import KE.SortLaws
import PyProof.SumWalkG
import PyProof.MaxThree
import HandS.TupSets
import PySem.Eval
import HandS.ExcIs
import HandS.ExcOwn
import HandS.Star
import HandS.Gcd
import HandS.Conv
import HandS.Zip
import KE.GoesEnum
import PyProof.EnumMake
import HandS.Comp
import HandS.Style
import HandS.ExcField
import HandS.HeadWalk
import HandS.Defaults
import HandS.ExcInit
import HandS.ExcValue
import KE.KExcSuper
import PyProof.ExcBaseAll.LookupError
import HandS.Small
import HandS.ExcSuper
import HandS.HeadHook4
import HandS.HeadEnd
import HandS.Head2
import HandS.Head3
import PyProof.Rows.FactsExc_LookupError
import PySem.Challenge.RW_movedchest_k42_coins_and_told_by_hand_an
set_option Elab.async false
set_option linter.all false
set_option maxRecDepth 100000
set_option maxHeartbeats 4000000
/-! Ip: a small Python, evaluated over plain data. -/
namespace Ip
open PySem (Str)

/-- values: immutable data, places of the own heap, functions of the table, a caught error -/
inductive D where
  | non | bl (b : Bool) | int (i : Int) | str (s : Str)
  | tup (xs : List D) | lst (xs : List D)
  | loc (i : Nat) | fn (g : Nat) | exc (g : Nat) (xs : List D)

inductive Cell where
  | lst (xs : List D) | dct (kvs : List (D × D)) | obj (c : Nat) (fs : List (Nat × D)) | lsl (xs : List D) (j : Nat) | dead
abbrev Hs := List Cell
abbrev Env := List (Option D)

inductive R (α : Type) where
  | ok (a : α) (h : Hs) | ex (x : D) (h : Hs) | bad

@[inline] def R.bind {α β : Type} (r : R α) (k : α → Hs → R β) : R β := match r with
  | .ok a h => k a h
  | .ex x h => .ex x h
  | .bad => .bad

/-- within a comprehension nothing may be raised -/
@[inline] def R.calm {α : Type} (r : R α) : R α := match r with
  | .ok a h => .ok a h
  | _ => .bad

/-- what a primitive gives: it raises nothing -/
inductive Pr where
  | ok (d : D) (h : Hs) | bad
@[inline] def Pr.r (p : Pr) : R D := match p with
  | .ok d h => .ok d h
  | .bad => .bad

inductive Op2 where | add | sub | mul | fdiv | mod | pow
inductive Cm where | eq | ne | lt | le | gt | ge | inn | nin
inductive Ty where | int | bool | str | list | tuple | vErr | lErr | other | own (c : Nat)
/-- built-in functions (by values) -/
inductive Bi where
  | abs | all | any | int | len | list | tuple | max | min | sum | sorted | sset | gcd | comb | str | bool | rngT | rngL
/-- methods of built-in types -/
inductive Mt where
  | append | extend | pop | popAt | insert | count | index | get | get2 | join | split | replace | values | items

mutual
inductive E where
  | var (i : Nat) | glo (k : Nat) | int (i : Int) | bl (b : Bool) | non | str (s : Str)
  | bin (c : Bool) (o : Op2) (a b : E) | neg (a : E) | notE (a : E)
  | cmp (o : Cm) (a b : E) | chn (o p : Cm) (a b d : E) | isN (a : E) | notN (a : E)
  | and (es : Es) | or (es : Es) | ifx (t a b : E)
  | tup (es : Es) | lst (c : Bool) (es : Es)
  | ix (a b : E) | sl (c : Bool) (a lo hi : E) | rev (c : Bool) (a : E) | absent
  | call (g : Nat) (es : Es) | callv (f : E) (es : Es)
  | bi (c : Bool) (f : Bi) (es : Es) | mt (c : Bool) (m : Mt) (o : E) (es : Es)
  | isi (a : E) (ts : List Ty)
  | comp (c : Bool) (elt : E) (tg : T) (own : List Nat) (it : It) (ifs : Es)
  | comp2 (c : Bool) (elt : E) (tg : T) (own : List Nat) (it : It) (tg2 : T) (own2 : List Nat) (it2 : It) (ifs : Es)
  | dct | fld (a : E) (f : Nat) | att (c : Nat) (a : E) (f : Nat) | newO (c g : Nat) (es : Es) | meth (c g : Nat) (o : E) (es : Es) | callk (g : Nat) (perm : List Nat) (es : Es) | never
inductive Es where
  | nil | cons (e : E) (r : Es) | star (e : E) (r : Es)
inductive It where
  | of (e : E) | rng (es : Es) | zip (a b : E) | enum (a : E)
inductive T where
  | name (i : Nat) | tup (ts : Ts) | sub (o i : E) | fld (c : Nat) (o : E) (f : Nat)
inductive Ts where
  | nil | cons (t : T) (r : Ts)
end

mutual
inductive S where
  | asg (t : T) (e : E) | par (ts : Ts) (es : Es) | swp (is : List Nat) (es : Es) | aug (i : Nat) (o : Op2) (e : E)
  | expr (e : E) | ret (e : E) | retN | ite (c : E) (a b : Ss) | whl (c : E) (b : Ss)
  | for (t : T) (it : It) (b : Ss) | raise (g : Nat) (es : Es) | tryE (B : List Nat) (b : Ss) (hs : Hd)
  | pass | brk | cont | never
inductive Ss where
  | nil | cons (s : S) (r : Ss) | frz (i : Nat) (r : Ss) | frzL (i : Nat) (r : Ss)
inductive Hd where
  | nil | cons (g : Nat) (slot : Option Nat) (b : Ss) (r : Hd)
end

def Ts.len : Ts → Nat
  | .nil => 0
  | .cons _ r => r.len + 1

structure Fn where
  np : Nat
  ns : Nat
  rc : Bool
  body : Ss

/-! ### data -/
def D.noLoc : D → Bool
  | .loc _ => false
  | .exc _ _ => false
  | _ => true
def D.isExc : D → Bool
  | .exc _ _ => true
  | _ => false
def sizeMax : Nat := 16777216

def strFit : List Nat → Bool
  | [] => true
  | c :: r => Nat.blt c 1114112 && strFit r
mutual
/-- plain data at most n deep: what == and < may be asked of -/
def D.data : D → Nat → Bool
  | .tup xs, n + 1 => datas xs n
  | .lst xs, n + 1 => datas xs n
  | .non, _ => true
  | .bl _, _ => true
  | .int _, _ => true
  | .str s, _ => strFit s.cps.toList
  | _, _ => false
def datas : List D → Nat → Bool
  | [], _ => true
  | x :: xs, n => x.data n && datas xs n
end

def eqI : Int → Int → Bool
  | .ofNat a, .ofNat b => Nat.beq a b
  | .negSucc a, .negSucc b => Nat.beq a b
  | _, _ => false
def ltI : Int → Int → Bool
  | .ofNat a, .ofNat b => Nat.blt a b
  | .negSucc _, .ofNat _ => true
  | .ofNat _, .negSucc _ => false
  | .negSucc a, .negSucc b => Nat.blt b a
def eqL : List Nat → List Nat → Bool
  | [], [] => true
  | a :: as, b :: bs => Nat.beq a b && eqL as bs
  | _, _ => false
def ltL : List Nat → List Nat → Bool
  | [], [] => false
  | [], _ :: _ => true
  | _ :: _, [] => false
  | a :: as, b :: bs => if Nat.beq a b then ltL as bs else Nat.blt a b
def eqStr (a b : Str) : Bool := eqL a.cps.toList b.cps.toList
def b2i : Bool → Int
  | true => 1
  | false => 0

mutual
def eqD : D → D → Bool
  | .non, .non => true
  | .bl a, .bl b => a == b
  | .bl a, .int j => eqI (b2i a) j
  | .int i, .bl b => eqI i (b2i b)
  | .int i, .int j => eqI i j
  | .str x, .str y => eqStr x y
  | .lst xs, .lst ys => eqDs xs ys
  | .tup xs, .tup ys => eqDs xs ys
  | _, _ => false
def eqDs : List D → List D → Bool
  | [], [] => true
  | x :: xs, y :: ys => eqD x y && eqDs xs ys
  | _, _ => false
end
mutual
/-- the two can be compared, place by place -/
def alikeD : D → D → Bool
  | .non, .non => true
  | .bl _, .bl _ => true
  | .int _, .int _ => true
  | .str _, .str _ => true
  | .lst xs, .lst ys => alikeDs xs ys
  | .tup xs, .tup ys => alikeDs xs ys
  | _, _ => false
def alikeDs : List D → List D → Bool
  | x :: xs, y :: ys => alikeD x y && alikeDs xs ys
  | [], _ => true
  | _ :: _, [] => true
end
mutual
/-- x < y of alike data -/
def ltD : D → D → Bool
  | .int i, .int j => ltI i j
  | .bl a, .bl b => !a && b
  | .str x, .str y => ltL x.cps.toList y.cps.toList
  | .tup xs, .tup ys => ltDs xs ys
  | .lst xs, .lst ys => ltDs xs ys
  | _, _ => false
def ltDs : List D → List D → Bool
  | [], [] => false
  | [], _ :: _ => true
  | _ :: _, [] => false
  | x :: xs, y :: ys => if eqD x y then ltDs xs ys else ltD x y
end
def D.isNon : D → Bool
  | .non => true
  | _ => false
/-- x < y, if it may be asked -/
def lessD (x y : D) : Option Bool := match x, y with
  | .int i, .int j => some (ltI i j)
  | x, y => if x.data 60 && y.data 60 && alikeD x y && !x.isNon then some (ltD x y) else none
/-- kinds: by them many are told to be alike at once -/
inductive Kd where
  | bl | int | str | of (k : Kd) | tup (ks : List Kd)
mutual
def Kd.fits : Kd → D → Bool
  | .bl, .bl _ => true
  | .int, .int _ => true
  | .str, .str s => strFit s.cps.toList
  | .of k, .tup xs => fitAll k xs
  | .tup ks, .tup xs => fitEach ks xs
  | _, _ => false
def fitAll : Kd → List D → Bool
  | _, [] => true
  | k, x :: xs => k.fits x && fitAll k xs
def fitEach : List Kd → List D → Bool
  | [], [] => true
  | k :: ks, x :: xs => k.fits x && fitEach ks xs
  | _, _ => false
end
/-! ### the own heap -/
def lstAt (η : Hs) : D → Option (List D)
  | .lst xs => some xs
  | .loc i => match η[i]? with
    | some (.lst xs) => some xs
    | _ => none
  | _ => none
def seqAt (η : Hs) : D → Option (List D)
  | .tup xs => some xs
  | d => lstAt η d
/-- an own list read as a value -/
def deref (η : Hs) : D → Option D
  | .loc i => match η[i]? with
    | some (.lst xs) => some (.lst xs)
    | _ => none
  | d => some d
/-- a list made just now: frozen, or a place of the heap -/
def mkL (c : Bool) (xs : List D) (η : Hs) : Pr := match c with
  | true => .ok (.loc η.length) (η ++ [.lst xs])
  | false => .ok (.lst xs) η
def chrs (s : Str) : List D := s.cps.toList.map fun c => .str ⟨#[c]⟩

def tru (η : Hs) : D → Option Bool
  | .non => some false
  | .bl b => some b
  | .int i => some (!eqI i 0)
  | .str s => if Nat.ble s.length sizeMax then some (!Nat.beq s.length 0) else none
  | .tup xs => some (!xs.isEmpty)
  | .lst xs => some (!xs.isEmpty)
  | .loc i => match η[i]? with
    | some (.lst xs) => some (!xs.isEmpty)
    | _ => none
  | _ => none

/-! ### operators -/
def forceN {α : Type} (n : Nat) (k : Nat → α) : α := Nat.casesOn n (k 0) (fun m => k (Nat.succ m))
def forceI {α : Type} (i : Int) (k : Int → α) : α := match i with
  | .ofNat n => forceN n fun n => k (.ofNat n)
  | .negSucc n => forceN n fun n => k (.negSucc n)
def oki (i : Int) (η : Hs) : Pr := forceI i fun i => .ok (.int i) η
def two64 : Nat := 18446744073709551616
def small64 (i : Int) : Bool := Nat.blt i.natAbs two64
def binop (c : Bool) (o : Op2) (x y : D) (η : Hs) : Pr := match o with
  | .add => match x, y with
    | .int i, .int j => oki (i + j) η
    | .str a, .str b => if Nat.ble (a.length + b.length) sizeMax then .ok (.str (a ++ b)) η else .bad
    | .tup xs, .tup ys => if Nat.ble (xs.length + ys.length) sizeMax then .ok (.tup (xs ++ ys)) η else .bad
    | x, y => match lstAt η x, lstAt η y with
      | some xs, some ys => if Nat.ble (xs.length + ys.length) sizeMax then mkL c (xs ++ ys) η else .bad
      | _, _ => .bad
  | .sub => match x, y with
    | .int i, .int j => oki (i - j) η
    | _, _ => .bad
  | .mul => match x, y with
    | .int i, .int j => if small64 i || small64 j then oki (i * j) η else .bad
    | .tup xs, .int (.ofNat j) => if Nat.blt 1 j && Nat.ble j 1000000 && Nat.ble (xs.length * j) 1000000 && !xs.isEmpty then .ok (.tup (List.replicate j xs).flatten) η else .bad
    | x, .int j => match lstAt η x with
      | some xs => if Nat.ble (xs.length * j.toNat) sizeMax && Nat.ble j.natAbs 9223372036854775807 then mkL c (List.replicate j.toNat xs).flatten η else .bad
      | none => .bad
    | _, _ => .bad
  | .fdiv => match x, y with
    | .int i, .int j => if eqI j 0 || !Nat.blt j.natAbs 1073741824 then .bad else oki (i.fdiv j) η
    | _, _ => .bad
  | .mod => match x, y with
    | .int i, .int j => if eqI j 0 then .bad else oki (i.fmod j) η
    | _, _ => .bad
  | .pow => match x, y with
    | .int i, .int (.ofNat n) => if Nat.ble n 1000000 && small64 i then oki (i ^ n) η else .bad
    | _, _ => .bad

/-! ### places, slices -/
def ixN (n : Nat) (i : Int) : Option Nat := match i with
  | .ofNat k => if Nat.blt k n then some k else none
  | .negSucc k => if Nat.blt k n then some (n - (k + 1)) else none
def atI {α : Type} (xs : List α) (i : Int) : Option α := match i with
  | .ofNat k => xs[k]?
  | .negSucc k => if Nat.blt k xs.length then xs[xs.length - (k + 1)]? else none
def sIx (n d : Nat) : Option Int → Nat
  | none => d
  | some (.ofNat k) => min k n
  | some (.negSucc k) => n - (k + 1)
def cut {α : Type} (xs : List α) (lo hi : Option Int) : List α := (xs.drop (sIx xs.length 0 lo)).take (sIx xs.length xs.length hi - sIx xs.length 0 lo)
def part : Bool → D → Option (Option Int)
  | true, _ => some none
  | false, .int i => some (some i)
  | false, _ => none
def E.isAbs : E → Bool
  | .absent => true
  | _ => false
def dLook (k : D) : List (D × D) → Option D
  | [] => none
  | p :: r => if eqD p.1 k then some p.2 else dLook k r
def dPut (k v : D) : List (D × D) → List (D × D)
  | [] => [(k, v)]
  | p :: r => if eqD p.1 k then (p.1, v) :: r else p :: dPut k v r
def fPut (f : Nat) (v : D) : List (Nat × D) → List (Nat × D)
  | [] => [(f, v)]
  | p :: r => if Nat.beq p.1 f then (f, v) :: r else p :: fPut f v r
def fLook (f : Nat) : List (Nat × D) → Option D
  | [] => none
  | p :: r => if Nat.beq p.1 f then some p.2 else fLook f r
/-! keys: tuples of ints, texts, bools, None and such tuples -/
mutual
def keyD : D → Nat → Bool
  | .non, _ => true
  | .int _, _ => true
  | .str _, _ => true
  | .bl _, _ => true
  | .tup xs, n + 1 => keysD xs n
  | _, _ => false
def keysD : List D → Nat → Bool
  | [], _ => true
  | x :: xs, n => keyD x n && keysD xs n
end
def tupKey : D → Bool
  | .tup xs => keysD xs 7
  | _ => false
def dctAt (η : Hs) : D → Option (List (D × D))
  | .loc i => match η[i]? with
    | some (.dct kvs) => some kvs
    | _ => none
  | _ => none
/-- the last item of a list, an own place -/
def lastIx (η : Hs) (x : D) (i : Int) : Pr := match x with
  | .loc l => (match i with
    | .negSucc 0 => (match η[l]? with
      | some (.lsl _ j) => .ok (.loc j) η
      | _ => .bad)
    | _ => .bad)
  | _ => .bad
def getIx (η : Hs) (x y : D) : Pr := match dctAt η x with
  | some kvs => if tupKey y then (match dLook y kvs with
    | some v => .ok v η
    | none => .bad) else .bad
  | none => match y with
  | .int i => match x with
    | .str s => if Nat.ble s.length sizeMax then (match atI s.cps.toList i with
      | some c => .ok (.str ⟨#[c]⟩) η
      | none => .bad) else .bad
    | x => match seqAt η x with
      | some xs => match atI xs i with
        | some d => .ok d η
        | none => .bad
      | none => lastIx η x i
  | _ => .bad
def slice (c : Bool) (x : D) (lo hi : Option Int) (η : Hs) : Pr := match x with
  | .tup xs => .ok (.tup (cut xs lo hi)) η
  | x => match lstAt η x with
    | some xs => mkL c (cut xs lo hi) η
    | none => .bad
def setAt (η : Hs) (i : Nat) (c : Cell) : Hs := η.set i c
def setIx (η : Hs) (o i v : D) : Option Hs := match o, i with
  | .loc l, k => match η[l]?, k with
    | some (.lst xs), .int k => match ixN xs.length k with
      | some j => if v.noLoc then some (η.set l (.lst (xs.set j v))) else none
      | none => none
    | some (.dct kvs), k => if tupKey k && v.noLoc && Nat.blt kvs.length sizeMax then some (η.set l (.dct (dPut k v kvs))) else none
    | _, _ => none
  | _, _ => none
def setFld (η : Hs) (c : Nat) (o : D) (f : Nat) (v : D) : Option Hs := match o with
  | .loc l => match η[l]? with
    | some (.obj c' fs) => if Nat.beq c c' && Nat.blt fs.length 900 && !v.isExc then some (η.set l (.obj c' (fPut f v fs))) else none
    | _ => none
  | _ => none

def D.ok (d : D) : Bool := d.data 60
def memD (x : D) : List D → Bool
  | [] => false
  | y :: ys => eqD y x || memD x ys
def cmpop (o : Cm) (x y : D) (η : Hs) : Option Bool := match o with
  | .eq => match x, y with
    | .int i, .int j => some (eqI i j)
    | x, y => match deref η x, deref η y with
      | some x, some y => if x.ok && y.ok then some (eqD x y) else none
      | _, _ => none
  | .ne => match x, y with
    | .int i, .int j => some (!eqI i j)
    | x, y => match deref η x, deref η y with
      | some x, some y => if x.ok && y.ok then some (!eqD x y) else none
      | _, _ => none
  | .lt => lessD x y
  | .gt => lessD y x
  | .le => match x, y with
    | .int i, .int j => some (!ltI j i)
    | _, _ => none
  | .ge => match x, y with
    | .int i, .int j => some (!ltI i j)
    | _, _ => none
  | .inn => match dctAt η y with
   | some kvs => if tupKey x then some (dLook x kvs).isSome else none
   | none => match seqAt η y with
    | some ys => if x.ok && datas ys 59 then some (memD x ys) else none
    | none => none
  | .nin => match dctAt η y with
   | some kvs => if tupKey x then some (dLook x kvs).isNone else none
   | none => match seqAt η y with
    | some ys => if x.ok && datas ys 59 then some (!memD x ys) else none
    | none => none

/-! ### built-in functions -/
def intsO : List D → Option (List Int)
  | [] => some []
  | .int i :: r => (intsO r).map (i :: ·)
  | _ => none
def sumI : List Int → Int → Int
  | [], a => a
  | i :: r, a => forceI (a + i) fun a => sumI r a
def alls : List D → Option Bool
  | [] => some true
  | .bl b :: r => (alls r).map (b && ·)
  | _ => none
def anys : List D → Option Bool
  | [] => some false
  | .bl b :: r => (anys r).map (b || ·)
  | _ => none
/-- the first of the least, of the greatest -/
def minDs : D → List D → D
  | b, [] => b
  | b, x :: r => minDs (if ltD x b then x else b) r
def maxDs : D → List D → D
  | b, [] => b
  | b, x :: r => maxDs (if ltD b x then x else b) r
def insL (x : D) : List D → List D
  | [] => [x]
  | y :: r => if ltD y x then y :: insL x r else x :: y :: r
def isort : List D → List D
  | [] => []
  | x :: r => insL x (isort r)
mutual
/-- a kind that d has -/
def kdOf : D → Kd
  | .bl _ => .bl
  | .int _ => .int
  | .str _ => .str
  | .tup (x :: xs) => if fitAll (kdOf x) xs then .of (kdOf x) else .tup (kdOf x :: kdsOf xs)
  | .tup [] => .of .int
  | _ => .int
def kdsOf : List D → List Kd
  | [] => []
  | x :: xs => kdOf x :: kdsOf xs
end
def firstFit : List D → List D → Bool
  | _, [] => false
  | all, x :: r => fitAll (kdOf x) all || firstFit all r
/-- whether these may be sorted: all of one kind, no empty tuples -/
def noEmpty : List D → Bool
  | [] => true
  | .tup [] :: _ => false
  | _ :: r => noEmpty r
def canSort (xs : List D) : Bool := noEmpty xs && datas xs 57 && (match xs with
  | [] => true
  | xs => firstFit xs xs)
def isortO (xs : List D) : Option (List D) := if canSort xs then some (isort xs) else none
/-- sorted, each once -/
def insU (x : Int) : List Int → List Int
  | [] => [x]
  | y :: r => if ltI x y then x :: y :: r else if eqI x y then y :: r else y :: insU x r
def sortU : List Int → List Int
  | [] => []
  | x :: r => insU x (sortU r)
/-- tuples of as many ints, each in 0 .. 2^30 - 1: sets of them, sorted by their codes -/
def tupsO : List D → Option (List (List Int))
  | [] => some []
  | .tup xs :: r => match intsO xs with
    | some is => (tupsO r).map (is :: ·)
    | none => none
  | _ => none
def inB : Int → Bool
  | .ofNat n => Nat.blt n 1073741824
  | _ => false
def allB' : List Int → Bool
  | [] => true
  | i :: r => inB i && allB' r
def okT (d : Nat) : List (List Int) → Bool
  | [] => true
  | is :: r => Nat.beq is.length d && (allB' is && okT d r)
def okTs : List (List Int) → Bool
  | (z :: zs) :: r => okT (zs.length + 1) ((z :: zs) :: r)
  | _ => false
def lenT : List (List Int) → Nat
  | is :: _ => is.length
  | [] => 0
def codeI : List Int → Int
  | [] => 0
  | x :: r => x * (1073741824 : Int) ^ r.length + codeI r
def codes : List (List Int) → List Int
  | [] => []
  | x :: r => forceI (codeI x) fun c => c :: codes r
def decD : Nat → Int → List D
  | 0, _ => []
  | d + 1, c => forceI (c / (1073741824 : Int) ^ d) fun q => forceI (c % (1073741824 : Int) ^ d) fun m => .int q :: decD d m
def setT (ts : List (List Int)) : List D := (sortU (codes ts)).map fun c => .tup (decD (lenT ts) c)
def canBest (xs : List D) : Bool := datas xs 59 && firstFit xs xs
def rngL : Nat → Int → Int → List D
  | 0, _, _ => []
  | n + 1, i, st => forceI i fun i => .int i :: rngL n (i + st) st
def maxI : List Int → Int → Int
  | [], a => a
  | i :: r, a => maxI r (if ltI a i then i else a)
def minI : List Int → Int → Int
  | [], a => a
  | i :: r, a => minI r (if ltI i a then i else a)
def rng3n (i j c : Int) : Nat := match ltI i j with
  | true => ((j - i - 1) / c + 1).toNat
  | false => 0
def rngItems : List D → Option (List D)
  | [.int j] => if Nat.blt j.natAbs 16777216 then some (rngL j.toNat 0 1) else none
  | [.int i, .int j] => if Nat.blt i.natAbs 4611686018427387904 && Nat.blt j.natAbs 4611686018427387904 && Nat.blt (j - i).natAbs 16777216 then some (rngL (j - i).toNat i 1) else none
  | [.int i, .int j, .int c] => if Nat.blt i.natAbs 1073741824 && Nat.blt j.natAbs 1073741824 && ltI 0 c && Nat.blt c.natAbs 1073741824 then some (rngL (rng3n i j c) i c) else none
  | _ => none
/-- n over k by the product -/
def chooseF : Nat → Nat → Nat → Nat → Nat
  | 0, _, _, a => a
  | f + 1, n, i, a => chooseF f n (i + 1) (a * (n - i) / (i + 1))
def choose (n k : Nat) : Nat := if Nat.ble k n then chooseF (min k (n - k)) n 0 1 else 0
/-- of one make: intsO, texts, bools, tuples of such place by place -/
def bi (c : Bool) (f : Bi) (xs : List D) (η : Hs) : Pr := match f, xs with
  | .abs, [.int i] => oki (Int.ofNat i.natAbs) η
  | .all, [x] => match lstAt η x with
    | some ys => match alls ys with
      | some b => .ok (.bl b) η
      | none => .bad
    | none => .bad
  | .any, [x] => match lstAt η x with
    | some ys => match anys ys with
      | some b => .ok (.bl b) η
      | none => .bad
    | none => .bad
  | .int, [.int i] => .ok (.int i) η
  | .int, [.bl b] => .ok (.int (b2i b)) η
  | .bool, [.bl b] => .ok (.bl b) η
  | .len, [.str s] => if Nat.ble s.length sizeMax then .ok (.int (.ofNat s.length)) η else .bad
  | .len, [x] => match seqAt η x with
    | some ys => oki (.ofNat ys.length) η
    | none => .bad
  | .list, [x] => match seqAt η x with
    | some ys => mkL c ys η
    | none => .bad
  | .tuple, [x] => match seqAt η x with
    | some ys => .ok (.tup ys) η
    | none => .bad
  | .sum, [x] => match seqAt η x with
    | some ys => match intsO ys with
      | some is => oki (sumI is 0) η
      | none => .bad
    | none => .bad
  | .max, [x] => match seqAt η x with
    | some (y :: ys) => if canBest (y :: ys) then .ok (maxDs y ys) η else .bad
    | _ => .bad
  | .min, [x] => match seqAt η x with
    | some (y :: ys) => if canBest (y :: ys) then .ok (minDs y ys) η else .bad
    | _ => .bad
  | .max, [.int i, .int j] => .ok (.int (if ltI i j then j else i)) η
  | .min, [.int i, .int j] => .ok (.int (if ltI j i then j else i)) η
  | .max, [.int i, .int j, .int k, .int l] => .ok (.int (maxI [j, k, l] i)) η
  | .min, [.int i, .int j, .int k, .int l] => .ok (.int (minI [j, k, l] i)) η
  | .max, [.int i, .int j, .int k] => .ok (.int (if ltI i j then (if ltI j k then k else j) else (if ltI i k then k else i))) η
  | .min, [.int i, .int j, .int k] => .ok (.int (if ltI j i then (if ltI k j then k else j) else (if ltI k i then k else i))) η
  | .sorted, [x] => match seqAt η x with
    | some ys => match isortO ys with
      | some zs => mkL c zs η
      | none => .bad
    | none => .bad
  | .sset, [x] => match seqAt η x with
    | some ys => match intsO ys with
      | some is => if Nat.blt ys.length 64 then mkL c ((sortU is).map .int) η else .bad
      | none => match lstAt η x, tupsO ys with
        | some _, some ts => if Nat.blt ts.length 64 && okTs ts then mkL c (setT ts) η else .bad
        | _, _ => .bad
    | none => .bad
  | .rngT, xs => match rngItems xs with
    | some ys => .ok (.tup ys) η
    | none => .bad
  | .rngL, xs => match rngItems xs with
    | some ys => mkL c ys η
    | none => .bad
  | .comb, [.int (.ofNat n), .int (.ofNat k)] => oki (.ofNat (choose n k)) η
  | .gcd, [.int i, .int j] => oki (.ofNat (Nat.gcd i.natAbs j.natAbs)) η
  | _, _ => .bad

def findD (x : D) : List D → Nat → Option Nat
  | [], _ => none
  | y :: ys, k => if eqD y x then some k else findD x ys (k + 1)
def countD (x : D) : List D → Nat
  | [] => 0
  | y :: ys => if eqD y x then countD x ys + 1 else countD x ys
def mt (c : Bool) (m : Mt) (o : D) (xs : List D) (η : Hs) : Pr := match m, o, xs with
  | .append, .loc l, [x] => match η[l]? with
    | some (.lst ys) => if x.noLoc && Nat.blt ys.length sizeMax then .ok .non (η.set l (.lst (ys ++ [x]))) else (match x with
      | .loc j => if Nat.blt ys.length sizeMax then .ok .non (η.set l (.lsl ys j)) else .bad
      | _ => .bad)
    | _ => .bad
  | .extend, .loc l, [x] => match η[l]?, lstAt η x with
    | some (.lst ys), some zs => if Nat.ble (ys.length + zs.length) sizeMax then .ok .non (η.set l (.lst (ys ++ zs))) else .bad
    | _, _ => .bad
  | .pop, .loc l, [] => match η[l]? with
    | some (.lst ys) => match ys.getLast? with
      | some y => .ok y (η.set l (.lst ys.dropLast))
      | none => .bad
    | _ => .bad
  | .index, o, [x] => match seqAt η o with
    | some ys => if x.ok && datas ys 59 then (match findD x ys 0 with
      | some k => oki (.ofNat k) η
      | none => .bad) else .bad
    | none => .bad
  | .count, o, [x] => match seqAt η o with
    | some ys => if x.ok && datas ys 59 then oki (.ofNat (countD x ys)) η else .bad
    | none => .bad
  | _, _, _ => .bad

/-- whether it may be asked that of o -/
def recv (m : Mt) (η : Hs) (o : D) : Bool := match o with
  | .tup _ => (match m with
    | .index => true
    | .count => true
    | _ => false)
  | .lst _ => true
  | .loc i => (match η[i]? with
    | some (.lst _) => true
    | _ => false)
  | _ => false

/-- which built-in classes a value is of; exc: by the table -/
def isTy (eb : Nat → Ty → Bool) : D → Ty → Bool
  | .int _, .int => true
  | .bl _, .int => true
  | .bl _, .bool => true
  | .str _, .str => true
  | .tup _, .tuple => true
  | .lst _, .list => true
  | .loc _, .list => true
  | .exc g _, t => eb g t
  | _, _ => false
def isAny (eb : Nat → Ty → Bool) (d : D) : List Ty → Bool
  | [] => false
  | t :: ts => isTy eb d t || isAny eb d ts

/-- of which a class may be asked -/
def isiOk (η : Hs) : D → Bool
  | .loc i => (match η[i]? with
    | some (.lst _) => true
    | _ => false)
  | .fn _ => false
  | _ => true

/-! ### loops -/
def zipD : List D → List D → List D
  | x :: xs, y :: ys => .tup [x, y] :: zipD xs ys
  | _, _ => []
def enumD : Nat → List D → List D
  | _, [] => []
  | n, x :: xs => .tup [.int (.ofNat n), x] :: enumD (n + 1) xs
/-- two that are zipped: lists, tuples -/
def two (η : Hs) (x y : D) : Option (List D × List D) := match seqAt η x, seqAt η y with
  | some xs, some ys => some (xs, ys)
  | _, _ => none
/-- what is walked -/
def walk (η : Hs) : D → Option (List D)
  | .tup xs => some xs
  | d => lstAt η d
mutual
def same : D → D → Bool
  | .non, .non => true
  | .bl a, .bl b => a == b
  | .int i, .int j => eqI i j
  | .str x, .str y => eqStr x y
  | .lst xs, .lst ys => sames xs ys
  | .tup xs, .tup ys => sames xs ys
  | .loc i, .loc j => Nat.beq i j
  | .fn i, .fn j => Nat.beq i j
  | _, _ => false
def sames : List D → List D → Bool
  | [], [] => true
  | x :: xs, y :: ys => same x y && sames xs ys
  | _, _ => false
end
/-- an own list that is walked must stay as it was -/
abbrev Guard := List (Nat × List D)
def guardOf (η : Hs) : D → Guard
  | .loc i => match η[i]? with
    | some (.lst xs) => [(i, xs)]
    | _ => []
  | _ => []
def chk : Guard → Hs → Bool
  | [], _ => true
  | g :: r, η => (match η[g.1]? with
    | some (.lst xs) => sames xs g.2
    | _ => false) && chk r η

def cloop (g : Guard) (asg : D → Hs → R Env) (test : Env → Hs → R Bool) (elt : Env → Hs → R D) : List D → Hs → List D → R (List D)
  | [], η, acc => match chk g η with
    | true => .ok acc.reverse η
    | false => .bad
  | x :: xs, η, acc => match chk g η with
    | true => (asg x η).bind fun env η => (test env η).bind fun b η => match b with
      | true => (elt env η).bind fun d η => match d.noLoc && Nat.blt acc.length sizeMax with
        | true => cloop g asg test elt xs η (d :: acc)
        | false => .bad
      | false => cloop g asg test elt xs η acc
    | false => .bad

/-- the outer loop of two: acc is handed on backward -/
def cloop2 (g : Guard) (asg : D → Hs → R Env) (it2 : Env → Hs → R (List D × Guard)) (inner : Env → List D × Guard → Hs → List D → R (List D)) : List D → Hs → List D → R (List D)
  | [], η, acc => match chk g η with
    | true => .ok acc.reverse η
    | false => .bad
  | x :: xs, η, acc => match chk g η with
    | true => (asg x η).bind fun env η => (it2 env η).bind fun ys η => (inner env ys η acc).bind fun ds η => cloop2 g asg it2 inner xs η ds.reverse
    | false => .bad

inductive F where
  | nx (env : Env) | rt (d : D) | bk (env : Env) | ct (env : Env)

def wloop (c : Env → Hs → R Bool) (b : Env → Hs → R F) : Nat → Env → Hs → R F
  | 0, _, _ => .bad
  | n + 1, env, η => (c env η).bind fun t η => match t with
    | true => (b env η).bind fun f η => match f with
      | .nx env => wloop c b n env η
      | .ct env => wloop c b n env η
      | .bk env => .ok (.nx env) η
      | .rt d => .ok (.rt d) η
    | false => .ok (.nx env) η
def floop (g : Guard) (asg : D → Env → Hs → R Env) (b : Env → Hs → R F) : List D → Env → Hs → R F
  | [], env, η => match chk g η with
    | true => .ok (.nx env) η
    | false => .bad
  | x :: xs, env, η => match chk g η with
    | true => (asg x env η).bind fun env η => (b env η).bind fun f η => match f with
      | .nx env => floop g asg b xs env η
      | .ct env => floop g asg b xs env η
      | .bk env => .ok (.nx env) η
      | .rt d => .ok (.rt d) η
    | false => .bad

def wipe (env : Env) : List Nat → Env
  | [] => env
  | v :: vs => (wipe env vs).set v none

structure Cx where
  call : Nat → List D → Hs → R D
  glo : List D
  eb : Nat → Ty → Bool
  W : Nat

def noneLoc : List D → Bool
  | [] => true
  | x :: xs => x.noLoc && noneLoc xs

def permute {α : Type} : List Nat → List α → Option (List α)
  | [], _ => some []
  | i :: is, xs => match xs[i]?, permute is xs with
    | some x, some ys => some (x :: ys)
    | _, _ => none
variable (X : Cx)
mutual
def evE : E → Env → Hs → R D
  | .var i, env, η => match env[i]? with
    | some (some d) => .ok d η
    | _ => .bad
  | .glo k, _, η => match X.glo[k]? with
    | some d => .ok d η
    | none => .bad
  | .int i, _, η => .ok (.int i) η
  | .bl b, _, η => .ok (.bl b) η
  | .non, _, η => .ok .non η
  | .str s, _, η => .ok (.str s) η
  | .bin c o a b, env, η => (evE a env η).bind fun x η => (evE b env η).bind fun y η => (binop c o x y η).r
  | .neg a, env, η => (evE a env η).bind fun x η => match x with
    | .int i => (oki (-i) η).r
    | _ => .bad
  | .notE a, env, η => (evE a env η).bind fun x η => match tru η x with
    | some b => .ok (.bl (!b)) η
    | none => .bad
  | .cmp o a b, env, η => (evE a env η).bind fun x η => (evE b env η).bind fun y η => match cmpop o x y η with
    | some t => .ok (.bl t) η
    | none => .bad
  | .chn o p a b d, env, η => (evE a env η).bind fun x η => (evE b env η).bind fun y η => match cmpop o x y η with
    | some true => (evE d env η).bind fun z η => match cmpop p y z η with
      | some t => .ok (.bl t) η
      | none => .bad
    | some false => .ok (.bl false) η
    | none => .bad
  | .isN a, env, η => (evE a env η).bind fun x η => match x with
    | .non => .ok (.bl true) η
    | _ => .ok (.bl false) η
  | .notN a, env, η => (evE a env η).bind fun x η => match x with
    | .non => .ok (.bl false) η
    | _ => .ok (.bl true) η
  | .and es, env, η => evAnd es env η
  | .or es, env, η => evOr es env η
  | .ifx t a b, env, η => (evE t env η).bind fun x η => match tru η x with
    | some true => evE a env η
    | some false => evE b env η
    | none => .bad
  | .tup es, env, η => (evEs es env η).bind fun xs η => if noneLoc xs && Nat.ble xs.length sizeMax then .ok (.tup xs) η else .bad
  | .lst c es, env, η => (evEs es env η).bind fun xs η => if noneLoc xs && Nat.ble xs.length sizeMax then (mkL c xs η).r else .bad
  | .ix a b, env, η => (evE a env η).bind fun x η => (evE b env η).bind fun y η => (getIx η x y).r
  | .sl c a lo hi, env, η => (evE a env η).bind fun x η => (evE lo env η).bind fun l η => match part lo.isAbs l with
    | none => .bad
    | some l => (evE hi env η).bind fun h η => match part hi.isAbs h with
      | none => .bad
      | some h => (slice c x l h η).r
  | .rev c a, env, η => (evE a env η).bind fun x η => match x with
    | .tup xs => .ok (.tup xs.reverse) η
    | x => match lstAt η x with
      | some xs => (mkL c xs.reverse η).r
      | none => .bad
  | .absent, _, η => .ok .non η
  | .call g es, env, η => (evEs es env η).bind fun xs η => X.call g xs η
  | .callv f es, env, η => (evE f env η).bind fun d η => match d with
    | .fn g => (evEs es env η).bind fun xs η => X.call g xs η
    | _ => .bad
  | .bi c f es, env, η => (evEs es env η).bind fun xs η => (bi c f xs η).r
  | .mt c m o es, env, η => (evE o env η).bind fun d η => match recv m η d with
    | true => (evEs es env η).bind fun xs η => (mt c m d xs η).r
    | false => .bad
  | .isi a ts, env, η => (evE a env η).bind fun x η => match isiOk η x with
    | true => .ok (.bl (isAny X.eb x ts)) η
    | false => .bad
  | .comp c elt tg own it ifs, env, η => (evIt it env η).bind fun xs η =>
      (cloop xs.2 (fun x η => (asT tg x (wipe env own) η).calm) (fun env η => (evIfs ifs env η).calm) (fun env η => (evE elt env η).calm) xs.1 η []).bind fun ds η =>
        (mkL c ds η).r
  | .comp2 c elt tg own it tg2 own2 it2 ifs, env, η => (evIt it env η).bind fun xs η =>
      (cloop2 xs.2 (fun x η => (asT tg x (wipe env (own ++ own2)) η).calm) (fun env η => (evIt it2 env η).calm) (fun env ys η acc => cloop ys.2 (fun y η => (asT tg2 y (wipe env own2) η).calm) (fun env η => (evIfs ifs env η).calm) (fun env η => (evE elt env η).calm) ys.1 η acc) xs.1 η []).bind fun ds η =>
        (mkL c ds η).r
  | .dct, _, η => .ok (.loc η.length) (η ++ [.dct []])
  | .fld a f, env, η => (evE a env η).bind fun x η => match x with
    | .exc _ xs => match xs[f]? with
      | some d => .ok d η
      | none => .bad
    | _ => .bad
  | .att c a f, env, η => (evE a env η).bind fun x η => match x with
    | .loc i => match η[i]? with
      | some (.obj c' fs) => match Nat.beq c c' with
        | true => match fLook f fs with
          | some d => .ok d η
          | none => .bad
        | false => .bad
      | _ => .bad
    | _ => .bad
  | .newO c g es, env, η => (evEs es env η).bind fun xs η => (X.call g (.loc η.length :: xs) (η ++ [.obj c []])).bind fun d η' => match d with
    | .non => .ok (.loc η.length) η'
    | _ => .bad
  | .meth c g o es, env, η => (evE o env η).bind fun x η => match x with
    | .loc i => match η[i]? with
      | some (.obj c' _) => if Nat.beq c c' then (evEs es env η).bind fun xs η => X.call g (.loc i :: xs) η else .bad
      | _ => .bad
    | _ => .bad
  | .callk g perm es, env, η => (evEs es env η).bind fun xs η => match permute perm xs with
    | some ys => X.call g ys η
    | none => .bad
  | .never, _, _ => .bad
def evAnd : Es → Env → Hs → R D
  | .nil, _, _ => .bad
  | .cons e .nil, env, η => evE e env η
  | .cons e r, env, η => (evE e env η).bind fun x η => match tru η x with
    | some true => evAnd r env η
    | some false => .ok x η
    | none => .bad
  | .star _ _, _, _ => .bad
def evOr : Es → Env → Hs → R D
  | .nil, _, _ => .bad
  | .cons e .nil, env, η => evE e env η
  | .cons e r, env, η => (evE e env η).bind fun x η => match tru η x with
    | some true => .ok x η
    | some false => evOr r env η
    | none => .bad
  | .star _ _, _, _ => .bad
def evEs : Es → Env → Hs → R (List D)
  | .nil, _, η => .ok [] η
  | .cons e r, env, η => (evE e env η).bind fun x η => (evEs r env η).bind fun xs η => .ok (x :: xs) η
  | .star e r, env, η => (evE e env η).bind fun x η => match seqAt η x with
    | some ys => (evEs r env η).bind fun xs η => .ok (ys ++ xs) η
    | none => .bad
def evIfs : Es → Env → Hs → R Bool
  | .nil, _, η => .ok true η
  | .cons e .nil, env, η => (evE e env η).bind fun x η => match tru η x with
    | some b => .ok b η
    | none => .bad
  | _, _, _ => .bad
def evIt : It → Env → Hs → R (List D × Guard)
  | .of e, env, η => (evE e env η).bind fun x η => match walk η x with
    | some xs => .ok (xs, guardOf η x) η
    | none => .bad
  | .rng es, env, η => (evEs es env η).bind fun xs η => match rngItems xs with
    | some ys => .ok (ys, []) η
    | none => .bad
  | .zip a b, env, η => (evE a env η).bind fun x η => (evE b env η).bind fun y η => match two η x y with
    | some p => .ok (zipD p.1 p.2, guardOf η x ++ guardOf η y) η
    | none => .bad
  | .enum a, env, η => (evE a env η).bind fun x η => match seqAt η x with
    | some xs => .ok (enumD 0 xs, guardOf η x) η
    | none => .bad
/-- a target takes a value -/
def asT : T → D → Env → Hs → R Env
  | .name i, d, env, η => .ok (env.set i (some d)) η
  | .tup ts, d, env, η => match d with
    | .tup xs => (match Nat.beq xs.length ts.len with
      | true => asTs ts xs env η
      | false => .bad)
    | _ => .bad
  | .sub o i, d, env, η => (evE o env η).bind fun x η => (evE i env η).bind fun y η => match setIx η x y d with
    | some η => .ok env η
    | none => .bad
  | .fld c o f, d, env, η => (evE o env η).bind fun x η => match setFld η c x f d with
    | some η => .ok env η
    | none => .bad
def asTs : Ts → List D → Env → Hs → R Env
  | .nil, [], env, η => .ok env η
  | .cons t r, x :: xs, env, η => (asT t x env η).bind fun env η => asTs r xs env η
  | _, _, _, _ => .bad
end

/-- n op= k of ints -/
def augI (o : Op2) (x : Int) (y : D) : Option Int := match o, y with
  | .add, .int y => some (x + y)
  | .sub, .int y => some (x - y)
  | .mul, .int y => if small64 x || small64 y then some (x * y) else none
  | _, _ => none
def setAll : List Nat → List D → Env → Option Env
  | [], [], env => some env
  | i :: is, d :: ds, env => setAll is ds (env.set i (some d))
  | _, _, _ => none
/-- a name's own list is frozen: its place is dead from now on -/
def freeze (i : Nat) (env : Env) (η : Hs) : Option (Env × Hs) := match env[i]? with
  | some (some (.loc l)) => match η[l]? with
    | some (.lst xs) => some (env.set i (some (.lst xs)), η.set l .dead)
    | _ => none
  | some (some _) => some (env, η)
  | _ => none
/-- the last item, an own list, is frozen -/
def freezeL (i : Nat) (env : Env) (η : Hs) : Option Hs := match env[i]? with
  | some (some (.loc l)) => match η[l]? with
    | some (.lsl xs j) => match η[j]? with
      | some (.lst ys) => some ((η.set j .dead).set l (.lst (xs ++ [.lst ys])))
      | _ => none
    | _ => none
  | _ => none
def noExc : Env → Bool
  | [] => true
  | some (.exc _ _) :: _ => false
  | _ :: r => noExc r

mutual
def evS : S → Env → Hs → R F
  | .asg t e, env, η => (evE X e env η).bind fun d η => (asT X t d env η).bind fun env η => .ok (.nx env) η
  | .par ts es, env, η => (evEs X es env η).bind fun ds η => match Nat.beq ds.length ts.len && Nat.ble ts.len 1000 with
    | true => (asTs X ts ds env η).bind fun env η => .ok (.nx env) η
    | false => .bad
  | .swp is es, env, η => (evEs X es env η).bind fun ds η => match setAll is ds env with
    | some env => .ok (.nx env) η
    | none => .bad
  | .aug i o e, env, η => match env[i]? with
    | some (some (.int x)) => (evE X e env η).bind fun y η => match augI o x y with
      | some z => forceI z fun z => .ok (.nx (env.set i (some (.int z)))) η
      | none => .bad
    | _ => .bad
  | .expr e, env, η => (evE X e env η).bind fun _ η => .ok (.nx env) η
  | .ret e, env, η => (evE X e env η).bind fun d η => .ok (.rt d) η
  | .retN, _, η => .ok (.rt .non) η
  | .ite c a b, env, η => (evE X c env η).bind fun x η => match tru η x with
    | some true => evSs a env η
    | some false => evSs b env η
    | none => .bad
  | .whl c b, env, η => wloop (fun env η => (evE X c env η).bind fun x η => match tru η x with
    | some t => .ok t η
    | none => .bad) (fun env η => evSs b env η) X.W env η
  | .for t it b, env, η => (evIt X it env η).bind fun xs η => floop xs.2 (fun d env η => asT X t d env η) (fun env η => evSs b env η) xs.1 env η
  | .raise g es, env, η => (evEs X es env η).bind fun xs η => match noneLoc xs with
    | true => .ex (.exc g xs) η
    | false => .bad
  | .tryE B b hs, env, η => match evSs b env η with
    | .ok f η => .ok f η
    | .bad => .bad
    | .ex x η => evHd hs x (wipe env B) η
  | .pass, env, η => .ok (.nx env) η
  | .brk, env, η => .ok (.bk env) η
  | .cont, env, η => .ok (.ct env) η
  | .never, _, _ => .bad
def evSs : Ss → Env → Hs → R F
  | .nil, env, η => .ok (.nx env) η
  | .cons s r, env, η => (evS s env η).bind fun f η => match f with
    | .nx env => evSs r env η
    | f => .ok f η
  | .frz i r, env, η => match freeze i env η with
    | some (env, η) => evSs r env η
    | none => .bad
  | .frzL i r, env, η => match freezeL i env η with
    | some η => evSs r env η
    | none => .bad
def evHd : Hd → D → Env → Hs → R F
  | .nil, x, _, η => .ex x η
  | .cons g slot b r, x, env, η => match x with
    | .exc g' _ => match X.eb g' .other with
      | true => (match Nat.beq g g' with
        | true => (match slot with
          | some i => (evSs b (env.set i (some x)) η).calm.bind fun f η => match f with
            | .nx env => (match noExc (env.set i none) with
              | true => .ok (.nx (env.set i none)) η
              | false => .bad)
            | .rt d => (match d.noLoc with
              | true => .ok (.rt d) η
              | false => .bad)
            | _ => .bad
          | none => (evSs b env η).calm.bind fun f η => match f with
            | .nx env => (match noExc env with
              | true => .ok (.nx env) η
              | false => .bad)
            | .rt d => (match d.noLoc with
              | true => .ok (.rt d) η
              | false => .bad)
            | _ => .bad)
        | false => evHd r x env η)
      | false => .bad
    | _ => .bad
end

/-! ### functions -/
def plainCells : Nat → Hs → Bool
  | 0, _ => true
  | n + 1, .lst _ :: r => plainCells n r
  | n + 1, .dct _ :: r => plainCells n r
  | n + 1, .dead :: r => plainCells n r
  | _, _ => false
def fin (rc : Bool) (n : Nat) (d : D) (η : Hs) : R D :=
  if Nat.beq η.length n then .ok d η
  else if plainCells n η then (match d with
    | .loc i => if Nat.blt i n then .ok d (η.take n) else (match η[i]? with
      | some (.lst xs) => (mkL rc xs (η.take n)).r
      | _ => .ok d η)
    | d => .ok d (η.take n))
  else .ok d η

def start (f : Fn) (xs : List D) : Env := xs.map some ++ List.replicate (f.ns - f.np) none
/-- a body's end is the call's -/
def callEnd (rc : Bool) (η : Hs) : R F → R D
  | .ok (.rt d) η' => fin rc η.length d η'
  | .ok (.nx _) η' => fin rc η.length .non η'
  | .ok _ _ => .bad
  | .ex x η' => if plainCells η.length η' then .ex x (η'.take η.length) else .ex x η'
  | .bad => .bad
def callN (P : List Fn) (glo : List D) (eb : Nat → Ty → Bool) (W : Nat) : Nat → Nat → List D → Hs → R D
  | 0, _, _, _ => .bad
  | n + 1, g, xs, η => match P[g]? with
    | none => .bad
    | some f => match Nat.beq xs.length f.np with
      | true => callEnd f.rc η (evSs ⟨callN P glo eb W n, glo, eb, W⟩ f.body (start f xs) η)
      | false => .bad
end Ip
namespace Ip
open PySem PySem.Spec PyProof.Rows L2

/-! ### worlds -/
/-- what is fixed: the written part, where functions and classes stand, the field that an error class keeps, the attributes' names, the error that is handled -/
structure Gx where
  K : PySem.W.Frag
  fa : Nat → Addr
  ca : Nat → Addr
  xf : Nat → Str
  fnm : Nat → Str
  hs : NestedKey → Int
  pso : Nat → List Str
  cur : Option (Addr × Value × Option Addr)

structure Wd where
  mp : Nat → Addr
  η : Hs
  H : Hp
  gh : Addr → Prop

def Cell.Dead : Cell → Prop
  | .dead => True
  | _ => False
/-- an own place stands at a -/
def Wd.At (w : Wd) (a : Addr) : Prop := ∃ i c, w.η[i]? = some c ∧ ¬ c.Dead ∧ w.mp i = a
def Wd.Live (w : Wd) (a : Addr) : Prop := w.At a ∨ w.gh a

def KTup (K : PySem.W.Frag) (a : Addr) (xs : List V) : Prop := ∃ (o : Obj) (its : Array Value) (n : Nat), K.lookup a = some o ∧ o.cls = .type "tuple" ∧ o.dict = none ∧ o.data = .seq its n ∧ its.size ≤ sizeLine ∧ Vals xs its.toList
def TupAt (K : PySem.W.Frag) (w : Wd) (a : Addr) (vs : List V) : Prop := (∃ o, w.H a = some (.frz o (.tup vs)) ∧ o.dict = none ∧ ¬ w.Live a) ∨ KTup K a vs
def LstAt (w : Wd) (a : Addr) (vs : List V) : Prop := (w.H a = some (.lst vs) ∨ ∃ o, w.H a = some (.frz o (.lst vs))) ∧ ¬ w.Live a

mutual
/-- plain data -/
inductive RP (G : Gx) (w : Wd) : D → V → Prop where
  | non : RP G w .non .non
  | bl (b : Bool) : RP G w (.bl b) (.bl b)
  | int (i : Int) : RP G w (.int i) (.int i)
  | str (s : Str) : RP G w (.str s) (.str s)
  | fn (g : Nat) : RP G w (.fn g) (.ref (G.fa g))
  | tup {a : Addr} {xs : List D} {vs : List V} : TupAt G.K w a vs → RPs G w xs vs → RP G w (.tup xs) (.ref a)
  | lst {a : Addr} {xs : List D} {vs : List V} : LstAt w a vs → RPs G w xs vs → RP G w (.lst xs) (.ref a)
inductive RPs (G : Gx) (w : Wd) : List D → List V → Prop where
  | nil : RPs G w [] []
  | cons {d : D} {v : V} {xs : List D} {vs : List V} : RP G w d v → RPs G w xs vs → RPs G w (d :: xs) (v :: vs)
end
/-- an error's class and dict, by what it keeps -/
def ExcK (G : Gx) (w : Wd) (g : Nat) (xs : List D) (cls : Value) (dd : Option Addr) : Prop :=
  cls = .ref (G.ca g) ∧ ((xs = [] ∧ dd = none) ∨ ∃ x da vx, xs = [x] ∧ dd = some da ∧ w.H da = some (.xd [(G.xf g, vx)]) ∧ ¬ w.Live da ∧ RP G w x vx)
def RV (G : Gx) (w : Wd) (d : D) (v : V) : Prop :=
  RP G w d v ∨ (∃ i, d = .loc i ∧ i < w.η.length ∧ v = .ref (w.mp i)) ∨ ∃ g xs a cls dd, d = .exc g xs ∧ G.cur = some (a, cls, dd) ∧ v = .ref a ∧ ExcK G w g xs cls dd
def RVs (G : Gx) (w : Wd) : List D → List V → Prop
  | [], [] => True
  | d :: ds, v :: vs => RV G w d v ∧ RVs G w ds vs
  | _, _ => False
/-- attributes -/
def FsR (G : Gx) (w : Wd) : List (Nat × D) → List (Str × V) → Prop
  | [], [] => True
  | p :: r, q :: s => q.1 = G.fnm p.1 ∧ (RV G w p.2 q.2 ∧ p.2.isExc = false) ∧ FsR G w r s
  | _, _ => False
/-! a key as the library tells it -/
mutual
def nkOf : D → NestedKey
  | .bl b => .num (b2i b)
  | .int i => .num i
  | .str s => .text s
  | .tup xs => .tup (nkOfs xs)
  | _ => .none
def nkOfs : List D → List NestedKey
  | [] => []
  | x :: xs => nkOf x :: nkOfs xs
end
/-- a dict's entries -/
def KDs (G : Gx) (w : Wd) : List (D × D) → List (NestedKey × Addr × Value) → Prop
  | [], [] => True
  | p :: r, q :: s => (q.1 = nkOf p.1 ∧ tupKey p.1 = true ∧ RP G w p.1 (.ref q.2.1)) ∧ (∃ v, RelV v q.2.2 ∧ RP G w p.2 v) ∧ KDs G w r s
  | _, _ => False
structure DctO (hs : NestedKey → Int) (o : Obj) (xs : List (NestedKey × Addr × Value)) : Prop where
  ex : o.ExactDict
  dat : ∃ es ep, o.data = .dict es ep ∧ es.toList = xs.map fun x => ⟨hs x.1, .ref x.2.1, x.2.2⟩
  nd : (xs.map (·.1)).Nodup
def CellOk (G : Gx) (w : Wd) (a : Addr) : Cell → Prop
  | .lst xs => ∃ vs, w.H a = some (.lst vs) ∧ RPs G w xs vs
  | .dct kvs => ∃ o xs, w.H a = some (.ext fun h => h.get? a = some o) ∧ (a == sysModules) = false ∧ DctO G.hs o xs ∧ KDs G w kvs xs
  | .obj c fs => ∃ dx vs, w.H a = some (.ins (G.ca c) dx vs) ∧ FsR G w fs vs
  | .lsl xs j => ∃ vs, w.H a = some (.lst (vs ++ [.ref (w.mp j)])) ∧ RPs G w xs vs ∧ j < w.η.length
  | .dead => True
structure Rel (G : Gx) (w : Wd) : Prop where
  cell : ∀ i c, w.η[i]? = some c → CellOk G w (w.mp i) c
  inj : ∀ i j c d, w.η[i]? = some c → w.η[j]? = some d → ¬ c.Dead → ¬ d.Dead → w.mp i = w.mp j → i = j
  ngh : ∀ i c, w.η[i]? = some c → ¬ c.Dead → ¬ w.gh (w.mp i)
  ghs : ∀ a, w.gh a → ∃ o, w.H a = some o
structure Ext (w w' : Wd) : Prop where
  len : w.η.length ≤ w'.η.length
  mp : ∀ i, i < w.η.length → w'.mp i = w.mp i
  keep : ∀ a o, w.H a = some o → ¬ w.At a → w'.H a = some o
  live : ∀ a o, w.H a = some o → ¬ w.Live a → ¬ w'.Live a
  gh : w'.gh = w.gh

theorem Ext.refl (w : Wd) : Ext w w := ⟨Nat.le_refl _, fun _ _ => rfl, fun _ _ h _ => h, fun _ _ _ h => h, rfl⟩
theorem Wd.At.live {w : Wd} {a : Addr} (h : w.At a) : w.Live a := .inl h
theorem Rel.at_some {G : Gx} {w : Wd} (r : Rel G w) {a : Addr} (h : w.At a) : ∃ o, w.H a = some o := by
  obtain ⟨i, c, e, nd, rfl⟩ := h
  have q := r.cell i c e
  cases c with
  | lst xs => obtain ⟨vs, e, _⟩ := q; exact ⟨_, e⟩
  | dct kvs => obtain ⟨_, _, e, _⟩ := q; exact ⟨_, e⟩
  | obj c fs => obtain ⟨dx, vs, e, _⟩ := q; exact ⟨_, e⟩
  | lsl xs j => obtain ⟨vs, e, _⟩ := q; exact ⟨_, e⟩
  | dead => exact (nd trivial).elim
theorem Rel.live_some {G : Gx} {w : Wd} (r : Rel G w) {a : Addr} (h : w.Live a) : ∃ o, w.H a = some o := by
  rcases h with h | h
  · exact r.at_some h
  · exact r.ghs a h
theorem Ext.trans {G : Gx} {w w1 w2 : Wd} (r1 : Rel G w1) (a : Ext w w1) (b : Ext w1 w2) : Ext w w2 where
  len := Nat.le_trans a.len b.len
  mp := fun i h => (b.mp i (Nat.lt_of_lt_of_le h a.len)).trans (a.mp i h)
  keep := fun x o h n => by
    by_cases hl : w.gh x
    · refine b.keep x o (a.keep x o h n) fun ⟨i, c, e, nd, q⟩ => r1.ngh i c e nd ?_
      rw [q, a.gh]; exact hl
    · refine b.keep x o (a.keep x o h n) fun q => ?_
      exact a.live x o h (fun z => z.elim n hl) (.inl q)
  live := fun x o h n => b.live x o (a.keep x o h fun z => n (.inl z)) (a.live x o h n)
  gh := b.gh.trans a.gh

section
variable {G : Gx} {w w' w1 w2 : Wd}
theorem TupAt.mono {K : PySem.W.Frag} {a : Addr} {vs : List V} (e : Ext w w') (h : TupAt K w a vs) : TupAt K w' a vs := by
  rcases h with ⟨o, h, d, n⟩ | h
  · exact .inl ⟨o, e.keep _ _ h fun z => n (.inl z), d, e.live _ _ h n⟩
  · exact .inr h
theorem LstAt.mono {a : Addr} {vs : List V} (e : Ext w w') (h : LstAt w a vs) : LstAt w' a vs := by
  obtain ⟨h | ⟨o, h⟩, n⟩ := h
  · exact ⟨.inl (e.keep _ _ h fun z => n (.inl z)), e.live _ _ h n⟩
  · exact ⟨.inr ⟨o, e.keep _ _ h fun z => n (.inl z)⟩, e.live _ _ h n⟩
theorem TupAt.sq {K : PySem.W.Frag} {a : Addr} {vs : List V} (h : TupAt K w a vs) : SqT K w.H a vs := by
  rcases h with ⟨o, h, _⟩ | ⟨o, its, n, h1, h2, _, h3⟩
  · exact .inl (.inr ⟨o, h⟩)
  · exact .inr ⟨o, its, n, h1, h2, h3⟩
theorem LstAt.sq {K : PySem.W.Frag} {a : Addr} {vs : List V} (h : LstAt w a vs) : SqL K w.H a vs := by
  obtain ⟨h | ⟨o, h⟩, _⟩ := h
  · exact .inl (.inl h)
  · exact .inl (.inr ⟨o, h⟩)
mutual
theorem RP.mono (e : Ext w w') : ∀ {d : D} {v : V}, RP G w d v → RP G w' d v
  | _, _, .non => .non
  | _, _, .bl b => .bl b
  | _, _, .int i => .int i
  | _, _, .str i => .str i
  | _, _, .fn i => .fn i
  | _, _, .tup h r => .tup (h.mono e) (RPs.mono e r)
  | _, _, .lst h r => .lst (h.mono e) (RPs.mono e r)
theorem RPs.mono (e : Ext w w') : ∀ {d : List D} {v : List V}, RPs G w d v → RPs G w' d v
  | _, _, .nil => .nil
  | _, _, .cons h r => .cons (RP.mono e h) (RPs.mono e r)
end
theorem ExcK.mono {g : Nat} {xs : List D} {cls : Value} {dd : Option Addr} (e : Ext w w') (h : ExcK G w g xs cls dd) : ExcK G w' g xs cls dd := by
  obtain ⟨h, h' | ⟨x, da, vx, e1, e2, e3, e4, e5⟩⟩ := h
  · exact ⟨h, .inl h'⟩
  · exact ⟨h, .inr ⟨x, da, vx, e1, e2, e.keep _ _ e3 fun z => e4 (.inl z), e.live _ _ e3 e4, e5.mono e⟩⟩
theorem RV.mono {d : D} {v : V} (e : Ext w w') (h : RV G w d v) : RV G w' d v := by
  rcases h with h | ⟨i, e1, e2, e3⟩ | ⟨g, xs, a, cls, dd, e1, e2, e3, e4⟩
  · exact .inl (h.mono e)
  · exact .inr (.inl ⟨i, e1, Nat.lt_of_lt_of_le e2 e.len, by rw [e3, e.mp i e2]⟩)
  · exact .inr (.inr ⟨g, xs, a, cls, dd, e1, e2, e3, e4.mono e⟩)
theorem RVs.mono (e : Ext w w') : ∀ {ds : List D} {vs : List V}, RVs G w ds vs → RVs G w' ds vs
  | [], [], _ => trivial
  | _ :: _, _ :: _, ⟨a, b⟩ => ⟨a.mono e, RVs.mono e b⟩
theorem FsR.mono (e : Ext w w') : ∀ {ds : List (Nat × D)} {vs : List (Str × V)}, FsR G w ds vs → FsR G w' ds vs
  | [], [], _ => trivial
  | _ :: _, _ :: _, ⟨a, ⟨b, n⟩, c⟩ => ⟨a, ⟨b.mono e, n⟩, FsR.mono e c⟩
theorem KDs.mono (e : Ext w w') : ∀ {ds : List (D × D)} {vs : List (NestedKey × Addr × Value)}, KDs G w ds vs → KDs G w' ds vs
  | [], [], _ => trivial
  | _ :: _, _ :: _, ⟨⟨a, k, b⟩, ⟨v, r, n⟩, c⟩ => ⟨⟨a, k, b.mono e⟩, ⟨v, r, n.mono e⟩, KDs.mono e c⟩
theorem RPs.length : ∀ {ds : List D} {vs : List V}, RPs G w ds vs → ds.length = vs.length
  | _, _, .nil => rfl
  | _, _, .cons _ r => by simp [RPs.length r]
theorem RVs.length : ∀ {ds : List D} {vs : List V}, RVs G w ds vs → ds.length = vs.length
  | [], [], _ => rfl
  | _ :: _, _ :: _, ⟨_, b⟩ => by simp [RVs.length b]
theorem RPs.get : ∀ {ds : List D} {vs : List V} {i : Nat} {d : D}, RPs G w ds vs → ds[i]? = some d → ∃ v, vs[i]? = some v ∧ RP G w d v
  | _, _, _, _, .nil, e => by simp at e
  | _, _, 0, _, .cons h _, e => by simp at e; subst e; exact ⟨_, rfl, h⟩
  | _, _, i + 1, _, .cons _ r, e => by
    obtain ⟨v, a, b⟩ := RPs.get (i := i) r (by simpa using e)
    exact ⟨v, by simpa using a, b⟩
theorem RPs.get' : ∀ {ds : List D} {vs : List V} {i : Nat} {v : V}, RPs G w ds vs → vs[i]? = some v → ∃ d, ds[i]? = some d ∧ RP G w d v
  | _, _, _, _, .nil, e => by simp at e
  | _, _, 0, _, .cons h _, e => by simp at e; subst e; exact ⟨_, rfl, h⟩
  | _, _, i + 1, _, .cons _ r, e => by
    obtain ⟨v, a, b⟩ := RPs.get' (i := i) r (by simpa using e)
    exact ⟨v, by simpa using a, b⟩
theorem RPs.append : ∀ {ds es : List D} {vs us : List V}, RPs G w ds vs → RPs G w es us → RPs G w (ds ++ es) (vs ++ us)
  | _, _, _, _, .nil, s => s
  | _, _, _, _, .cons h r, s => .cons h (RPs.append r s)
theorem RPs.take : ∀ {ds : List D} {vs : List V} (n : Nat), RPs G w ds vs → RPs G w (ds.take n) (vs.take n)
  | _, _, 0, _ => .nil
  | _, _, _ + 1, .nil => .nil
  | _, _, n + 1, .cons h r => .cons h (RPs.take n r)
theorem RPs.drop : ∀ {ds : List D} {vs : List V} (n : Nat), RPs G w ds vs → RPs G w (ds.drop n) (vs.drop n)
  | _, _, 0, r => r
  | _, _, _ + 1, .nil => .nil
  | _, _, n + 1, .cons _ r => RPs.drop n r
theorem RPs.reverse : ∀ {ds : List D} {vs : List V}, RPs G w ds vs → RPs G w ds.reverse vs.reverse
  | _, _, .nil => .nil
  | _, _, .cons h r => by simp only [List.reverse_cons]; exact RPs.append (RPs.reverse r) (.cons h .nil)
theorem RPs.set {d : D} {v : V} (h : RP G w d v) : ∀ {ds : List D} {vs : List V} (i : Nat), RPs G w ds vs → RPs G w (ds.set i d) (vs.set i v)
  | _, _, _, .nil => .nil
  | _, _, 0, .cons _ r => .cons h r
  | _, _, i + 1, .cons q r => .cons q (RPs.set h i r)
theorem RPs.dropLast : ∀ {ds : List D} {vs : List V}, RPs G w ds vs → RPs G w ds.dropLast vs.dropLast
  | _, _, .nil => .nil
  | _, _, .cons _ .nil => .nil
  | _, _, .cons h (.cons h' r) => .cons h (RPs.dropLast (.cons h' r))
theorem RPs.rep {ds : List D} {vs : List V} (h : RPs G w ds vs) : ∀ k : Nat, RPs G w (List.replicate k ds).flatten (List.replicate k vs).flatten
  | 0 => .nil
  | k + 1 => by simp only [List.replicate_succ, List.flatten_cons]; exact h.append (RPs.rep h k)
theorem RV.rp {d : D} {v : V} (h : RV G w d v) (n : d.noLoc = true) : RP G w d v := by
  rcases h with h | ⟨i, rfl, _⟩ | ⟨g, xs, a, cls, dd, rfl, _⟩
  · exact h
  · cases n
  · cases n
theorem RVs.rps : ∀ {ds : List D} {vs : List V}, RVs G w ds vs → noneLoc ds = true → RPs G w ds vs
  | [], [], _, _ => .nil
  | d :: ds, v :: vs, ⟨a, b⟩, n => by
    simp only [noneLoc, Bool.and_eq_true] at n
    exact .cons (a.rp n.1) (RVs.rps b n.2)
theorem RPs.rvs : ∀ {ds : List D} {vs : List V}, RPs G w ds vs → RVs G w ds vs
  | _, _, .nil => trivial
  | _, _, .cons h r => ⟨.inl h, RPs.rvs r⟩
theorem RVs.append : ∀ {ds es : List D} {vs us : List V}, RVs G w ds vs → RVs G w es us → RVs G w (ds ++ es) (vs ++ us)
  | [], _, [], _, _, s => s
  | _ :: _, _, _ :: _, _, ⟨a, b⟩, s => ⟨a, RVs.append b s⟩
theorem RP.noLoc {d : D} {v : V} (h : RP G w d v) : d.noLoc = true := by cases h <;> rfl
end

/-! ### readings -/
def EnvR (G : Gx) (w : Wd) (env : Env) (σ : L2.St) : Prop :=
  env.length = σ.length ∧ ∀ (i : Nat) (d : D), env[i]? = some (some d) → ∃ v, σ[i]? = some (some v) ∧ RV G w d v
theorem EnvR.mono {G : Gx} {w w' : Wd} {env : Env} {σ : L2.St} (e : Ext w w') (h : EnvR G w env σ) : EnvR G w' env σ :=
  ⟨h.1, fun i d q => let ⟨v, a, b⟩ := h.2 i d q; ⟨v, a, b.mono e⟩⟩
/-- an error as it flies -/
def ErrR (G : Gx) (w : Wd) (x : D) (cls : Value) (dd : Option Addr) : Prop := ∃ g xs, x = .exc g xs ∧ ExcK G w g xs cls dd
theorem ErrR.mono {G : Gx} {w w' : Wd} {x : D} {cls : Value} {dd : Option Addr} (e : Ext w w') (h : ErrR G w x cls dd) : ErrR G w' x cls dd :=
  let ⟨g, xs, a, b⟩ := h; ⟨g, xs, a, b.mono e⟩
/-- what is wanted of an error that leaves: by its class, its dict, the slots, the world -/
abbrev PX := Value → Option Addr → Hp → Prop
def PostX (G : Gx) (w : Wd) (W : PX) (x : D) (η' : Hs) : Prop := ∀ w' cls dd, w'.η = η' → Ext w w' → Rel G w' → ErrR G w' x cls dd → W cls dd w'.H
/-- an evaluation's outcome: R' what is wanted of its value's worlds -/
def Out {α : Type} (G : Gx) (w : Wd) (W : PX) (P : Wd → α → Prop) (r : R α) : Prop := match r with
  | .ok d η' => ∀ w', w'.η = η' → Ext w w' → Rel G w' → P w' d
  | .ex x η' => PostX G w W x η'
  | .bad => False
def PE1 (G : Gx) (Q : VK) : Wd → D → Prop := fun w d => ∀ v, RV G w d v → Q v w.H
def PEs (G : Gx) (Q : List V → Hp → Prop) : Wd → List D → Prop := fun w d => ∀ v, RVs G w d v → Q v w.H

theorem PostX.of {G : Gx} {w w1 : Wd} {W : PX} {x : D} {η' : Hs} (r1 : Rel G w1) (e : Ext w w1) (h : PostX G w W x η') : PostX G w1 W x η' :=
  fun w' cls dd a b c d => h w' cls dd a (e.trans r1 b) c d
theorem Out.of {α : Type} {G : Gx} {w w1 : Wd} {W : PX} {P : Wd → α → Prop} {r : R α} (r1 : Rel G w1) (e : Ext w w1) (h : Out G w W P r) : Out G w1 W P r := by
  cases r with
  | ok d η' => exact fun w' a b c => h w' a (e.trans r1 b) c
  | ex x η' => exact PostX.of r1 e h
  | bad => exact h
/-- one step, then the rest -/
theorem Out.bind {α β : Type} {G : Gx} {w : Wd} {W : PX} {P : Wd → β → Prop} {r : R α} {k : α → Hs → R β} (h : Out G w W P (r.bind k)) :
    Out G w W (fun w1 d => Out G w1 W P (k d w1.η)) r := by
  cases r with
  | ok d η' => exact fun w' a b c => by subst a; exact Out.of c b h
  | ex x η' => exact h
  | bad => exact h
theorem Out.mono {α : Type} {G : Gx} {w : Wd} {W : PX} {P P' : Wd → α → Prop} {r : R α} (h : Out G w W P r) (k : ∀ w' d, Ext w w' → Rel G w' → P w' d → P' w' d) : Out G w W P' r := by
  cases r with
  | ok d η' => exact fun w' a b c => k w' d b c (h w' a b c)
  | ex x η' => exact h
  | bad => exact h
end Ip
namespace Ip
open PySem PySem.Spec PyProof.Rows L2

/-! ### worlds grow -/
section
variable {G : Gx} {w : Wd}
/-- an object laid at a free address -/
def Wd.lay (w : Wd) (p : Addr) (o : HO) : Wd := { w with H := upd w.H p o }
/-- .. as a place of the own heap -/
def Wd.cell (w : Wd) (p : Addr) (o : HO) (c : Cell) : Wd :=
  { w with mp := fun i => if i = w.η.length then p else w.mp i, η := w.η ++ [c], H := upd w.H p o }
theorem Rel.not_live (r : Rel G w) {p : Addr} (hp : w.H p = none) : ¬ w.Live p := fun h => by
  obtain ⟨o, e⟩ := r.live_some h
  rw [hp] at e; cases e
theorem Ext.lay (r : Rel G w) {p : Addr} (hp : w.H p = none) (o : HO) : Ext w (w.lay p o) where
  len := Nat.le_refl _
  mp := fun _ _ => rfl
  keep := fun a u e _ => by show upd w.H p o a = some u; rw [upd_ne (ne_of_none e hp)]; exact e
  live := fun a u e n => n
  gh := rfl
theorem CellOk.mono {w w' : Wd} {a : Addr} {c : Cell} (e : Ext w w') (k : ∀ o, w.H a = some o → w'.H a = some o) (h : CellOk G w a c) : CellOk G w' a c := by
  cases c with
  | lst xs => obtain ⟨vs, h1, h2⟩ := h; exact ⟨vs, k _ h1, h2.mono e⟩
  | dct kvs => obtain ⟨o, xs, h1, h2, h3, h4⟩ := h; exact ⟨o, xs, k _ h1, h2, h3, h4.mono e⟩
  | obj c fs => obtain ⟨dx, vs, h1, h2⟩ := h; exact ⟨dx, vs, k _ h1, h2.mono e⟩
  | lsl xs j => obtain ⟨vs, h1, h2, h3⟩ := h; exact ⟨vs, by rw [e.mp j h3]; exact k _ h1, h2.mono e, Nat.lt_of_lt_of_le h3 e.len⟩
  | dead => trivial
theorem Rel.lay (r : Rel G w) {p : Addr} (hp : w.H p = none) (o : HO) : Rel G (w.lay p o) where
  cell := fun i c e => (r.cell i c e).mono (Ext.lay r hp o) fun u q => by show upd w.H p o _ = some u; rw [upd_ne (ne_of_none q hp)]; exact q
  inj := r.inj
  ngh := r.ngh
  ghs := fun a h => let ⟨u, e⟩ := r.ghs a h; ⟨u, by show upd w.H p o a = some u; rw [upd_ne (ne_of_none e hp)]; exact e⟩
theorem lay_not_live (r : Rel G w) {p : Addr} (hp : w.H p = none) (o : HO) : ¬ (w.lay p o).Live p := r.not_live hp
theorem cell_at {p : Addr} {o : HO} {c : Cell} {i : Nat} (h : i < w.η.length) : (w.cell p o c).mp i = w.mp i := by
  show (if i = w.η.length then p else w.mp i) = w.mp i
  rw [if_neg (Nat.ne_of_lt h)]
theorem cell_new {p : Addr} {o : HO} {c : Cell} : (w.cell p o c).mp w.η.length = p := by
  show (if w.η.length = w.η.length then p else w.mp w.η.length) = p
  rw [if_pos rfl]
theorem cell_get {p : Addr} {o : HO} {c d : Cell} {i : Nat} (h : (w.cell p o c).η[i]? = some d) : (i < w.η.length ∧ w.η[i]? = some d) ∨ (i = w.η.length ∧ d = c) := by
  have h' : (w.η ++ [c])[i]? = some d := h
  by_cases hi : i < w.η.length
  · rw [List.getElem?_append_left hi] at h'; exact .inl ⟨hi, h'⟩
  · rw [List.getElem?_append_right (by omega)] at h'
    by_cases hz : i - w.η.length = 0
    · rw [hz] at h'
      simp at h'
      exact .inr ⟨by omega, h'.symm⟩
    · rw [List.getElem?_eq_none (by simp; omega)] at h'; cases h'
theorem Ext.cell (r : Rel G w) {p : Addr} (hp : w.H p = none) (o : HO) (c : Cell) : Ext w (w.cell p o c) where
  len := by show w.η.length ≤ (w.η ++ [c]).length; simp
  mp := fun i h => cell_at h
  keep := fun a u e _ => by show upd w.H p o a = some u; rw [upd_ne (ne_of_none e hp)]; exact e
  live := fun a u e n => by
    rintro (⟨i, d, q, nd, m⟩ | g)
    · rcases cell_get q with ⟨hi, q⟩ | ⟨hi, q⟩
      · exact n (.inl ⟨i, d, q, nd, by rw [← m, cell_at hi]⟩)
      · subst hi
        rw [cell_new] at m
        exact ne_of_none e hp m.symm
    · exact n (.inr g)
  gh := rfl
theorem Rel.cell' (r : Rel G w) {p : Addr} (hp : w.H p = none) {o : HO} {c : Cell} (h : CellOk G (w.cell p o c) p c) : Rel G (w.cell p o c) where
  cell := fun i d q => by
    rcases cell_get q with ⟨hi, q⟩ | ⟨hi, e⟩
    · rw [cell_at hi]
      exact (r.cell i d q).mono (Ext.cell r hp o c) fun u z => by show upd w.H p o _ = some u; rw [upd_ne (ne_of_none z hp)]; exact z
    · subst hi; subst e; rw [cell_new]; exact h
  inj := fun i j d e q1 q2 n1 n2 m => by
    have key : ∀ {i : Nat} {d : Cell}, (w.cell p o c).η[i]? = some d → ¬ d.Dead → i < w.η.length → w.mp i ≠ p := fun {i d} q nd hi z => by
      rcases cell_get q with ⟨_, q⟩ | ⟨hi', _⟩
      · exact r.not_live hp (.inl ⟨i, d, q, nd, z⟩)
      · omega
    rcases cell_get q1 with ⟨h1, e1⟩ | ⟨h1, e1⟩
    · rcases cell_get q2 with ⟨h2, e2⟩ | ⟨h2, e2⟩
      · rw [cell_at h1, cell_at h2] at m
        exact r.inj i j d e e1 e2 n1 n2 m
      · subst h2
        rw [cell_at h1, cell_new] at m
        exact (key q1 n1 h1 m).elim
    · rcases cell_get q2 with ⟨h2, e2⟩ | ⟨h2, e2⟩
      · subst h1
        rw [cell_at h2, cell_new] at m
        exact (key q2 n2 h2 m.symm).elim
      · omega
  ngh := fun i d q nd g => by
    rcases cell_get q with ⟨hi, q⟩ | ⟨hi, q⟩
    · rw [cell_at hi] at g
      exact r.ngh i d q nd g
    · subst hi
      rw [cell_new] at g
      exact r.not_live hp (.inr g)
  ghs := fun a h => let ⟨u, e⟩ := r.ghs a h; ⟨u, by show upd w.H p o a = some u; rw [upd_ne (ne_of_none e hp)]; exact e⟩
end

/-! ### what a primitive gives -/
section
variable {G : Gx} {w : Wd} {Q : VK} {W W' : PX}
theorem Out.pr {p : Pr} (h : Out G w W (PE1 G Q) p.r) : Out G w W' (PE1 G Q) p.r := by
  cases p with
  | ok d h' => exact h
  | bad => exact h
theorem Out.here (r : Rel G w) {d : D} {v : V} (h : Out G w W (PE1 G Q) (.ok d w.η)) (q : RV G w d v) : Q v w.H := h w rfl (Ext.refl w) r v q
theorem forceN_eq {α : Type} (n : Nat) (k : Nat → α) : forceN n k = k n := by cases n <;> rfl
theorem forceI_eq {α : Type} (i : Int) (k : Int → α) : forceI i k = k i := by cases i <;> simp only [forceI, forceN_eq]
theorem oki_eq (i : Int) (η : Hs) : oki i η = .ok (.int i) η := by simp only [oki, forceI_eq]
theorem Out.int (r : Rel G w) {i : Int} (h : Out G w W (PE1 G Q) (oki i w.η).r) : Q (.int i) w.H := by
  rw [oki_eq] at h
  exact Out.here r h (.inl (.int i))
/-- a new tuple -/
theorem Out.tup (r : Rel G w) {xs : List D} {vs : List V} (q : RPs G w xs vs) (h : Out G w W (PE1 G Q) (.ok (.tup xs) w.η)) {p : Addr} (hp : w.H p = none) {o : Obj} (ho : o.dict = none) : Q (.ref p) (upd w.H p (.frz o (.tup vs))) :=
  h (w.lay p (.frz o (.tup vs))) rfl (Ext.lay r hp _) (r.lay hp _) _ (.inl (.tup (.inl ⟨o, upd_same, ho, lay_not_live r hp _⟩) (q.mono (Ext.lay r hp _))))
theorem Out.newT (r : Rel G w) {xs : List D} {vs : List V} (q : RPs G w xs vs) (h : Out G w W (PE1 G Q) (.ok (.tup xs) w.η)) : ∀ p o, w.H p = none → o.dict = none → Q (.ref p) (upd w.H p (.frz o (.tup vs))) :=
  fun p o hp ho => Out.tup r q h hp ho
/-- a new list -/
theorem Out.lst (r : Rel G w) {c : Bool} {xs : List D} {vs : List V} (q : RPs G w xs vs) (h : Out G w W (PE1 G Q) (mkL c xs w.η).r) {p : Addr} (hp : w.H p = none) : Q (.ref p) (upd w.H p (.lst vs)) := by
  cases c with
  | false => exact h (w.lay p (.lst vs)) rfl (Ext.lay r hp _) (r.lay hp _) _ (.inl (.lst ⟨.inl upd_same, lay_not_live r hp _⟩ (q.mono (Ext.lay r hp _))))
  | true =>
    have e := Ext.cell r hp (.lst vs) (.lst xs)
    refine h (w.cell p (.lst vs) (.lst xs)) rfl e (r.cell' hp ⟨vs, upd_same, q.mono e⟩) _ (.inr (.inl ⟨w.η.length, rfl, ?_, ?_⟩))
    · show w.η.length < (w.η ++ [Cell.lst xs]).length
      simp
    · rw [cell_new]
end

/-! ### lists, tuples as they stand -/
section
variable {X : L2.Cx} {pins : List (Addr × Obj)} {σ : L2.St} {s : Shared} {G : Gx} {w : Wd}
/-- a list that may be read -/
def LstR (w : Wd) (a : Addr) (vs : List V) : Prop := w.H a = some (.lst vs) ∨ ∃ o, w.H a = some (.frz o (.lst vs))
theorem LstR.sq {K : PySem.W.Frag} {a : Addr} {vs : List V} (h : LstR w a vs) : SqL K w.H a vs := by
  rcases h with h | ⟨o, h⟩
  · exact .inl (.inl h)
  · exact .inl (.inr ⟨o, h⟩)
theorem LstR.obj (I : Inv X pins σ w.H s) {a : Addr} {vs : List V} (h : LstR w a vs) :
    vs.length ≤ sizeLine ∧ ∃ (its : List Value) (n : Nat), Vals vs its ∧ vs.length = its.length ∧ s.heap.get? a = some { cls := .type "list", data := .seq its.toArray n } := by
  have ok : ObjOk X.prog X.w w.H s.heap a (.lst vs) := by
    rcases h with h | ⟨o, h⟩
    · exact I.hok a _ h
    · exact (I.hok a _ h).2
  obtain ⟨z, its, n, r, e⟩ := ok
  exact ⟨z, its, n, r, r.length, e⟩
/-- a value that is an own list or a frozen one -/
theorem lst_of (r : Rel G w) {d : D} {v : V} {xs : List D} (q : RV G w d v) (h : lstAt w.η d = some xs) : ∃ a vs, v = .ref a ∧ LstR w a vs ∧ RPs G w xs vs := by
  rcases q with q | ⟨i, rfl, hi, rfl⟩ | ⟨g, zs, a, cls, dd, rfl, _⟩
  · cases q with
    | lst l m => simp only [lstAt, Option.some.injEq] at h; subst h; exact ⟨_, _, rfl, l.1, m⟩
    | non => cases h
    | bl => cases h
    | int => cases h
    | str => cases h
    | fn => cases h
    | tup => cases h
  · simp only [lstAt] at h
    cases e : w.η[i]? with
    | none => rw [e] at h; cases h
    | some c =>
      rw [e] at h
      cases c with
      | lst ys =>
        simp only [Option.some.injEq] at h
        subst h
        obtain ⟨vs, e1, e2⟩ := r.cell i _ e
        exact ⟨_, vs, rfl, .inl e1, e2⟩
      | dct => cases h
      | obj => cases h
      | lsl => cases h
      | dead => cases h
  · cases h
theorem seq_of (r : Rel G w) {d : D} {v : V} {xs : List D} (q : RV G w d v) (h : seqAt w.η d = some xs) :
    ∃ a vs, v = .ref a ∧ RPs G w xs vs ∧ ((LstR w a vs ∧ lstAt w.η d = some xs) ∨ (TupAt G.K w a vs ∧ d = .tup xs)) := by
  cases d with
  | tup ys =>
    simp only [seqAt, Option.some.injEq] at h
    subst h
    rcases q with q | ⟨i, e, _⟩ | ⟨g, zs, a, cls, dd, e, _⟩
    · cases q with
      | tup l m => exact ⟨_, _, rfl, m, .inr ⟨l, rfl⟩⟩
    · cases e
    · cases e
  | _ =>
    obtain ⟨a, vs, e1, e2, e3⟩ := lst_of r q (by simpa only [seqAt] using h)
    exact ⟨a, vs, e1, e3, .inl ⟨e2, by simpa only [seqAt] using h⟩⟩
end

/-! ### tuples as they are made: the object is known -/
section
variable {X : L2.Cx} {pins : List (Addr × Obj)} {σ : L2.St} {H : Hp} {s : Shared} {ys : List V} {its : List Value}
abbrev tupO (its : List Value) : Obj := { cls := .type "tuple", data := .seq its.toArray }
theorem Inv.tnew (t : Nat) (I : Inv X pins σ H s) (hv : Vals ys its) (hz : ys.length ≤ sizeLine) :
    Inv X pins σ (upd H s.heap.objs.size (.frz (tupO its) (.tup ys))) { s with heap := s.heap.push (tupO its), toks := t } := by
  have hk : ∀ b o, s.heap.get? b = some o → (s.heap.push (tupO its)).get? b = some o := fun b o e => Heap.get?_push_of_some _ e
  have hg : (s.heap.push (tupO its)).get? s.heap.objs.size = some (tupO its) := Heap.get?_push_size _ rfl
  exact Inv.laid I hk (Nat.le_refl _) ⟨hg, hz, its, hv, ⟨_, hg, rfl, _, rfl⟩⟩
/-- what is wanted of a new tuple -/
def NewT (Q : VK) (H : Hp) (ys : List V) : Prop := ∀ p o, H p = none → o.dict = none → Q (.ref p) (upd H p (.frz o (.tup ys)))
theorem NewT.ep {Q : VK} (q : NewT Q H ys) (t : Nat) (I : Inv X pins σ H s) (hv : Vals ys its) (hz : ys.length ≤ sizeLine) : EP X pins σ Q (.ref s.heap.objs.size) { s with heap := s.heap.push (tupO its), toks := t } :=
  ⟨.ref s.heap.objs.size, _, Inv.tnew t I hv hz, rfl, q _ _ I.fresh rfl⟩
end
end Ip
namespace Ip
open PySem PySem.Spec PyProof.Rows L2

theorem beqN (a b : Nat) : Nat.beq a b = decide (a = b) := by
  rw [Bool.eq_iff_iff, decide_eq_true_iff]; exact ⟨Nat.eq_of_beq_eq_true, fun h => by subst h; exact Nat.beq_refl a⟩
theorem bleN (a b : Nat) : Nat.ble a b = decide (a ≤ b) := by
  rw [Bool.eq_iff_iff, decide_eq_true_iff]; exact ⟨Nat.le_of_ble_eq_true, Nat.ble_eq_true_of_le⟩
theorem bltN (a b : Nat) : Nat.blt a b = decide (a < b) := by
  show Nat.ble (a + 1) b = _
  rw [bleN]; rfl
theorem eqI_eq (i j : Int) : eqI i j = decide (i = j) := by
  cases i with
  | ofNat a =>
    cases j with
    | ofNat b => simp only [eqI, beqN, Int.ofNat_inj, Int.ofNat_eq_natCast]
    | negSucc b => exact (decide_eq_false (fun h => by cases h)).symm
  | negSucc a =>
    cases j with
    | ofNat b => exact (decide_eq_false (fun h => by cases h)).symm
    | negSucc b => simp only [eqI, beqN, Int.negSucc_inj]
theorem ltI_eq (i j : Int) : ltI i j = decide (i < j) := by
  cases i with
  | ofNat a =>
    cases j with
    | ofNat b => simp only [ltI, bltN, Int.ofNat_eq_natCast, Int.ofNat_lt]
    | negSucc b => refine (decide_eq_false ?_).symm; show ¬ (Int.ofNat a < Int.negSucc b); have := Int.negSucc_lt_zero b; have := Int.natCast_nonneg a; simp only [Int.ofNat_eq_natCast]; omega
  | negSucc a =>
    cases j with
    | ofNat b => refine (decide_eq_true ?_).symm; have := Int.negSucc_lt_zero a; have := Int.natCast_nonneg b; simp only [Int.ofNat_eq_natCast]; omega
    | negSucc b => simp only [ltI, bltN, decide_eq_decide]; rw [Int.negSucc_eq, Int.negSucc_eq]; omega
theorem small64_ok {i : Int} (h : small64 i = true) : -(2 ^ 64) < i ∧ i < 2 ^ 64 := by
  simp only [small64, two64, bltN, decide_eq_true_eq] at h
  omega

section
variable {G : Gx} {w : Wd} {v : V}
theorem RV.int {i : Int} (h : RV G w (.int i) v) : v = .int i := by
  rcases h with h | ⟨_, h, _⟩ | ⟨_, _, _, _, _, h, _⟩ <;> cases h
  rfl
theorem RV.str {i : Str} (h : RV G w (.str i) v) : v = .str i := by
  rcases h with h | ⟨_, h, _⟩ | ⟨_, _, _, _, _, h, _⟩ <;> cases h
  rfl
theorem RV.bl {i : Bool} (h : RV G w (.bl i) v) : v = .bl i := by
  rcases h with h | ⟨_, h, _⟩ | ⟨_, _, _, _, _, h, _⟩ <;> cases h
  rfl
theorem RV.non (h : RV G w .non v) : v = .non := by
  rcases h with h | ⟨_, h, _⟩ | ⟨_, _, _, _, _, h, _⟩ <;> cases h
  rfl
theorem RV.fn {g : Nat} (h : RV G w (.fn g) v) : v = .ref (G.fa g) := by
  rcases h with h | ⟨_, h, _⟩ | ⟨_, _, _, _, _, h, _⟩ <;> cases h
  rfl
theorem RV.tup {xs : List D} (h : RV G w (.tup xs) v) : ∃ a vs, v = .ref a ∧ TupAt G.K w a vs ∧ RPs G w xs vs := by
  rcases h with h | ⟨_, h, _⟩ | ⟨_, _, _, _, _, h, _⟩ <;> cases h
  exact ⟨_, _, rfl, ‹_›, ‹_›⟩
theorem RV.lst {xs : List D} (h : RV G w (.lst xs) v) : ∃ a vs, v = .ref a ∧ LstAt w a vs ∧ RPs G w xs vs := by
  rcases h with h | ⟨_, h, _⟩ | ⟨_, _, _, _, _, h, _⟩ <;> cases h
  exact ⟨_, _, rfl, ‹_›, ‹_›⟩
theorem RV.loc {i : Nat} (h : RV G w (.loc i) v) : i < w.η.length ∧ v = .ref (w.mp i) := by
  rcases h with h | ⟨_, h, h2, h3⟩ | ⟨_, _, _, _, _, h, _⟩ <;> cases h
  exact ⟨h2, h3⟩
end
def opOf : Op2 → Operator
  | .add => .Add | .sub => .Sub | .mul => .Mult | .fdiv => .FloorDiv | .mod => .Mod | .pow => .Pow
abbrev W0 : PX := fun _ _ _ => False
/-- by values: the world is chosen -/
def rBin (G : Gx) (c : Bool) (o : Op2) : R2 := fun x y H Q => ∃ w d1 d2, w.H = H ∧ Rel G w ∧ RV G w d1 x ∧ RV G w d2 y ∧ Out G w W0 (PE1 G Q) (binop c o d1 d2 w.η).r

section
variable {X : L2.Cx} {G : Gx} {c : Bool}
theorem sizeMax_eq : sizeMax = sizeLine := by rw [sizeLine_eq]; rfl
/-- list + list -/
theorem cat_lst {pins : List (Addr × Obj)} {s : Shared} {σ : L2.St} {w : Wd} {a b : Addr} {xs ys : List V} {Q : VK} (I : Inv X pins σ w.H s) (ha : LstR w a xs) (hb : LstR w b ys) (hz : xs.length + ys.length ≤ sizeLine)
    (q : ∀ p, w.H p = none → Q (.ref p) (upd w.H p (.lst (xs ++ ys)))) : wpAny (model X.prog X.w) X.A (binaryOp .Add (.ref a) (.ref b)) (EP X pins σ Q) X.xe s := by
  obtain ⟨z1, its, n, r1, l1, e1⟩ := ha.obj I
  obtain ⟨z2, jts, m, r2, l2, e2⟩ := hb.obj I
  refine PySem.P.add_list e1 e2 ?_ (by simp only [List.size_toArray]; omega)
  rw [show its.toArray ++ jts.toArray = (its ++ jts).toArray by simp]
  exact ⟨.ref _, _, I.lnew (t' := s.toks) (r1.append r2) (by simp only [List.length_append]; omega), rfl, q _ I.fresh⟩
/-- tuple + tuple -/
theorem cat_tupF {pins : List (Addr × Obj)} {s : Shared} {σ : L2.St} {H : Hp} {a b : Addr} {xs ys : List V} {Q : VK} (I : Inv X pins σ H s) (ha : SqT X.K H a xs) (hb : SqT X.K H b ys) (hz : xs.length + ys.length ≤ sizeLine)
    (q0 : xs = [] → Q (.ref b) H) (q1 : ys = [] → Q (.ref a) H) (q2 : NewT Q H (xs ++ ys)) : wpAny (model X.prog X.w) X.A (binaryOp .Add (.ref a) (.ref b)) (EP X pins σ Q) X.xe s := by
  obtain ⟨us, r1, t1, _⟩ := I.tuple ha
  obtain ⟨ws, r2, t2, _⟩ := I.tuple hb
  by_cases hx : xs = []
  · subst hx
    cases r1
    exact cat_tup0 t1 t2 ⟨.ref b, _, I, rfl, q0 rfl⟩
  · have n1 : us ≠ [] := fun z => hx (r1.nil_iff.mp z)
    have n2 : us.length + ws.length ≤ sizeLine := by rw [← r1.length, ← r2.length]; exact hz
    exact HT.cat_tup t1 t2 n1 (fun z => ⟨.ref a, H, I, rfl, q1 (r2.nil_iff.mp z)⟩) (fun z => q2.ep s.toks I (r1.append r2) (by rw [List.length_append]; exact hz)) n2
theorem op_bin_add (hK : X.K = G.K) : OpR X (binaryOp .Add) (rBin G c .add) := by
  intro pins s σ H x y v u Q I rx ry h
  obtain ⟨w, d1, d2, rfl, rel, q1, q2, h⟩ := h
  have lists : ∀ {xs ys : List D}, lstAt w.η d1 = some xs → lstAt w.η d2 = some ys → Out G w W0 (PE1 G Q) (if Nat.ble (xs.length + ys.length) sizeMax then mkL c (xs ++ ys) w.η else .bad).r →
      wpAny (model X.prog X.w) X.A (binaryOp .Add v u) (EP X pins σ Q) X.xe s := fun {xs ys} h1 h2 h => by
    obtain ⟨a, vs, rfl, la, ra⟩ := lst_of rel q1 h1
    obtain ⟨b, us, rfl, lb, rb⟩ := lst_of rel q2 h2
    cases rx
    cases ry
    split at h
    · rename_i hz
      rw [bleN, decide_eq_true_eq, sizeMax_eq, ra.length, rb.length] at hz
      exact cat_lst I la lb hz fun p hp => Out.lst rel (ra.append rb) h hp
    · exact h.elim
  have any : Out G w W0 (PE1 G Q) (match lstAt w.η d1, lstAt w.η d2 with
      | some xs, some ys => if Nat.ble (xs.length + ys.length) sizeMax then mkL c (xs ++ ys) w.η else .bad
      | _, _ => .bad : Pr).r → wpAny (model X.prog X.w) X.A (binaryOp .Add v u) (EP X pins σ Q) X.xe s := fun h => by
    cases e1 : lstAt w.η d1 with
    | none => rw [e1] at h; exact h.elim
    | some xs =>
      cases e2 : lstAt w.η d2 with
      | none => rw [e1, e2] at h; exact h.elim
      | some ys => rw [e1, e2] at h; exact lists e1 e2 h
  cases d1 with
  | int i =>
    cases d2 with
    | int j =>
      cases q1.int; cases q2.int
      exact op_add pins s σ w.H _ _ v u Q I rx ry ⟨i, j, rfl, rfl, Out.int rel h⟩
    | _ => exact (show False from h).elim
  | str i =>
    cases d2 with
    | str j =>
      cases q1.str; cases q2.str
      simp only [binop] at h
      split at h
      · rename_i hz
        rw [bleN, decide_eq_true_eq, sizeMax_eq] at hz
        exact op_add_str pins s σ w.H _ _ v u Q I rx ry ⟨i, j, rfl, rfl, hz, Out.here rel h (.inl (.str _))⟩
      · exact h.elim
    | _ => exact (show False from h).elim
  | tup xs =>
    cases d2 with
    | tup ys =>
      obtain ⟨a, vs, rfl, ta, ra⟩ := q1.tup
      obtain ⟨b, us, rfl, tb, rb⟩ := q2.tup
      simp only [binop] at h
      split at h
      · rename_i hz
        rw [bleN, decide_eq_true_eq, sizeMax_eq, ra.length, rb.length] at hz
        cases rx
        cases ry
        refine cat_tupF I (by rw [hK]; exact ta.sq) (by rw [hK]; exact tb.sq) hz (fun e => ?_) (fun e => ?_) (Out.newT rel (ra.append rb) h)
        · subst e
          cases ra
          exact Out.here rel h (.inl (.tup tb rb))
        · subst e
          cases rb
          exact Out.here rel h (.inl (.tup ta (by simpa using ra)))
      · exact h.elim
    | _ => exact (show False from h).elim
  | lst xs => exact any (by cases d2 <;> exact h)
  | loc i => exact any (by cases d2 <;> exact h)
  | _ => cases d2 <;> exact (show False from h).elim
end
end Ip
/-! the laws' cells of a script: one number of it -/
namespace Ip
def cellsB : Ss := Ss.cons (S.asg (T.name 2) (E.or (Es.cons (E.bi true .list (Es.cons (E.sl false (E.var 0) (E.absent) (E.var 1)) (Es.nil))) (Es.cons (E.lst true (Es.cons (E.int 0) (Es.nil))) (Es.nil))))) (Ss.cons (S.for (T.tup (Ts.cons (T.name 3) (Ts.cons (T.name 4) (Ts.nil)))) (It.enum (E.sl false (E.var 0) (E.var 1) (E.int 63))) (Ss.cons (S.asg (T.name 5) (E.bin false .mod (E.bi false .int (Es.cons (E.var 3) (Es.nil))) (E.var 1))) (Ss.cons (S.asg (T.sub (E.var 2) (E.var 5)) (E.bin false .add (E.ix (E.var 2) (E.var 5)) (E.bin false .mul (E.var 4) (E.bin false .add (E.var 3) (E.int 2))))) (Ss.nil)))) (Ss.cons (S.ret (E.var 2)) (Ss.nil)))
def cellsF : Fn := ⟨2, 6, false, cellsB⟩
def cellsL : Ss := (Ss.cons (S.asg (T.name 5) (E.bin false .mod (E.bi false .int (Es.cons (E.var 3) (Es.nil))) (E.var 1))) (Ss.cons (S.asg (T.sub (E.var 2) (E.var 5)) (E.bin false .add (E.ix (E.var 2) (E.var 5)) (E.bin false .mul (E.var 4) (E.bin false .add (E.var 3) (E.int 2))))) (Ss.nil)))
section
variable {X : Cx}
theorem oki_eq' (i : Int) (η : Hs) : oki i η = .ok (.int i) η := by
  unfold oki
  cases i with
  | ofNat n => cases n <;> rfl
  | negSucc n => cases n <;> rfl
theorem cells_turn {s x y z : Option D} {k : Nat} {b c : Int} (hk : k < 1000) :
    (asT X (T.tup (Ts.cons (T.name 3) (Ts.cons (T.name 4) Ts.nil))) (.tup [.int (.ofNat k), .int b]) [s, some (.int 1), some (.loc 0), x, y, z] [.lst [.int c]]).bind (fun env η => evSs X cellsL env η) =
    .ok (.nx [s, some (.int 1), some (.loc 0), some (.int (.ofNat k)), some (.int b), some (.int 0)]) [.lst [.int (c + b * (.ofNat k + 2))]] := by
  have h1 : (Int.ofNat k).fmod 1 = 0 := by simp
  have h2 : small64 (Int.ofNat k + 2) = true := by
    unfold small64 two64
    rw [bltN, decide_eq_true_eq]
    have : (Int.ofNat k + 2).natAbs = k + 2 := by
      show ((k : Int) + 2).natAbs = k + 2
      omega
    rw [this]; omega
  have h3 : small64 ((k : Int) + 2) = true := h2
  simp [asT, asTs, R.bind, Ts.len, cellsL, evSs, evS, evE, evEs, bi, binop, oki_eq', h1, h3, dctAt, Pr.r, eqI, getIx, seqAt, lstAt, atI, setIx, ixN, D.noLoc]
theorem cells_loop {s : Option D} : ∀ (bs : List Int) (k : Nat) (x y z : Option D) (c : Int), k + bs.length < 1000 → ∃ x' y' z' c',
    floop [] (fun d env η => asT X (T.tup (Ts.cons (T.name 3) (Ts.cons (T.name 4) Ts.nil))) d env η) (fun env η => evSs X cellsL env η) (enumD k (bs.map .int)) [s, some (.int 1), some (.loc 0), x, y, z] [.lst [.int c]] =
      .ok (.nx [s, some (.int 1), some (.loc 0), x', y', z']) [.lst [.int c']]
  | [], k, x, y, z, c, _ => ⟨x, y, z, c, rfl⟩
  | b :: bs, k, x, y, z, c, h => by
    have hk : k < 1000 := by simp at h; omega
    have t := cells_turn (X := X) (s := s) (x := x) (y := y) (z := z) (b := b) (c := c) hk
    obtain ⟨x', y', z', c', ih⟩ := cells_loop bs (k + 1) (some (.int (.ofNat k))) (some (.int b)) (some (.int 0)) (c + b * (.ofNat k + 2)) (by simp at h; omega)
    refine ⟨x', y', z', c', ?_⟩
    rw [List.map_cons]
    unfold enumD floop
    simp only [chk]
    cases ha : asT X (T.tup (Ts.cons (T.name 3) (Ts.cons (T.name 4) Ts.nil))) (.tup [.int (.ofNat k), .int b]) [s, some (.int 1), some (.loc 0), x, y, z] [.lst [.int c]] with
    | ok env η =>
      rw [ha] at t
      simp only [R.bind] at t ⊢
      rw [t]
      exact ih
    | ex e η => rw [ha] at t; cases t
    | bad => rw [ha] at t; cases t
end
theorem cells_ok {P : List Fn} {glo : List D} {eb : Nat → Ty → Bool} {W n g : Nat} {is : List Int} (hf : P[g]? = some cellsF) (hl : is.length ≤ 63) :
    ∃ c : Int, callN P glo eb W (n + 1) g [.lst (is.map .int), .int 1] [] = .ok (.lst [.int c]) [] := by
  rcases is with _ | ⟨a, r⟩
  · refine ⟨0, ?_⟩
    simp only [callN, hf, cellsF]
    rfl
  · obtain ⟨x', y', z', c', h⟩ := cells_loop (X := ⟨callN P glo eb W n, glo, eb, W⟩) (s := some (.lst ((a :: r).map .int))) (r.take 62) 0 none none none a (by rw [List.length_take]; omega)
    refine ⟨c', ?_⟩
    have cut1 : cut ((a :: r).map D.int) none (some 1) = [.int a] := by
      show ((D.int a :: r.map D.int).drop 0).take (min 1 (r.map D.int).length.succ - 0) = _
      have : min 1 (r.map D.int).length.succ - 0 = 1 := by omega
      rw [this]; rfl
    have cut2 : cut ((a :: r).map D.int) (some 1) (some 63) = (r.take 62).map .int := by
      show ((D.int a :: r.map D.int).drop (min 1 (r.map D.int).length.succ)).take (min 63 (r.map D.int).length.succ - min 1 (r.map D.int).length.succ) = _
      have e1 : min 1 (r.map D.int).length.succ = 1 := by omega
      rw [e1, List.drop_succ_cons, List.drop_zero, List.map_take, List.length_map]
      simp only [List.length_cons] at hl
      rw [List.take_of_length_le (by rw [List.length_map]; omega), List.take_of_length_le (by rw [List.length_map]; omega)]
    generalize hL : (a :: r).map D.int = L at cut1 cut2 h
    have e1 : evS ⟨callN P glo eb W n, glo, eb, W⟩ (S.asg (T.name 2) (E.or (Es.cons (E.bi true .list (Es.cons (E.sl false (E.var 0) (E.absent) (E.var 1)) (Es.nil))) (Es.cons (E.lst true (Es.cons (E.int 0) (Es.nil))) (Es.nil))))) [some (.lst L), some (.int 1), none, none, none, none] [] = .ok (.nx [some (.lst L), some (.int 1), some (.loc 0), none, none, none]) [.lst [.int a]] := by
      simp [evS, evE, evOr, evEs, R.bind, Pr.r, asT, slice, seqAt, lstAt, part, E.isAbs, cut1, mkL, bi, tru, walk]
    have e2 : evIt ⟨callN P glo eb W n, glo, eb, W⟩ (It.enum (E.sl false (E.var 0) (E.var 1) (E.int 63))) [some (.lst L), some (.int 1), some (.loc 0), none, none, none] [.lst [.int a]] = .ok (enumD 0 ((r.take 62).map .int), []) [.lst [.int a]] := by
      simp [evIt, evE, R.bind, Pr.r, slice, seqAt, lstAt, part, E.isAbs, cut2, mkL, guardOf]
    have e3 : evS ⟨callN P glo eb W n, glo, eb, W⟩ (S.for (T.tup (Ts.cons (T.name 3) (Ts.cons (T.name 4) (Ts.nil)))) (It.enum (E.sl false (E.var 0) (E.var 1) (E.int 63))) cellsL) [some (.lst L), some (.int 1), some (.loc 0), none, none, none] [.lst [.int a]] = .ok (.nx [some (.lst L), some (.int 1), some (.loc 0), x', y', z']) [.lst [.int c']] := by
      unfold evS
      rw [e2]
      exact h
    have e4 : evSs ⟨callN P glo eb W n, glo, eb, W⟩ cellsB [some (.lst L), some (.int 1), none, none, none, none] [] = .ok (.rt (.loc 0)) [.lst [.int c']] := by
      unfold cellsB
      unfold evSs
      rw [e1]
      simp only [R.bind]
      unfold evSs
      have e3' := e3
      unfold cellsL at e3'
      rw [e3']
      simp [R.bind, evSs, evS, evE]
    simp only [callN, hf]
    have e5 : Nat.beq [D.lst L, D.int 1].length cellsF.np = true := rfl
    rw [e5]
    have e6 : start cellsF [D.lst L, D.int 1] = [some (.lst L), some (.int 1), none, none, none, none] := rfl
    have e7 : cellsF.body = cellsB := rfl
    rw [e6, e7]
    dsimp only
    rw [e4]
    rfl
end Ip
namespace Ip
open PySem PySem.Spec PyProof.Rows L2
/-- an empty set, as it is laid -/
abbrev setO0 (w : World) : Obj := { cls := .type "set", dict := none, data := .set #[] 0 (.fresh 0 0 (!w.params.followText "set-order")) }
/-- the heap with it -/
abbrev setH0 (w : World) (h : Heap) : Heap := h.push (setO0 w)
section
variable {P : Program} {w : World} {A : Around} {E : Value → Shared → Prop} {s : Shared}
/-- what a filled set leaves -/
def SetDone (w : World) (s : Shared) (ns : List Int) (r : Value) (s' : Shared) : Prop :=
  r = .none ∧ ∃ h' tk c, s' = { s with heap := h', toks := tk } ∧ SetR w h' s.heap.objs.size (fun j => decide (j ∈ ns)) c ∧ c ≤ ns.length ∧ ∀ b o, s.heap.get? b = some o → h'.get? b = some o
theorem call_set_ints {l : Addr} {items : Array Value} (ns : List Int) {Q : Value → Shared → Prop} (hh : A.handled = none) (hl : s.heap.IsList l items) (hit : IntsAre items.toList ns) (hb : ns.length + 1 < scanBound)
    (h : ∀ (h' : Heap) (tk c : Nat), SetR w h' s.heap.objs.size (fun j => decide (j ∈ ns)) c → c ≤ ns.length → (∀ b o, s.heap.get? b = some o → h'.get? b = some o) → Q (.ref s.heap.objs.size) { s with heap := h', toks := tk }) :
    wpAny (model P w) A (call (.type "set") [.ref l]) Q E s := by
  have same : items.size = ns.length := by rw [← Array.length_toList]; exact IntsAre.length hit
  obtain ⟨cc, tl, hmro⟩ := F.called_set.mro
  have hmade := F.called_set.made
  have hsub := F.called_set.sub
  refine wpAny_call (codeAny_of_tree ?_)
  show wpAny _ _ (callAny (.type "set") _) _ _ _
  have quiet := Code.quiet_builtin (id := "type.__call__") ⟨[.type "set", .ref l], []⟩ (by decide +kernel)
  refine wpAny_pure ⟨quiet, codeAny_builtin F.entry_type_call ?_⟩
  rw [Around.under_plain (weight_type_call_type "set" [.ref l] []) rfl]
  have h1 := F.called_set.notType
  have h2 := F.called_set.canCreate
  have hct := F.typeCall_set_1 (.ref l)
  repeat (any_goals (first | assumption | wp_step))

  have led := code_set_led1 (P := P) (w := w) (A := A.in1) (s := s) (.ref l) (E := E) (Q₁ := fun obj t => obj = .ref s.heap.objs.size ∧ t = { s with heap := setH0 w s.heap }) ⟨rfl, rfl⟩
  refine codeAny_mono led fun r s₁ hr => ?_
  cases r with
  | error e => exact hr
  | ok fl =>
    cases fl with
    | ret obj =>
      obtain ⟨rfl, rfl⟩ := hr
      have hS : (setH0 w s.heap).get? s.heap.objs.size = some (setO0 w) := Heap.get?_push_size _ rfl
      have hT : Shared.TypeIs { s with heap := setH0 w s.heap } (.ref s.heap.objs.size) "set" := ⟨_, hS, rfl⟩
      have hli := F.called_set.init.lookup
      have hbi := F.called_set.init.bind (.ref s.heap.objs.size)
      repeat (any_goals (first | assumption | wp_step))

      refine codeAny_mono (codeAny_call_builtin (R := wants (SetDone w s ns) E) F.called_set.init.plain F.entry_set_init (check_set_init_1 hT ?_)) fun r₂ s₂ hr₂ => ?_
      · obtain ⟨⟨ocls, odict, odata, oslots⟩, hol, hcl, nl, hdl⟩ := hl
        simp only at hcl hdl
        subst hcl
        subst hdl
        have there : (setH0 w s.heap).get? l = some { cls := .type "list", dict := odict, data := .seq items nl, slots := oslots } := Heap.get?_push_of_some _ hol
        have k1 := F.sub_list_set
        have k2 := F.sub_list_frozenset
        have k3 : (Value.type "list" == Value.type "dict") = false := by decide
        have isl : (setH0 w s.heap).IsList l items := ⟨_, there, rfl, nl, rfl⟩
        unfold Builtin.«set.__init__» noKeywords Builtin.Frozenset.updateFrom
        generalize hPI : pyIter = PI
        wp_walk
        subst hPI

        refine wpAny_pyIter_list isl ?_
        refine wpAny_bind (wpAny_runValue ?_)
        have below : l < s.heap.objs.size := Heap.lt_size hol
        have calm3 : A.in1.in1.in1.handled = none := by simp [hh]
        have size1 : (setH0 w s.heap).objs.size = s.heap.objs.size + 1 := Heap.size_push ..
        have apart : l ≠ (setH0 w s.heap).objs.size := by rw [size1]; exact Nat.ne_of_lt (Nat.lt_succ_of_lt below)
        have away : s.heap.objs.size ∉ [(setH0 w s.heap).objs.size, l] := by
          rw [size1]
          intro m
          rcases List.mem_cons.mp m with m | m
          · exact absurd m (Nat.ne_of_lt (Nat.lt_succ_self _))
          · exact absurd (List.mem_singleton.mp m) (Nat.ne_of_gt below)
        have val : ∀ (i : Nat) (v : Value), items[i]? = some v → ∃ k t, ns[i]? = some k ∧ v = .int k t := fun i v hv => by
          obtain ⟨lt, _⟩ := Array.getElem?_eq_some_iff.mp hv
          rw [same] at lt
          obtain ⟨t, e⟩ := PyProof.Rows.IntsAre.int_at hit i v (by rw [Array.getElem?_toList]; exact hv)
          exact ⟨ns[i], t, List.getElem?_eq_getElem lt, by rw [e, List.getD_eq_getElem?_getD, List.getElem?_eq_getElem lt]; rfl⟩
        have start : SetR w ((setH0 w s.heap).push { cls := .type "list_iterator", data := .fields #[.ref l, .int 0 0] }) s.heap.objs.size (fun j => decide (j ∈ ns.take 0)) 0 := setR_new_at (Heap.get?_push_of_some _ hS)
        have walk := (Walks.list (prog := P) (w := w) calm3 (setH0 w s.heap).objs.size l apart items).toS
        refine set_update_ints walk s.heap.objs.size away ns same hb val (items.size - 0) 0 _ (by omega) (Nat.zero_le _) ⟨⟨_, Heap.get?_push_size _ rfl, rfl, rfl⟩, isl.push _⟩ ⟨0, Nat.le_refl 0, start⟩ ?_
        intro s' c' hm hc' hS'
        have eg := hm.gens
        have ed := hm.drawn
        have eo := hm.os
        obtain ⟨h', g2, d', tk', os'⟩ := s'
        simp only at eg ed eo
        subst eg
        subst ed
        subst eo
        show wpAny _ _ _ _ _ _
        refine wpAny_pure ?_
        show wpAny _ _ (ret Value.none) _ _ _
        rw [same] at hc'
        refine wpAny_pure ⟨rfl, h', tk', c', rfl, hS', hc', fun b o e => ?_⟩
        have b0 : b < s.heap.objs.size := Heap.lt_size e
        refine hm.heap b o (fun m => ?_) (Heap.get?_push_of_some _ (Heap.get?_push_of_some _ e))
        rcases List.mem_cons.mp m with m | m
        · exact absurd m (Nat.ne_of_lt b0)
        · have m := List.mem_singleton.mp m
          rw [size1] at m
          exact absurd m (Nat.ne_of_lt (Nat.lt_succ_of_lt b0))
      · cases r₂ with
        | error e => exact hr₂
        | ok fl₂ =>
          cases fl₂ with
          | ret r =>
            obtain ⟨rfl, h', tk, c', rfl, hS', hc', hk'⟩ := hr₂
            repeat (any_goals (first | assumption | wp_step))
            exact h _ _ _ hS' hc' hk'
          | _ => exact hr₂.elim
    | _ => exact hr.elim
end
end Ip
namespace Ip
open PySem PySem.Spec PyProof.Rows L2

/-! ### data as the library has it -/
mutual
def toPy : D → PyData
  | .non => .none
  | .bl b => .bool b
  | .int i => .int i
  | .str s => .str s
  | .tup xs => .tuple (toPys xs)
  | .lst xs => .list (toPys xs)
  | .loc _ => .none
  | .fn _ => .none
  | .exc _ _ => .none
def toPys : List D → List PyData
  | [] => []
  | x :: xs => toPy x :: toPys xs
end
theorem toPys_map : ∀ xs : List D, toPys xs = xs.map toPy
  | [] => rfl
  | x :: xs => by rw [toPys, toPys_map xs, List.map_cons]
section
variable {G : Gx} {w : Wd}
mutual
theorem RP.dp : ∀ {d : D} {v : V} {n : Nat}, RP G w d v → d.data n = true → Dp G.K w.H v (toPy d)
  | _, _, _, .non, _ => .non
  | _, _, _, .bl b, _ => .bl b
  | _, _, _, .int b, _ => .int b
  | _, _, _, .str b, _ => .str b
  | _, _, n, .fn g, h => by cases n <;> cases h
  | _, _, 0, .tup t r, h => by cases h
  | _, _, n + 1, .tup t r, h => .tup t.sq (RPs.dp r (by simpa only [D.data] using h))
  | _, _, 0, .lst t r, h => by cases h
  | _, _, n + 1, .lst t r, h => .lst (LstR.sq t.1) (RPs.dp r (by simpa only [D.data] using h))
theorem RPs.dp : ∀ {ds : List D} {vs : List V} {n : Nat}, RPs G w ds vs → datas ds n = true → DpAll G.K w.H vs (toPys ds)
  | _, _, _, .nil, _ => .nil
  | _, _, n, .cons a r, h => by
    simp only [datas, Bool.and_eq_true] at h
    exact .cons (RP.dp a h.1) (RPs.dp r h.2)
end
end
theorem strFit_ok : ∀ {l : List Nat}, strFit l = true → ∀ c ∈ l, c < 1114112
  | [], _, c, h => by cases h
  | a :: r, h, c, hc => by
    simp only [strFit, Bool.and_eq_true, bltN, decide_eq_true_eq] at h
    rcases List.mem_cons.mp hc with rfl | hc
    · exact h.1
    · exact strFit_ok h.2 c hc
theorem strOk_of {s : Str} (h : strFit s.cps.toList = true) : PyData.strOk s = true := by
  unfold PyData.strOk
  rw [Array.all_eq_true]
  intro i hi
  have := strFit_ok h s.cps[i] (by simp)
  simpa using this
mutual
theorem data_lay : ∀ (d : D) (n : Nat), d.data n = true → (toPy d).canLay0 = true ∧ (toPy d).depth ≤ n
  | .non, _, _ => by simp [toPy, PyData.canLay0, PyData.depth]
  | .bl _, _, _ => by simp [toPy, PyData.canLay0, PyData.depth]
  | .int _, _, _ => by simp [toPy, PyData.canLay0, PyData.depth]
  | .str s, n, h => by
    have h' : strFit s.cps.toList = true := by cases n <;> simpa only [D.data] using h
    exact ⟨by simp only [toPy, PyData.canLay0]; exact strOk_of h', by simp [toPy, PyData.depth]⟩
  | .tup xs, 0, h => by cases h
  | .tup xs, n + 1, h => by
    obtain ⟨a, b⟩ := datas_lay xs n (by simpa only [D.data] using h)
    exact ⟨by simpa only [toPy, PyData.canLay0] using a, by simp only [toPy, PyData.depth]; omega⟩
  | .lst xs, 0, h => by cases h
  | .lst xs, n + 1, h => by
    obtain ⟨a, b⟩ := datas_lay xs n (by simpa only [D.data] using h)
    exact ⟨by simpa only [toPy, PyData.canLay0] using a, by simp only [toPy, PyData.depth]; omega⟩
  | .loc _, n, h => by cases n <;> cases h
  | .fn _, n, h => by cases n <;> cases h
  | .exc _ _, n, h => by cases n <;> cases h
theorem datas_lay : ∀ (ds : List D) (n : Nat), datas ds n = true → PyData.canLayAll0 (toPys ds) = true ∧ PyData.depthAll (toPys ds) ≤ n
  | [], _, _ => by simp [toPys, PyData.canLayAll0, PyData.depthAll]
  | d :: ds, n, h => by
    simp only [datas, Bool.and_eq_true] at h
    obtain ⟨a, b⟩ := data_lay d n h.1
    obtain ⟨a', b'⟩ := datas_lay ds n h.2
    exact ⟨by simp [toPys, PyData.canLayAll0, a, a'], by simp only [toPys, PyData.depthAll]; omega⟩
end
theorem ok_shaped {d : D} (h : d.ok = true) : SeqAt.shaped (toPy d) = true := by
  obtain ⟨a, b⟩ := data_lay d 60 h
  simp only [SeqAt.shaped, Bool.and_eq_true, decide_eq_true_eq]
  exact ⟨a, by omega⟩
theorem eqL_eq : ∀ a b : List Nat, eqL a b = decide (a = b)
  | [], [] => rfl
  | [], _ :: _ => rfl
  | _ :: _, [] => rfl
  | a :: as, b :: bs => by
    rw [eqL, beqN, eqL_eq as bs]
    by_cases h : a = b <;> by_cases h' : as = bs <;> simp [h, h']
theorem eqStr_eq (a b : Str) : eqStr a b = (a == b) := by
  rw [eqStr, eqL_eq, Bool.beq_eq_decide_eq]
  congr 1
  rw [Array.toList_inj, eq_iff_iff]
  exact ⟨fun h => by cases a; cases b; cases h; rfl, fun h => by rw [h]⟩
theorem b2i_eq (b : Bool) : Ip.b2i b = if b then 1 else 0 := by cases b <;> rfl
mutual
theorem eqD_eq : ∀ (d e : D) (n m : Nat), d.data n = true → e.data m = true → eqD d e = PyData.eqv (toPy d) (toPy e)
  | d, e, n, m, hd, he => by
    cases d with
    | loc => cases n <;> cases hd
    | fn => cases n <;> cases hd
    | exc => cases n <;> cases hd
    | tup xs =>
      cases e with
      | loc => cases m <;> cases he
      | fn => cases m <;> cases he
      | exc => cases m <;> cases he
      | tup ys =>
        cases n with
        | zero => cases hd
        | succ n =>
          cases m with
          | zero => cases he
          | succ m => simp only [eqD, toPy, PyData.eqv]; exact eqDs_eq xs ys n m (by simpa only [D.data] using hd) (by simpa only [D.data] using he)
      | _ => simp only [eqD, toPy, PyData.eqv]
    | lst xs =>
      cases e with
      | loc => cases m <;> cases he
      | fn => cases m <;> cases he
      | exc => cases m <;> cases he
      | lst ys =>
        cases n with
        | zero => cases hd
        | succ n =>
          cases m with
          | zero => cases he
          | succ m => simp only [eqD, toPy, PyData.eqv]; exact eqDs_eq xs ys n m (by simpa only [D.data] using hd) (by simpa only [D.data] using he)
      | _ => simp only [eqD, toPy, PyData.eqv]
    | _ =>
      cases e with
      | loc => cases m <;> cases he
      | fn => cases m <;> cases he
      | exc => cases m <;> cases he
      | _ => simp only [eqD, toPy, PyData.eqv, eqI_eq, eqStr_eq, b2i_eq, Bool.beq_eq_decide_eq]
theorem eqDs_eq : ∀ (ds es : List D) (n m : Nat), datas ds n = true → datas es m = true → eqDs ds es = PyData.eqvAll (toPys ds) (toPys es)
  | [], [], _, _, _, _ => by simp only [eqDs, toPys, PyData.eqvAll]
  | [], _ :: _, _, _, _, _ => by simp only [eqDs, toPys, PyData.eqvAll]
  | _ :: _, [], _, _, _, _ => by simp only [eqDs, toPys, PyData.eqvAll]
  | d :: ds, e :: es, n, m, h, h' => by
    simp only [datas, Bool.and_eq_true] at h h'
    simp only [eqDs, toPys, PyData.eqvAll]
    rw [eqD_eq d e n m h.1 h'.1, eqDs_eq ds es n m h.2 h'.2]
end
theorem memD_eq {x : D} {n m : Nat} (hx : x.data n = true) : ∀ {ys : List D}, datas ys m = true → memD x ys = (toPys ys).any fun z => PyData.eqv z (toPy x)
  | [], _ => rfl
  | y :: ys, h => by
    simp only [datas, Bool.and_eq_true] at h
    rw [memD, toPys, List.any_cons, eqD_eq y x m n h.1 hx, memD_eq hx h.2]
end Ip
/-! own dicts: their keys are tuples of ints, texts, bools, None, and of such tuples -/
namespace Ip
open PySem PySem.Spec PyProof.Rows L2
mutual
theorem nk_beq : ∀ (d e : D) (n m : Nat), keyD d n = true → keyD e m = true → eqD d e = NestedKey.beq (nkOf d) (nkOf e)
  | d, e, n, m, hd, he => by
    cases d with
    | loc => cases n <;> cases hd
    | fn => cases n <;> cases hd
    | exc => cases n <;> cases hd
    | lst => cases n <;> cases hd
    | tup xs =>
      cases e with
      | loc => cases m <;> cases he
      | fn => cases m <;> cases he
      | exc => cases m <;> cases he
      | lst => cases m <;> cases he
      | tup ys =>
        cases n with
        | zero => cases hd
        | succ n =>
          cases m with
          | zero => cases he
          | succ m => simp only [eqD, nkOf, NestedKey.beq]; exact nks_beq xs ys n m (by simpa only [keyD] using hd) (by simpa only [keyD] using he)
      | _ => simp only [eqD, nkOf, NestedKey.beq]
    | bl a =>
      cases e with
      | loc => cases m <;> cases he
      | fn => cases m <;> cases he
      | exc => cases m <;> cases he
      | lst => cases m <;> cases he
      | bl b => simp only [eqD, nkOf, NestedKey.beq]; cases a <;> cases b <;> rfl
      | int j => simp only [eqD, nkOf, NestedKey.beq, eqI_eq]
      | _ => simp only [eqD, nkOf, NestedKey.beq]
    | str a =>
      cases e with
      | loc => cases m <;> cases he
      | fn => cases m <;> cases he
      | exc => cases m <;> cases he
      | lst => cases m <;> cases he
      | str b =>
        simp only [eqD, nkOf, NestedKey.beq, eqStr_eq]
        by_cases z : a = b
        · subst z; simp
        · rw [decide_eq_false z, beq_eq_false_iff_ne]; exact z
      | _ => simp only [eqD, nkOf, NestedKey.beq]
    | _ =>
      cases e with
      | loc => cases m <;> cases he
      | fn => cases m <;> cases he
      | exc => cases m <;> cases he
      | lst => cases m <;> cases he
      | _ => simp only [eqD, nkOf, NestedKey.beq, eqI_eq]
theorem nks_beq : ∀ (ds es : List D) (n m : Nat), keysD ds n = true → keysD es m = true → eqDs ds es = NestedKey.beqAll (nkOfs ds) (nkOfs es)
  | [], [], _, _, _, _ => by simp only [eqDs, nkOfs, NestedKey.beqAll]
  | [], _ :: _, _, _, _, _ => by simp only [eqDs, nkOfs, NestedKey.beqAll]
  | _ :: _, [], _, _, _, _ => by simp only [eqDs, nkOfs, NestedKey.beqAll]
  | d :: ds, e :: es, n, m, h, h' => by
    simp only [keysD, Bool.and_eq_true] at h h'
    simp only [eqDs, nkOfs, NestedKey.beqAll]
    rw [nk_beq d e n m h.1 h'.1, nks_beq ds es n m h.2 h'.2]
end
theorem tupKey_key {d : D} (h : tupKey d = true) : keyD d 8 = true := by
  cases d <;> first | (simpa only [tupKey, keyD] using h) | cases h
theorem nk_eq {d e : D} (h : tupKey d = true) (h' : tupKey e = true) : eqD d e = decide (nkOf d = nkOf e) := by
  rw [nk_beq d e 8 8 (tupKey_key h) (tupKey_key h'), NestedKey.decide_eq]
section
variable {X : L2.Cx} {G : Gx} {pins : List (Addr × Obj)} {σ : L2.St} {s : Shared} {w : Wd}
mutual
theorem RP.nested (I : Inv X pins σ w.H s) (hK : X.K = G.K) : ∀ {d : D} {v : V} {n : Nat} {u : Value}, RP G w d v → keyD d n = true → RelV v u → NestedIs s.heap (nkOf d) u ∧ (nkOf d).depth ≤ n
  | _, _, n, u, .non, _, r => by cases r; simp only [nkOf]; exact ⟨.none, Nat.zero_le _⟩
  | _, _, n, u, .bl b, _, r => by cases r; simp only [nkOf]; exact ⟨.bool (by cases b <;> rfl), Nat.zero_le _⟩
  | _, _, n, u, .int i, _, r => by obtain ⟨t, rfl⟩ := r; simp only [nkOf]; exact ⟨.int i t, Nat.zero_le _⟩
  | _, _, n, u, .str i, _, r => by obtain ⟨t, rfl⟩ := r; simp only [nkOf]; exact ⟨.text i t, Nat.zero_le _⟩
  | _, _, n, u, .fn g, h, _ => by cases n <;> cases h
  | _, _, n, u, .lst _ _, h, _ => by cases n <;> cases h
  | _, _, 0, u, .tup _ _, h, _ => by cases h
  | _, _, n + 1, u, .tup t q, h, r => by
    cases r
    obtain ⟨its, vr, ⟨o, e1, e2, k, e3⟩, _⟩ := I.tuple (by rw [hK]; exact t.sq)
    have a := RPs.nested I hK q (by simpa only [keyD] using h) vr
    simp only [nkOf, NestedKey.depth]
    exact ⟨.tup e1 e2 e3 (by simpa using a.1), by omega⟩
theorem RPs.nested (I : Inv X pins σ w.H s) (hK : X.K = G.K) : ∀ {ds : List D} {vs : List V} {n : Nat} {us : List Value}, RPs G w ds vs → keysD ds n = true → Vals vs us → NestedAll s.heap (nkOfs ds) us ∧ NestedKey.depthAll (nkOfs ds) ≤ n
  | _, _, n, us, .nil, _, r => by cases r; simp only [nkOfs, NestedKey.depthAll]; exact ⟨.nil, Nat.zero_le _⟩
  | _, _, n, us, .cons a q, h, r => by
    cases r with
    | cons r1 r2 =>
      simp only [keysD, Bool.and_eq_true] at h
      have a1 := RP.nested I hK a h.1 r1
      have a2 := RPs.nested I hK q h.2 r2
      simp only [nkOfs, NestedKey.depthAll]
      exact ⟨.cons a1.1 a2.1, by omega⟩
end
abbrev nkd (X : L2.Cx) : HeapKind X.prog X.w NestedKey := nestedKind X.prog X.w
theorem key_is (I : Inv X pins σ w.H s) (hK : X.K = G.K) {d : D} {a : Addr} (q : RP G w d (.ref a)) (h : tupKey d = true) : (nkd X).is s.heap (nkOf d) a := RP.nested I hK q (tupKey_key h) rfl
/-- the entries by their keys -/
theorem KDs.at : ∀ {kvs : List (D × D)} {xs : List (NestedKey × Addr × Value)} {k : D}, KDs G w kvs xs → tupKey k = true → (match dLook k kvs with
    | some d => ∃ a v u, atKey xs (nkOf k) = some (a, u) ∧ RelV v u ∧ RP G w d v
    | none => atKey xs (nkOf k) = none)
  | [], [], k, _, _ => rfl
  | [], _ :: _, _, h, _ => h.elim
  | _ :: _, [], _, h, _ => h.elim
  | (k1, d1) :: r, (n1, a1, u1) :: t, k, ⟨⟨e, tk, rp⟩, ⟨v, rv, rd⟩, rest⟩, hk => by
    have ih := KDs.at rest hk
    have e : n1 = nkOf k1 := e
    rw [dLook]
    by_cases z : nkOf k1 = nkOf k
    · have zz : eqD k1 k = true := by rw [nk_eq tk hk]; exact decide_eq_true z
      rw [if_pos (show eqD (k1, d1).1 k = true from zz)]
      exact ⟨a1, v, u1, by simp [atKey, e, z], rv, rd⟩
    · have zz : ¬ eqD k1 k = true := by rw [nk_eq tk hk, decide_eq_true_eq]; exact z
      rw [if_neg (show ¬ eqD (k1, d1).1 k = true from zz)]
      have sk : atKey ((n1, a1, u1) :: t) (nkOf k) = atKey t (nkOf k) := by simp [atKey, e, z]
      rw [sk]
      exact ih
theorem KDs.len : ∀ {kvs : List (D × D)} {xs : List (NestedKey × Addr × Value)}, KDs G w kvs xs → kvs.length = xs.length
  | [], [], _ => rfl
  | [], _ :: _, h => h.elim
  | _ :: _, [], h => h.elim
  | _ :: r, _ :: t, ⟨_, _, rest⟩ => by rw [List.length_cons, List.length_cons, KDs.len rest]
theorem putAt_no {k : NestedKey} {u : Value} : ∀ {xs : List (NestedKey × Addr × Value)}, k ∉ xs.map (·.1) → xs.map (putAt k u) = xs
  | [], _ => rfl
  | x :: r, h => by
    rw [List.map_cons, List.mem_cons, not_or] at h
    rw [List.map_cons, putAt_no h.2, putAt, if_neg (fun z => h.1 z.symm)]
theorem KDs.put {k d : D} {a : Addr} {v : V} {u : Value} (hk : tupKey k = true) (qk : RP G w k (.ref a)) (rv : RelV v u) (qd : RP G w d v) : ∀ {kvs : List (D × D)} {xs : List (NestedKey × Addr × Value)}, KDs G w kvs xs → (xs.map (·.1)).Nodup → KDs G w (dPut k d kvs) (storedH xs (nkOf k) a u)
  | [], [], _, _ => by
    rw [dPut, storedH_new (by simp [atKey])]
    exact ⟨⟨rfl, hk, qk⟩, ⟨v, rv, qd⟩, trivial⟩
  | [], _ :: _, h, _ => h.elim
  | _ :: _, [], h, _ => h.elim
  | (k1, d1) :: r, (n1, a1, u1) :: t, ⟨⟨e, tk, rp⟩, ⟨v1, rv1, rd1⟩, rest⟩, nd => by
    have e : n1 = nkOf k1 := e
    rw [List.map_cons, List.nodup_cons] at nd
    have ih := KDs.put hk qk rv qd rest nd.2
    rw [dPut]
    by_cases z : nkOf k1 = nkOf k
    · have zz : eqD k1 k = true := by rw [nk_eq tk hk]; exact decide_eq_true z
      rw [if_pos (show eqD (k1, d1).1 k = true from zz), storedH_old (p := (a1, u1)) (by simp [atKey, e, z]), List.map_cons, putAt_no (by rw [← z, ← e]; exact nd.1), putAt, if_pos (e.trans z)]
      exact ⟨⟨e, tk, rp⟩, ⟨v, rv, qd⟩, rest⟩
    · have zz : ¬ eqD k1 k = true := by rw [nk_eq tk hk, decide_eq_true_eq]; exact z
      rw [if_neg (show ¬ eqD (k1, d1).1 k = true from zz)]
      have sk : atKey ((n1, a1, u1) :: t) (nkOf k) = atKey t (nkOf k) := by simp [atKey, e, z]
      have cons : storedH ((n1, a1, u1) :: t) (nkOf k) a u = (n1, a1, u1) :: storedH t (nkOf k) a u := by
        unfold storedH
        rw [sk]
        split
        · rw [List.map_cons, putAt, if_neg (by rw [e]; exact z)]
        · rfl
      rw [cons]
      exact ⟨⟨e, tk, rp⟩, ⟨v1, rv1, rd1⟩, ih⟩
theorem KDs.mem {kvs : List (D × D)} {xs : List (NestedKey × Addr × Value)} (I : Inv X pins σ w.H s) (hK : X.K = G.K) : KDs G w kvs xs → ∀ x ∈ xs, (nkd X).is s.heap x.1 x.2.1 := by
  induction kvs generalizing xs with
  | nil => cases xs with
    | nil => intro _ x hx; cases hx
    | cons _ _ => exact fun h => h.elim
  | cons p r ih => cases xs with
    | nil => exact fun h => h.elim
    | cons q t =>
      rintro ⟨⟨e, tk, rp⟩, _, rest⟩ x hx
      rcases List.mem_cons.mp hx with rfl | hx
      · rw [e]; exact key_is I hK rp tk
      · exact ih rest x hx
/-- a cell that is a dict, in the heap -/
theorem dct_at (I : Inv X pins σ w.H s) (hK : X.K = G.K) (hH : ∀ k, G.hs k = k.hash X.w) {i : Nat} {kvs : List (D × D)} (rel : Rel G w) (e : w.η[i]? = some (.dct kvs)) :
    ∃ o xs, w.H (w.mp i) = some (.ext fun h => h.get? (w.mp i) = some o) ∧ (w.mp i == sysModules) = false ∧ KDs G w kvs xs ∧ (xs.map (·.1)).Nodup ∧ s.heap.DictOfH (nkd X) (w.mp i) xs := by
  obtain ⟨o, xs, h1, h2, ⟨x1, ⟨es, ep, x2, x3⟩, nd⟩, h4⟩ := rel.cell i _ e
  have g : s.heap.get? (w.mp i) = some o := (I.hok _ _ h1).1
  exact ⟨o, xs, h1, h2, h4, nd, o, es, ep, g, x1, x2, by rw [x3]; exact List.map_congr_left fun x _ => by unfold entryOfKey; rw [hH x.1]; rfl, h4.mem I hK, nd⟩
theorem dct_loc (rel : Rel G w) {d : D} {v : V} (q : RV G w d v) {kvs : List (D × D)} (h : dctAt w.η d = some kvs) : ∃ i, d = .loc i ∧ i < w.η.length ∧ v = .ref (w.mp i) ∧ w.η[i]? = some (.dct kvs) := by
  cases d with
  | loc i =>
    obtain ⟨hi, rfl⟩ := q.loc
    refine ⟨i, rfl, hi, rfl, ?_⟩
    simp only [dctAt] at h
    cases e : w.η[i]? with
    | none => rw [e] at h; cases h
    | some c =>
      rw [e] at h
      cases c with
      | dct l => simp only [Option.some.injEq] at h; subst h; rfl
      | _ => cases h
  | _ => cases h
theorem key_ref {d : D} {v : V} (q : RV G w d v) (h : tupKey d = true) : ∃ a, v = .ref a ∧ RP G w d (.ref a) := by
  cases d with
  | tup xs =>
    have r := q.rp rfl
    cases r with
    | tup t rs => exact ⟨_, rfl, .tup t rs⟩
  | _ => cases h
end
end Ip
namespace Ip
open PySem PySem.Spec PyProof.Rows L2

/-! ### order -/
mutual
theorem alike_eq : ∀ (d e : D) (n m : Nat), d.data n = true → e.data m = true → alikeD d e = PySem.W.alike (toPy d) (toPy e)
  | d, e, n, m, hd, he => by
    cases d with
    | loc => cases n <;> cases hd
    | fn => cases n <;> cases hd
    | exc => cases n <;> cases hd
    | tup xs =>
      cases e with
      | loc => cases m <;> cases he
      | fn => cases m <;> cases he
      | exc => cases m <;> cases he
      | tup ys =>
        cases n with
        | zero => cases hd
        | succ n =>
          cases m with
          | zero => cases he
          | succ m => simp only [alikeD, toPy, PySem.W.alike]; exact alikes_eq xs ys n m (by simpa only [D.data] using hd) (by simpa only [D.data] using he)
      | _ => simp only [alikeD, toPy, PySem.W.alike]
    | lst xs =>
      cases e with
      | loc => cases m <;> cases he
      | fn => cases m <;> cases he
      | exc => cases m <;> cases he
      | lst ys =>
        cases n with
        | zero => cases hd
        | succ n =>
          cases m with
          | zero => cases he
          | succ m => simp only [alikeD, toPy, PySem.W.alike]; exact alikes_eq xs ys n m (by simpa only [D.data] using hd) (by simpa only [D.data] using he)
      | _ => simp only [alikeD, toPy, PySem.W.alike]
    | _ =>
      cases e with
      | loc => cases m <;> cases he
      | fn => cases m <;> cases he
      | exc => cases m <;> cases he
      | _ => simp only [alikeD, toPy, PySem.W.alike]
theorem alikes_eq : ∀ (ds es : List D) (n m : Nat), datas ds n = true → datas es m = true → alikeDs ds es = PySem.W.alikeAll (toPys ds) (toPys es)
  | [], [], _, _, _, _ => by simp only [alikeDs, toPys, PySem.W.alikeAll]
  | [], _ :: _, _, _, _, _ => by simp only [alikeDs, toPys, PySem.W.alikeAll]
  | _ :: _, [], _, _, _, _ => by simp only [alikeDs, toPys, PySem.W.alikeAll]
  | d :: ds, e :: es, n, m, h, h' => by
    simp only [datas, Bool.and_eq_true] at h h'
    simp only [alikeDs, toPys, PySem.W.alikeAll]
    rw [alike_eq d e n m h.1 h'.1, alikes_eq ds es n m h.2 h'.2]
end
theorem ltL_eq : ∀ a b : List Nat, ltL a b = decide (a < b)
  | [], [] => (decide_eq_false (by simp)).symm
  | [], _ :: _ => (decide_eq_true (by simp)).symm
  | _ :: _, [] => (decide_eq_false (by simp)).symm
  | a :: as, b :: bs => by
    rw [ltL, beqN, bltN, ltL_eq as bs]
    by_cases h : a = b
    · subst h; simp
    · simp [h, List.cons_lt_cons_iff]
mutual
theorem lt_eq : ∀ (d e : D) (n m : Nat), d.data n = true → e.data m = true → alikeD d e = true → ltD d e = PySem.W.dataLt (toPy d) (toPy e)
  | d, e, n, m, hd, he, ha => by
    cases d with
    | loc => cases n <;> cases hd
    | fn => cases n <;> cases hd
    | exc => cases n <;> cases hd
    | non =>
      cases e with
      | non => simp only [ltD, toPy]; rfl
      | _ => simp only [alikeD] at ha; cases ha
    | int i =>
      cases e with
      | int j => simp only [ltD, toPy]; rw [ltI_eq, PySem.W.dataLt_int]
      | _ => simp only [alikeD] at ha; cases ha
    | bl i =>
      cases e with
      | bl j => simp only [ltD, toPy]; rw [PySem.W.dataLt_bool]; cases i <;> cases j <;> rfl
      | _ => simp only [alikeD] at ha; cases ha
    | str i =>
      cases e with
      | str j => simp only [ltD, toPy]; rw [ltL_eq, PySem.W.dataLt_str]
      | _ => simp only [alikeD] at ha; cases ha
    | tup xs =>
      cases e with
      | tup ys =>
        cases n with
        | zero => cases hd
        | succ n =>
          cases m with
          | zero => cases he
          | succ m => simp only [ltD, toPy]; rw [PySem.W.dataLt_tuple]; exact lts_eq xs ys n m (by simpa only [D.data] using hd) (by simpa only [D.data] using he) (by simpa only [alikeD] using ha)
      | _ => simp only [alikeD] at ha; cases ha
    | lst xs =>
      cases e with
      | lst ys =>
        cases n with
        | zero => cases hd
        | succ n =>
          cases m with
          | zero => cases he
          | succ m => simp only [ltD, toPy]; rw [PySem.W.dataLt_list]; exact lts_eq xs ys n m (by simpa only [D.data] using hd) (by simpa only [D.data] using he) (by simpa only [alikeD] using ha)
      | _ => simp only [alikeD] at ha; cases ha
theorem lts_eq : ∀ (ds es : List D) (n m : Nat), datas ds n = true → datas es m = true → alikeDs ds es = true →
    ltDs ds es = PyProof.Rows.lexLt PyProof.Rows.itemOrd (PySem.W.keyToksAll (toPys ds)) (PySem.W.keyToksAll (toPys es))
  | [], [], _, _, _, _, _ => by simp only [ltDs, toPys]; rfl
  | [], _ :: _, _, _, _, _, _ => by simp only [ltDs, toPys]; rfl
  | _ :: _, [], _, _, _, _, _ => by simp only [ltDs, toPys]; rfl
  | d :: ds, e :: es, n, m, h, h', ha => by
    simp only [datas, Bool.and_eq_true] at h h'
    simp only [alikeDs, Bool.and_eq_true] at ha
    have al : PySem.W.alike (toPy d) (toPy e) = true := by rw [← alike_eq d e n m h.1 h'.1]; exact ha.1
    simp only [ltDs, toPys]
    rw [PySem.W.dataLt_cons al, eqD_eq d e n m h.1 h'.1, lts_eq ds es n m h.2 h'.2 ha.2, lt_eq d e n m h.1 h'.1 ha.1]
end
theorem isNon_py {d : D} {n : Nat} (h : d.data n = true) (hn : d.isNon = false) : toPy d ≠ .none := by
  cases d with
  | non => cases hn
  | loc => cases n <;> cases h
  | fn => cases n <;> cases h
  | exc => cases n <;> cases h
  | _ => intro z; simp only [toPy] at z; cases z

/-! ### comparisons by values -/
def cmOf : Cm → CmpOp
  | .eq => .Eq | .ne => .NotEq | .lt => .Lt | .le => .LtE | .gt => .Gt | .ge => .GtE | .inn => .In | .nin => .NotIn
def rCmp (G : Gx) (o : Cm) : R2 := fun x y H Q => ∃ w d1 d2 t, w.H = H ∧ Rel G w ∧ RV G w d1 x ∧ RV G w d2 y ∧ cmpop o d1 d2 w.η = some t ∧ Q (.bl t) H
section
variable {G : Gx} {w : Wd}
theorem dp_of (r : Rel G w) {d d' : D} {v : V} (q : RV G w d v) (h : deref w.η d = some d') (k : d'.ok = true) : Dp G.K w.H v (toPy d') := by
  cases d with
  | loc i =>
    obtain ⟨hi, rfl⟩ := q.loc
    simp only [deref] at h
    cases e : w.η[i]? with
    | none => rw [e] at h; cases h
    | some c =>
      rw [e] at h
      cases c with
      | lst ys =>
        simp only [Option.some.injEq] at h
        subst h
        obtain ⟨vs, e1, e2⟩ := r.cell i _ e
        exact .lst (.inl (.inl e1)) (e2.dp (n := 59) (by simpa only [D.ok, D.data] using k))
      | _ => cases h
  | exc => simp only [deref, Option.some.injEq] at h; subst h; cases k
  | _ =>
    simp only [deref, Option.some.injEq] at h
    subst h
    exact (q.rp rfl).dp k
variable {X : L2.Cx}
theorem seq_dp (r : Rel G w) {d : D} {v : V} {xs : List D} (q : RV G w d v) (h : seqAt w.η d = some xs) (k : datas xs 59 = true) :
    (Dp G.K w.H v (.list (toPys xs)) ∨ Dp G.K w.H v (.tuple (toPys xs))) := by
  obtain ⟨a, vs, rfl, rs, ⟨l, _⟩ | ⟨t, _⟩⟩ := seq_of r q h
  · exact .inl (.lst l.sq (rs.dp k))
  · exact .inr (.tup t.sq (rs.dp k))
theorem datas_shaped {xs : List D} (k : datas xs 59 = true) : PyData.canLayAll0 (toPys xs) = true ∧ PyData.depthAll (toPys xs) ≤ 59 := datas_lay xs 59 k
theorem op_cmp_eq (hK : X.K = G.K) (hu : X.A.units + 64 < cLine) : OpR X (compareOp .Eq) (rCmp G .eq) := by
  intro pins s σ H x y v u Q I rx ry h
  obtain ⟨w, d1, d2, t, rfl, rel, q1, q2, e, q⟩ := h
  have any : (match deref w.η d1, deref w.η d2 with
      | some x, some y => if x.ok && y.ok then some (eqD x y) else none
      | _, _ => none) = some t → wpAny (model X.prog X.w) X.A (compareOp .Eq v u) (EP X pins σ Q) X.xe s := fun e => by
    cases e1 : deref w.η d1 with
    | none => rw [e1] at e; cases e
    | some x' =>
      cases e2 : deref w.η d2 with
      | none => rw [e1, e2] at e; cases e
      | some y' =>
        rw [e1, e2] at e
        simp only at e
        split at e
        · rename_i k
          rw [Bool.and_eq_true] at k
          cases e
          refine op_eqD hu pins s σ w.H x y v u Q I rx ry ⟨_, _, by rw [hK]; exact dp_of rel q1 e1 k.1, by rw [hK]; exact dp_of rel q2 e2 k.2, ok_shaped k.1, ok_shaped k.2, ?_⟩
          rw [← eqD_eq x' y' 60 60 k.1 k.2]
          exact q
        · cases e
  cases d1 with
  | int i =>
    cases d2 with
    | int j =>
      cases q1.int; cases q2.int
      simp only [cmpop, Option.some.injEq] at e
      subst e
      refine op_eq pins s σ w.H _ _ v u Q I rx ry ⟨rfl, ?_⟩
      rw [dec_int, Bool.beq_eq_decide_eq, ← eqI_eq]
      exact q
    | _ => exact any e
  | _ => exact any (by cases d2 <;> exact e)
theorem op_cmp_ne (hK : X.K = G.K) (hu : X.A.units + 64 < cLine) : OpR X (compareOp .NotEq) (rCmp G .ne) := by
  intro pins s σ H x y v u Q I rx ry h
  obtain ⟨w, d1, d2, t, rfl, rel, q1, q2, e, q⟩ := h
  have any : (match deref w.η d1, deref w.η d2 with
      | some x, some y => if x.ok && y.ok then some (!eqD x y) else none
      | _, _ => none) = some t → wpAny (model X.prog X.w) X.A (compareOp .NotEq v u) (EP X pins σ Q) X.xe s := fun e => by
    cases e1 : deref w.η d1 with
    | none => rw [e1] at e; cases e
    | some x' =>
      cases e2 : deref w.η d2 with
      | none => rw [e1, e2] at e; cases e
      | some y' =>
        rw [e1, e2] at e
        simp only at e
        split at e
        · rename_i k
          rw [Bool.and_eq_true] at k
          cases e
          refine op_neD hu pins s σ w.H x y v u Q I rx ry ⟨_, _, by rw [hK]; exact dp_of rel q1 e1 k.1, by rw [hK]; exact dp_of rel q2 e2 k.2, ok_shaped k.1, ok_shaped k.2, ?_⟩
          rw [← eqD_eq x' y' 60 60 k.1 k.2]
          exact q
        · cases e
  cases d1 with
  | int i =>
    cases d2 with
    | int j =>
      cases q1.int; cases q2.int
      simp only [cmpop, Option.some.injEq] at e
      subst e
      refine op_ne pins s σ w.H _ _ v u Q I rx ry ⟨rfl, ?_⟩
      rw [dec_int, Bool.beq_eq_decide_eq, ← eqI_eq]
      exact q
    | _ => exact any e
  | _ => exact any (by cases d2 <;> exact e)
/-- < by data -/
theorem less_run (hK : X.K = G.K) (hu : X.A.units + 64 < cLine) {pins : List (Addr × Obj)} {s : Shared} {σ : L2.St} {d1 d2 : D} {x y : V} {v u : Value} {t : Bool} {Q : VK} (I : Inv X pins σ w.H s) (rel : Rel G w) (q1 : RV G w d1 x) (q2 : RV G w d2 y) (rx : RelV x v) (ry : RelV y u)
    (e : lessD d1 d2 = some t) : (∃ i j, d1 = .int i ∧ d2 = .int j ∧ x = .int i ∧ y = .int j ∧ t = decide (i < j)) ∨
      ∃ as bs, Reads s.heap v (toPy d1) as ∧ Reads s.heap u (toPy d2) bs ∧ PySem.W.alike (toPy d1) (toPy d2) = true ∧ toPy d1 ≠ .none ∧ X.A.units + min (toPy d1).depth (toPy d2).depth < cLine ∧ t = PySem.W.dataLt (toPy d1) (toPy d2) := by
  have any : (if d1.data 60 && d2.data 60 && alikeD d1 d2 && !d1.isNon then some (ltD d1 d2) else none) = some t →
      ∃ as bs, Reads s.heap v (toPy d1) as ∧ Reads s.heap u (toPy d2) bs ∧ PySem.W.alike (toPy d1) (toPy d2) = true ∧ toPy d1 ≠ .none ∧ X.A.units + min (toPy d1).depth (toPy d2).depth < cLine ∧ t = PySem.W.dataLt (toPy d1) (toPy d2) := fun e => by
    split at e
    · rename_i k
      simp only [Bool.and_eq_true, Bool.not_eq_true'] at k
      obtain ⟨⟨⟨k1, k2⟩, k3⟩, k4⟩ := k
      cases e
      have n1 : d1.noLoc = true := by cases d1 <;> first | rfl | cases k1
      have n2 : d2.noLoc = true := by cases d2 <;> first | rfl | cases k2
      obtain ⟨as, r1⟩ := Dp.reads I _ x v (by rw [hK]; exact (q1.rp n1).dp k1) rx
      obtain ⟨bs, r2⟩ := Dp.reads I _ y u (by rw [hK]; exact (q2.rp n2).dp k2) ry
      refine ⟨as, bs, r1, r2, by rw [← alike_eq d1 d2 60 60 k1 k2]; exact k3, isNon_py k1 k4, ?_, lt_eq d1 d2 60 60 k1 k2 k3⟩
      have := (data_lay d1 60 k1).2
      have := Nat.min_le_left (toPy d1).depth (toPy d2).depth
      omega
    · cases e
  cases d1 with
  | int i =>
    cases d2 with
    | int j =>
      cases q1.int; cases q2.int
      simp only [lessD, Option.some.injEq] at e
      exact .inl ⟨i, j, rfl, rfl, rfl, rfl, by rw [← e, ltI_eq]⟩
    | _ => exact .inr (any e)
  | _ => exact .inr (any (by cases d2 <;> exact e))
theorem op_cmp_lt (hK : X.K = G.K) (hu : X.A.units + 64 < cLine) : OpR X (compareOp .Lt) (rCmp G .lt) := by
  intro pins s σ H x y v u Q I rx ry h
  obtain ⟨w, d1, d2, t, rfl, rel, q1, q2, e, q⟩ := h
  rcases less_run (Q := Q) hK hu I rel q1 q2 rx ry e with ⟨i, j, rfl, rfl, rfl, rfl, rfl⟩ | ⟨as, bs, r1, r2, al, nn, un, rfl⟩
  · exact op_lt pins s σ w.H _ _ v u Q I rx ry ⟨i, j, rfl, rfl, q⟩
  · exact PySem.W.lt_data r1 r2 al nn un ⟨.bl _, w.H, I, rfl, q⟩
theorem alike_symm_none : ∀ {d e : PyData}, PySem.W.alike d e = true → e ≠ .none → d ≠ .none := fun {d e} h n z => by
  subst z
  cases e <;> first | exact n rfl | (simp only [PySem.W.alike] at h; cases h)
theorem op_cmp_gt (hK : X.K = G.K) (hu : X.A.units + 64 < cLine) : OpR X (compareOp .Gt) (rCmp G .gt) := by
  intro pins s σ H x y v u Q I rx ry h
  obtain ⟨w, d1, d2, t, rfl, rel, q1, q2, e, q⟩ := h
  rcases less_run (Q := Q) hK hu I rel q2 q1 ry rx (show lessD d2 d1 = some t from e) with ⟨i, j, rfl, rfl, rfl, rfl, rfl⟩ | ⟨as, bs, r1, r2, al, nn, un, rfl⟩
  · exact op_gt pins s σ w.H _ _ v u Q I rx ry ⟨j, i, rfl, rfl, q⟩
  · have al' : PySem.W.alike (toPy d1) (toPy d2) = true  := by rw [PySem.W.alike_comm]; exact al
    exact PySem.W.gt_data r2 r1 al' (alike_symm_none al' nn) (by rw [Nat.min_comm]; exact un) ⟨.bl _, w.H, I, rfl, q⟩
theorem op_cmp_le : OpR X (compareOp .LtE) (rCmp G .le) := by
  intro pins s σ H x y v u Q I rx ry h
  obtain ⟨w, d1, d2, t, rfl, rel, q1, q2, e, q⟩ := h
  cases d1 with
  | int i =>
    cases d2 with
    | int j =>
      cases q1.int; cases q2.int
      simp only [cmpop, Option.some.injEq] at e
      subst e
      refine op_le pins s σ w.H _ _ v u Q I rx ry ⟨i, j, rfl, rfl, ?_⟩
      have z : decide (i ≤ j) = !ltI j i := by rw [ltI_eq, Bool.eq_iff_iff]; simp
      rw [← z] at q
      exact q
    | _ => cases e
  | _ => cases d2 <;> cases e
theorem op_cmp_in (hH : ∀ k, G.hs k = k.hash X.w) (hK : X.K = G.K) (hu : X.A.units + 64 < cLine) : OpR X (compareOp .In) (rCmp G .inn) := by
  intro pins s σ H x y v u Q I rx ry h
  obtain ⟨w, d1, d2, t, rfl, rel, q1, q2, e, q⟩ := h
  simp only [cmpop] at e
  split at e
  · rename_i kvs ek
    split at e
    · rename_i hk
      cases e
      obtain ⟨i, rfl, hi, rfl, eη⟩ := dct_loc rel q2 ek
      obtain ⟨a, rfl, qk⟩ := key_ref q1 hk
      obtain ⟨o, xs, h1, h2, h3, h4, h5⟩ := dct_at I hK hH rel eη
      cases rx; cases ry
      have at_ := h3.at hk
      refine in_keyed (knd := nkd X) (by show X.A.units + 1 + 8 < cLine; omega) (key_is I hK qk hk) h2 ⟨xs, h5, rfl⟩ ⟨.bl _, w.H, I.tok _, rfl, ?_⟩
      rw [valueAt_pairsH]
      split at at_
      · rename_i d hd
        obtain ⟨a', v', u', z, _⟩ := at_
        rw [z]
        rw [hd] at q
        exact q
      · rename_i hd
        rw [at_]
        rw [hd] at q
        exact q
    · cases e
  · split at e
    · rename_i ys ey
      split at e
      · rename_i k
        rw [Bool.and_eq_true] at k
        cases e
        have n1 : d1.noLoc = true := by cases d1 <;> first | rfl | cases k.1
        obtain ⟨as, r1⟩ := Dp.reads I _ x v (by rw [hK]; exact (q1.rp n1).dp k.1) rx
        have l1 := data_lay d1 60 k.1
        have l2 := datas_shaped k.2
        have un : X.A.units + 1 + min (PyData.depthAll (toPys ys)) (toPy d1).depth < cLine := by
          have := Nat.min_le_left (PyData.depthAll (toPys ys)) (toPy d1).depth
          omega
        rw [memD_eq k.1 k.2] at q
        rcases seq_dp rel q2 ey k.2 with hd | hd
        · obtain ⟨bs, r2⟩ := Dp.reads I _ y u (by rw [hK]; exact hd) ry
          exact SeqAt.in_list_reads r2 r1 l2.1 l1.1 un ⟨.bl _, w.H, I, rfl, q⟩
        · obtain ⟨bs, r2⟩ := Dp.reads I _ y u (by rw [hK]; exact hd) ry
          exact SeqAt.in_tuple_reads r2 r1 l2.1 l1.1 un ⟨.bl _, w.H, I, rfl, q⟩
      · cases e
    · cases e
theorem op_cmp_nin (hH : ∀ k, G.hs k = k.hash X.w) (hK : X.K = G.K) (hu : X.A.units + 64 < cLine) : OpR X (compareOp .NotIn) (rCmp G .nin) := by
  intro pins s σ H x y v u Q I rx ry h
  obtain ⟨w, d1, d2, t, rfl, rel, q1, q2, e, q⟩ := h
  simp only [cmpop] at e
  split at e
  · rename_i kvs ek
    split at e
    · rename_i hk
      cases e
      obtain ⟨i, rfl, hi, rfl, eη⟩ := dct_loc rel q2 ek
      obtain ⟨a, rfl, qk⟩ := key_ref q1 hk
      obtain ⟨o, xs, h1, h2, h3, h4, h5⟩ := dct_at I hK hH rel eη
      cases rx; cases ry
      have at_ := h3.at hk
      refine notIn_keyed (knd := nkd X) (by show X.A.units + 1 + 8 < cLine; omega) (key_is I hK qk hk) h2 ⟨xs, h5, rfl⟩ ⟨.bl _, w.H, I.tok _, rfl, ?_⟩
      rw [valueAt_pairsH]
      split at at_
      · rename_i d hd
        obtain ⟨a', v', u', z, _⟩ := at_
        rw [z]
        rw [hd] at q
        exact q
      · rename_i hd
        rw [at_]
        rw [hd] at q
        exact q
    · cases e
  · split at e
    · rename_i ys ey
      split at e
      · rename_i k
        rw [Bool.and_eq_true] at k
        cases e
        have n1 : d1.noLoc = true := by cases d1 <;> first | rfl | cases k.1
        obtain ⟨as, r1⟩ := Dp.reads I _ x v (by rw [hK]; exact (q1.rp n1).dp k.1) rx
        have l1 := data_lay d1 60 k.1
        have l2 := datas_shaped k.2
        have un : X.A.units + 1 + min (PyData.depthAll (toPys ys)) (toPy d1).depth < cLine := by
          have := Nat.min_le_left (PyData.depthAll (toPys ys)) (toPy d1).depth
          omega
        rw [memD_eq k.1 k.2] at q
        rcases seq_dp rel q2 ey k.2 with hd | hd
        · obtain ⟨bs, r2⟩ := Dp.reads I _ y u (by rw [hK]; exact hd) ry
          exact SeqAt.notIn_list_reads r2 r1 l2.1 l1.1 un ⟨.bl _, w.H, I, rfl, q⟩
        · obtain ⟨bs, r2⟩ := Dp.reads I _ y u (by rw [hK]; exact hd) ry
          exact SeqAt.notIn_tuple_reads r2 r1 l2.1 l1.1 un ⟨.bl _, w.H, I, rfl, q⟩
      · cases e
    · cases e
theorem op_cmp_ge : OpR X (compareOp .GtE) (rCmp G .ge) := by
  intro pins s σ H x y v u Q I rx ry h
  obtain ⟨w, d1, d2, t, rfl, rel, q1, q2, e, q⟩ := h
  cases d1 with
  | int i =>
    cases d2 with
    | int j =>
      cases q1.int; cases q2.int
      simp only [cmpop, Option.some.injEq] at e
      subst e
      refine op_ge pins s σ w.H _ _ v u Q I rx ry ⟨i, j, rfl, rfl, ?_⟩
      have z : decide (j ≤ i) = !ltI i j := by rw [ltI_eq, Bool.eq_iff_iff]; simp
      rw [← z] at q
      exact q
    | _ => cases e
  | _ => cases d2 <;> cases e
end
end Ip
namespace Ip
open PySem PySem.Spec PyProof.Rows L2

/-! ### operators -/
section
variable {X : L2.Cx} {G : Gx} {c : Bool}
theorem int_of {d : D} (h : ∃ i, d = D.int i) : ∃ i, d = .int i := h
theorem op_bin_sub : OpR X (binaryOp .Sub) (rBin G c .sub) := by
  intro pins s σ H x y v u Q I rx ry h
  obtain ⟨w, d1, d2, rfl, rel, q1, q2, h⟩ := h
  cases d1 with
  | int i =>
    cases d2 with
    | int j =>
      cases q1.int; cases q2.int
      exact op_sub pins s σ w.H _ _ v u Q I rx ry ⟨i, j, rfl, rfl, Out.int rel h⟩
    | _ => exact (show False from h).elim
  | _ => cases d2 <;> exact (show False from h).elim
theorem op_bin_fdiv : OpR X (binaryOp .FloorDiv) (rBin G c .fdiv) := by
  intro pins s σ H x y v u Q I rx ry h
  obtain ⟨w, d1, d2, rfl, rel, q1, q2, h⟩ := h
  cases d1 with
  | int i =>
    cases d2 with
    | int j =>
      cases q1.int; cases q2.int
      simp only [binop] at h
      split at h
      · exact h.elim
      · rename_i k
        simp only [eqI_eq, bltN, Bool.or_eq_true, decide_eq_true_eq, Bool.not_eq_true', decide_eq_false_iff_not, not_or, Classical.not_not] at k
        exact op_fdivN pins s σ w.H _ _ v u Q I rx ry ⟨i, j, rfl, rfl, ⟨k.1, k.2⟩, Out.int rel h⟩
    | _ => exact (show False from h).elim
  | _ => cases d2 <;> exact (show False from h).elim
theorem op_bin_mod : OpR X (binaryOp .Mod) (rBin G c .mod) := by
  intro pins s σ H x y v u Q I rx ry h
  obtain ⟨w, d1, d2, rfl, rel, q1, q2, h⟩ := h
  cases d1 with
  | int i =>
    cases d2 with
    | int j =>
      cases q1.int; cases q2.int
      simp only [binop] at h
      split at h
      · exact h.elim
      · rename_i k
        simp only [eqI_eq, decide_eq_true_eq] at k
        exact op_modN pins s σ w.H _ _ v u Q I rx ry ⟨i, j, rfl, rfl, k, Out.int rel h⟩
    | _ => exact (show False from h).elim
  | _ => cases d2 <;> exact (show False from h).elim
theorem op_bin_pow : OpR X (binaryOp .Pow) (rBin G c .pow) := by
  intro pins s σ H x y v u Q I rx ry h
  obtain ⟨w, d1, d2, rfl, rel, q1, q2, h⟩ := h
  cases d1 with
  | int i =>
    cases d2 with
    | int j =>
      cases q1.int; cases q2.int
      cases j with
      | ofNat n =>
        simp only [binop] at h
        split at h
        · rename_i k
          rw [Bool.and_eq_true, bleN, decide_eq_true_eq] at k
          refine op_pow pins s σ w.H _ _ v u Q I rx ry ⟨i, _, rfl, rfl, ⟨Int.natCast_nonneg n, ?_, ?_⟩, Out.int rel h⟩
          · simp only [Int.ofNat_eq_natCast]; omega
          · have := small64_ok k.2; omega
        · exact h.elim
      | negSucc n => exact (show False from h).elim
    | _ => exact (show False from h).elim
  | _ => cases d2 <;> exact (show False from h).elim
/-- list * int -/
theorem rep_lst {pins : List (Addr × Obj)} {s : Shared} {σ : L2.St} {w : Wd} {a : Addr} {k : Int} {t : Tok} {xs : List V} {Q : VK} (I : Inv X pins σ w.H s) (ha : LstR w a xs) (h1 : -(2 ^ 63) ≤ k) (h2 : k < 2 ^ 63) (hz : xs.length * k.toNat ≤ sizeLine)
    (q : ∀ p, w.H p = none → Q (.ref p) (upd w.H p (.lst (List.replicate k.toNat xs).flatten))) : wpAny (model X.prog X.w) X.A (binaryOp .Mult (.ref a) (.int k t)) (EP X pins σ Q) X.xe s := by
  obtain ⟨z, its, n, r, hl, e⟩ := ha.obj I
  have len : its.toArray.size * k.toNat ≤ sizeLine := by simpa only [List.size_toArray, ← hl] using hz
  have cap : ¬ its.toArray.size * k.toNat > (2 ^ 63 - 1) / 8 := by
    have := sizeLine_eq
    omega
  have new : List.foldl (fun x1 x2 => x1 ++ x2) #[] (List.replicate (if its.toArray.isEmpty = true then 0 else k.toNat) its.toArray) = (List.replicate k.toNat its).flatten.toArray := by
    have f0 : ∀ m : Nat, List.foldl (fun x1 x2 => x1 ++ x2) #[] (List.replicate m its.toArray) = (List.replicate m its).flatten.toArray := fun m => by
      simpa only [List.nil_append] using foldl_rep its m []
    rw [f0]
    cases its <;> simp
  refine wpAny_binaryOp_repeat_ref (T := "list") (U := "int") (by decide) ⟨_, e, rfl⟩ (fun s' => typeIs_int s' k t) noFill_list_mul PySem.F.fills_int_mul PySem.F.slot_int_rmul repeat_list PySem.F.slot_int_index.lookup
    (call_meets PySem.F.slot_int_rmul (typeIs_int s k t) PySem.F.entry_int_rmul (PySem.F.args_int_rmul_2 _ _) (int___rmul___int_list k t a its.toArray n)
      ⟨e, rfl, ⟨_, e, rfl⟩, call_meets PySem.F.slot_list_mul ⟨_, e, rfl⟩ PySem.F.entry_list_mul (PySem.F.args_list_mul_2 _ _)
        (AutoListH.list___mul___list_int_3 a its.toArray n k t (by rw [fitsIndex_both h1 h2]; simp) cap (by rw [notLongL len]; simp)) ⟨e, ?_⟩⟩)
  rw [new]
  exact ⟨.ref _, _, I.lnew (t' := s.toks) (r.rep k.toNat) (by rw [PyProof.Rows.lm_len_rep_flat, Nat.mul_comm]; exact hz), rfl, q _ I.fresh⟩
/-- tuple * int -/
theorem rep_tupF {pins : List (Addr × Obj)} {s : Shared} {σ : L2.St} {H : Hp} {a : Addr} {k : Nat} {t : Tok} {xs : List V} {Q : VK} (I : Inv X pins σ H s) (ha : SqT X.K H a xs) (hne : xs ≠ []) (h1 : 1 < k) (h2 : k ≤ 1000000) (hl : xs.length * k ≤ 1000000)
    (q : NewT Q H (List.replicate k xs).flatten) : wpAny (model X.prog X.w) X.A (binaryOp .Mult (.ref a) (.int (k : Int) t)) (EP X pins σ Q) X.xe s := by
  obtain ⟨us, r, ⟨⟨cls, dd, data, sl⟩, ho, hc, n, hd⟩, _⟩ := I.tuple ha
  simp only at hc hd
  subst hc hd
  have e1 := r.length
  have big : (List.replicate k us).flatten.length ≤ 1000000 := by
    rw [PyProof.Rows.lm_len_rep_flat, ← e1, Nat.mul_comm]
    exact hl
  have big' : us.length * k ≤ 1000000 := by rw [← e1]; exact hl
  have kk : ((k : Int)).toNat = k := Int.toNat_natCast k
  have nem : us.toArray.isEmpty = false := by
    cases us with
    | nil => exact absurd (List.eq_nil_of_length_eq_zero e1) hne
    | cons _ _ => rfl
  have line := sizeLine_eq
  have d0 : (decide ((k : Int) < -(2 ^ 63)) || decide ((k : Int) ≥ 2 ^ 63)) = false := by rw [decide_eq_false (by omega), decide_eq_false (by omega)]; rfl
  have d1 : (us.toArray.isEmpty || (k : Int) == 1) = false := by
    rw [nem, Bool.false_or, beq_eq_false_iff_ne]; omega
  have d2 : (decide ((k : Int) ≤ 0) || us.toArray.isEmpty) = false := by rw [nem, Bool.or_false, decide_eq_false_iff_not]; omega
  have sz : ((us.toArray.size : Nat) : Int) * (k : Int) ≤ 1000000 := by
    rw [List.size_toArray, ← Int.natCast_mul]
    exact Int.ofNat_le.mpr big'
  have d4 : Builtin.Tuple.tupleTooMany (((us.toArray.size : Nat) : Int) * (k : Int)) = false := by
    unfold Builtin.Tuple.tupleTooMany
    rw [decide_eq_false_iff_not]; omega
  have d5 : (List.foldl (fun x1 x2 => x1 ++ x2) #[] (List.replicate ((k : Int)).toNat us.toArray)).size ≤ sizeLine := by rw [size_rep, List.size_toArray, kk, line]; exact Nat.le_trans big (by decide)
  have ty : ∀ s' : Shared, s'.TypeIs (.int (k : Int) t) "int" := fun s' => typeIs_int s' k t
  have goal := q.ep s.toks I (r.rep k) (by rw [PyProof.Rows.lm_len_rep_flat, line, Nat.mul_comm]; omega)
  refine wpAny_binaryOp_repeat_ref (U := "int") (T := "tuple") (by decide) ⟨_, ho, rfl⟩ ty noFill_tuple_mul PySem.F.fills_int_mul
    PySem.F.slot_int_rmul repeat_tuple PySem.F.slot_int_index.lookup ?_
  refine call_meets PySem.F.slot_int_rmul (ty s) PySem.F.entry_int_rmul (PySem.F.args_int_rmul_2 _ _) (int_rmul_tuple k t a us.toArray n dd sl) ?_
  refine ⟨ho, rfl, ⟨_, ho, rfl⟩, ?_⟩
  have mm := tuple_mulW a us.toArray n dd sl (k : Int) t d0 d1 d2 (by omega) d4 d5
  refine call_meets PySem.F.slot_tuple_mul ⟨_, ho, rfl⟩ PySem.F.entry_tuple_mul (PySem.F.args_tuple_mul_2 _ _) mm ⟨ho, ?_⟩
  rw [size_rep, kk]
  exact goal
theorem op_bin_mul (hK : X.K = G.K) : OpR X (binaryOp .Mult) (rBin G c .mul) := by
  intro pins s σ H x y v u Q I rx ry h
  obtain ⟨w, d1, d2, rfl, rel, q1, q2, h⟩ := h
  have any : ∀ {j : Int}, d2 = .int j → Out G w W0 (PE1 G Q) (match lstAt w.η d1 with
      | some xs => if Nat.ble (xs.length * j.toNat) sizeMax && Nat.ble j.natAbs 9223372036854775807 then mkL c (List.replicate j.toNat xs).flatten w.η else .bad
      | none => .bad : Pr).r → wpAny (model X.prog X.w) X.A (binaryOp .Mult v u) (EP X pins σ Q) X.xe s := fun {j} e hh => by
    subst e
    cases q2.int
    cases e1 : lstAt w.η d1 with
    | none => rw [e1] at hh; exact hh.elim
    | some xs =>
      rw [e1] at hh
      simp only at hh
      split at hh
      · rename_i k
        rw [Bool.and_eq_true, bleN, bleN, decide_eq_true_eq, decide_eq_true_eq, sizeMax_eq] at k
        obtain ⟨a, vs, rfl, la, ra⟩ := lst_of rel q1 e1
        cases rx
        obtain ⟨t, rfl⟩ := ry
        exact rep_lst I la (by omega) (by omega) (by rw [← ra.length]; exact k.1) fun p hp => Out.lst rel (ra.rep _) hh hp
      · exact hh.elim
  cases d1 with
  | int i =>
    cases d2 with
    | int j =>
      cases q1.int; cases q2.int
      simp only [binop] at h
      split at h
      · rename_i k
        rw [Bool.or_eq_true] at k
        exact op_mul pins s σ w.H _ _ v u Q I rx ry ⟨i, j, rfl, rfl, k.imp small64_ok small64_ok, Out.int rel h⟩
      · exact h.elim
    | _ => exact (show False from h).elim
  | tup xs =>
    cases d2 with
    | int j =>
      cases q2.int
      cases j with
      | ofNat n =>
        obtain ⟨a, vs, rfl, ta, ra⟩ := q1.tup
        simp only [binop] at h
        split at h
        · rename_i k
          simp only [Bool.and_eq_true, bltN, bleN, decide_eq_true_eq, Bool.not_eq_true', List.isEmpty_eq_false_iff] at k
          obtain ⟨⟨⟨k1, k2⟩, k3⟩, k4⟩ := k
          cases rx
          obtain ⟨t, rfl⟩ := ry
          refine rep_tupF I (by rw [hK]; exact ta.sq) ?_ k1 k2 (by rw [← ra.length]; exact k3) (Out.newT rel (ra.rep n) h)
          intro z
          subst z
          cases ra
          exact k4 rfl
        · exact h.elim
      | negSucc n => exact (show False from h).elim
    | _ => exact (show False from h).elim
  | lst xs =>
    cases d2 with
    | int j => exact any rfl h
    | _ => exact (show False from h).elim
  | loc l =>
    cases d2 with
    | int j => exact any rfl h
    | _ => exact (show False from h).elim
  | _ => cases d2 <;> exact (show False from h).elim
theorem op_bin (hK : X.K = G.K) (o : Op2) : OpR X (binaryOp (opOf o)) (rBin G c o) := by
  cases o with
  | add => exact op_bin_add hK
  | sub => exact op_bin_sub
  | mul => exact op_bin_mul hK
  | fdiv => exact op_bin_fdiv
  | mod => exact op_bin_mod
  | pow => exact op_bin_pow
theorem op_cmp (hH : ∀ k, G.hs k = k.hash X.w) (hK : X.K = G.K) (hu : X.A.units + 64 < cLine) (o : Cm) : OpR X (compareOp (cmOf o)) (rCmp G o) := by
  cases o with
  | eq => exact op_cmp_eq hK hu
  | ne => exact op_cmp_ne hK hu
  | lt => exact op_cmp_lt hK hu
  | le => exact op_cmp_le
  | gt => exact op_cmp_gt hK hu
  | ge => exact op_cmp_ge
  | inn => exact op_cmp_in hH hK hu
  | nin => exact op_cmp_nin hH hK hu

/-! ### places, slices -/
theorem ixN_eq (n : Nat) (i : Int) : Ip.ixN n i = L2.ixN n i := by
  cases i with
  | ofNat k =>
    simp only [Ip.ixN, L2.ixN, bltN, Int.ofNat_eq_natCast]
    rw [if_pos (Int.natCast_nonneg k)]
    by_cases h : k < n
    · rw [if_pos (by simpa using h), if_pos (by omega)]; simp
    · rw [if_neg (by simpa using h), if_neg (by omega)]
  | negSucc k =>
    show (if Nat.blt k n then some (n - (k + 1)) else none) = _
    rw [Int.negSucc_eq, bltN]
    unfold L2.ixN
    rw [if_neg (show ¬ (0 : Int) ≤ -((k : Int) + 1) by omega)]
    by_cases h : k < n
    · rw [if_pos (show decide (k < n) = true by simpa using h), if_pos (show -(n : Int) ≤ -((k : Int) + 1) by omega)]
      congr 1
      omega
    · rw [if_neg (show ¬ decide (k < n) = true by simpa using h), if_neg (show ¬ -(n : Int) ≤ -((k : Int) + 1) by omega)]
theorem atI_eq {α : Type} (xs : List α) (i : Int) : Ip.atI xs i = L2.atI xs i := by
  unfold L2.atI
  rw [← ixN_eq]
  cases i with
  | ofNat k =>
    simp only [Ip.atI, Ip.ixN, bltN]
    by_cases h : k < xs.length
    · rw [if_pos (by simpa using h)]; rfl
    · rw [if_neg (by simpa using h)]
      simp [List.getElem?_eq_none (Nat.le_of_not_lt h)]
  | negSucc k =>
    simp only [Ip.atI, Ip.ixN]
    split <;> rfl
theorem RPs.atI {w : Wd} {xs : List D} {vs : List V} {i : Int} {d : D} (r : RPs G w xs vs) (h : Ip.atI xs i = some d) : ∃ v, L2.atI vs i = some v ∧ RP G w d v := by
  rw [atI_eq] at h
  unfold L2.atI at h ⊢
  rw [← r.length]
  cases e : L2.ixN xs.length i with
  | none => rw [e] at h; cases h
  | some j =>
    rw [e] at h
    exact r.get h
/-- a subscript by values -/
def rGet (G : Gx) : R2 := fun x y H Q => ∃ w d1 d2, w.H = H ∧ Rel G w ∧ RV G w d1 x ∧ RV G w d2 y ∧ Out G w W0 (PE1 G Q) (getIx w.η d1 d2).r
theorem ix_get (hH : ∀ k, G.hs k = k.hash X.w) (hK : X.K = G.K) (hu : X.A.units + 64 < cLine) : IxR X (rGet G) := by
  intro value slice pins s σ H x y v u Q I rx ry h hs
  obtain ⟨w, d1, d2, rfl, rel, q1, q2, h⟩ := h
  simp only [getIx] at h
  split at h
  · rename_i kvs ek
    split at h
    · rename_i hk
      obtain ⟨i, rfl, hi, rfl, eη⟩ := dct_loc rel q1 ek
      obtain ⟨a, rfl, qk⟩ := key_ref q2 hk
      obtain ⟨o, xs, h1, h2, h3, h4, h5⟩ := dct_at I hK hH rel eη
      cases rx; cases ry
      have at_ := h3.at hk
      split at h
      · rename_i d hd
        rw [hd] at at_
        obtain ⟨a', v', u', z, rv, rd⟩ := at_
        exact subscriptTail_builtinR h5.typeIs slot_dict_getitem.lookup (wpAny_getItem_heap (knd := nkd X) (by show X.A.units + 1 + 8 < cLine; omega) (key_is I hK qk hk) h5 z ⟨rfl, v', w.H, I.tok _, rv, Out.here rel h (.inl rd)⟩) hs
      · exact h.elim
    · exact h.elim
  · cases d2 with
    | int i =>
      cases q2.int
      have any : Out G w W0 (PE1 G Q) (match seqAt w.η d1 with
          | some xs => match Ip.atI xs i with
            | some d => .ok d w.η
            | none => .bad
          | none => lastIx w.η d1 i : Pr).r → wpAny (model X.prog X.w) X.A (subscriptTail value slice v u) (EP X pins σ Q) X.xe s := fun h => by
        cases e1 : seqAt w.η d1 with
        | none =>
          rw [e1] at h
          cases d1 with
          | loc l =>
            cases i with
            | ofNat n => exact (show False from h).elim
            | negSucc n =>
              cases n with
              | succ n => exact (show False from h).elim
              | zero =>
                simp only [lastIx] at h
                cases hη : w.η[l]? with
                | none => rw [hη] at h; exact h.elim
                | some c =>
                  rw [hη] at h
                  cases c with
                  | lsl xs j =>
                    obtain ⟨_, rfl⟩ := q1.loc
                    obtain ⟨vs, h1, h2, h3⟩ := rel.cell l _ hη
                    refine ix_list value slice pins s σ w.H _ _ v u Q I rx ry ⟨_, _, _, .ref (w.mp j), rfl, rfl, .inl (.inl h1), ?_, Out.here rel h (.inr (.inl ⟨j, rfl, h3, rfl⟩))⟩ hs
                    rw [← atI_eq]
                    show (if Nat.blt 0 (vs ++ [V.ref (w.mp j)]).length then (vs ++ [V.ref (w.mp j)])[(vs ++ [V.ref (w.mp j)]).length - (0 + 1)]? else none) = _
                    rw [bltN, if_pos (by simp)]
                    simp
                  | _ => exact (show False from h).elim
          | _ => exact (show False from h).elim
        | some xs =>
          simp only [e1] at h
          cases e2 : Ip.atI xs i with
          | none => simp only [e2] at h; exact h.elim
          | some d =>
            simp only [e2] at h
            obtain ⟨a, vs, rfl, rs, ⟨l, _⟩ | ⟨t, _⟩⟩ := seq_of rel q1 e1
            · obtain ⟨z, e3, rz⟩ := rs.atI e2
              exact ix_list value slice pins s σ w.H _ _ v u Q I rx ry ⟨a, vs, i, z, rfl, rfl, l.sq, e3, Out.here rel h (.inl rz)⟩ hs
            · obtain ⟨z, e3, rz⟩ := rs.atI e2
              exact ix_tup value slice pins s σ w.H _ _ v u Q I rx ry ⟨a, vs, i, z, rfl, rfl, by rw [hK]; exact t.sq, e3, Out.here rel h (.inl rz)⟩ hs
      cases d1 with
      | str z =>
        cases q1.str
        simp only at h
        split at h
        · rename_i k
          rw [bleN, decide_eq_true_eq, sizeMax_eq] at k
          cases e2 : Ip.atI z.cps.toList i with
          | none => simp only [e2] at h; exact h.elim
          | some c =>
            simp only [e2] at h
            rw [atI_eq] at e2
            exact ix_str value slice pins s σ w.H _ _ v u Q I rx ry ⟨z, i, c, rfl, rfl, k, e2, Out.here rel h (.inl (.str _))⟩ hs
        · exact h.elim
      | _ => exact any h
    | _ => exact (show False from h).elim
theorem sIx_eq (n d : Nat) (o : Option Int) : Ip.sIx n d o = HT.sIx n d o := by
  cases o with
  | none => rfl
  | some i =>
    cases i with
    | ofNat k =>
      unfold HT.sIx
      simp only [Ip.sIx, Int.ofNat_eq_natCast]
      rw [if_neg (by omega)]; simp
    | negSucc k =>
      unfold HT.sIx
      have := Int.negSucc_lt_zero k
      simp only [Ip.sIx]
      rw [if_pos (by omega), Int.negSucc_eq]; omega
theorem RPs.cut {w : Wd} {xs : List D} {vs : List V} (r : RPs G w xs vs) (lo hi : Option Int) : RPs G w (Ip.cut xs lo hi) (cutV vs lo hi) := by
  unfold Ip.cut cutV
  rw [sIx_eq, sIx_eq, r.length]
  exact (r.drop _).take _
theorem cut_tupF {pins : List (Addr × Obj)} {s : Shared} {σ : L2.St} {H : Hp} {a sl : Addr} {vl vu : Value} {lo hi : Option Int} {xs : List V} {Q : VK} (I : Inv X pins σ H s) (ha : SqT X.K H a xs) (hs : s.heap.IsSliceOf sl vl vu .none) (pl : IsPart vl lo) (pu : IsPart vu hi)
    (q1 : HT.sIx xs.length 0 lo = 0 ∧ HT.sIx xs.length xs.length hi = xs.length → Q (.ref a) H) (q2 : NewT Q H (cutV xs lo hi)) :
    ∃ T id, typeLookup (.type T) "__getitem__" = pure (some (.builtin id)) ∧ s.TypeIs (.ref a) T ∧ wpAny (model X.prog X.w) X.A (getItem (.ref a) (.ref sl)) (EP X pins σ Q) X.xe s := by
  obtain ⟨us, r, t, z⟩ := I.tuple ha
  have n : us.toArray.size = xs.length := by rw [List.size_toArray, r.length]
  have z' : us.toArray.size ≤ sizeLine := by rw [n]; exact z
  refine ⟨_, _, PyProof.Rows.slot_tuple_getitem.lookup, t.typeIs, ?_⟩
  by_cases whole : HT.sIx xs.length 0 lo = 0 ∧ HT.sIx xs.length xs.length hi = xs.length
  · exact getItem_tuple_whole t hs pl pu (by rw [n]; exact whole) ⟨.ref a, _, I, rfl, q1 whole⟩
  · have rr := (r.drop (HT.sIx xs.length 0 lo)).take (HT.sIx xs.length xs.length hi - HT.sIx xs.length 0 lo)
    have step := q2.ep s.toks I rr (Nat.le_trans (cutV_length xs lo hi) z)
    rw [← n] at whole step
    exact HT.getItem_tuple_cut t hs pl pu whole step z'
def rSlice (G : Gx) (c : Bool) : V → Option Int → Option Int → Hp → VK → Prop := fun x lo hi H Q => ∃ w d, w.H = H ∧ Rel G w ∧ RV G w d x ∧ Out G w W0 (PE1 G Q) (slice c d lo hi w.η).r
theorem sl_slice (hK : X.K = G.K) : SlR X (rSlice G c) := by
  intro pins s σ H x v vl vu lo hi sl Q I rx hs pl pu h
  obtain ⟨w, d, rfl, rel, q, h⟩ := h
  have any : Out G w W0 (PE1 G Q) (match lstAt w.η d with
      | some xs => mkL c (Ip.cut xs lo hi) w.η
      | none => .bad : Pr).r → ∃ T id, typeLookup (.type T) "__getitem__" = pure (some (.builtin id)) ∧ s.TypeIs v T ∧ wpAny (model X.prog X.w) X.A (getItem v (.ref sl)) (EP X pins σ Q) X.xe s := fun h => by
    cases e1 : lstAt w.η d with
    | none => rw [e1] at h; exact h.elim
    | some xs =>
      rw [e1] at h
      obtain ⟨a, vs, rfl, la, ra⟩ := lst_of rel q e1
      exact sl_list pins s σ w.H _ v vl vu lo hi sl Q I rx hs pl pu ⟨a, vs, rfl, la.sq, fun p hp => Out.lst rel (ra.cut lo hi) h hp⟩
  cases d with
  | tup xs =>
    obtain ⟨a, vs, rfl, ta, ra⟩ := q.tup
    cases rx
    refine cut_tupF I (by rw [hK]; exact ta.sq) hs pl pu (fun e => ?_) (Out.newT rel (ra.cut lo hi) h)
    have z : Ip.cut xs lo hi = xs := by
      unfold Ip.cut
      rw [sIx_eq, sIx_eq, ra.length, e.1, e.2, List.drop_zero, Nat.sub_zero, ← ra.length, List.take_length]
    exact Out.here rel h (by rw [z]; exact .inl (.tup ta ra))
  | _ => exact any h
end
end Ip
namespace Ip
open PySem PySem.Spec PyProof.Rows L2

/-! ### a place is written -/
section
variable {G : Gx} {w : Wd} {i : Nat} {c c0 : Cell} {o : HO}
def Wd.put (w : Wd) (i : Nat) (c : Cell) (o : HO) : Wd := { w with η := w.η.set i c, H := upd w.H (w.mp i) o }
theorem put_get {j : Nat} {d : Cell} (h : (w.put i c o).η[j]? = some d) : (j = i ∧ d = c ∧ i < w.η.length) ∨ (j ≠ i ∧ w.η[j]? = some d) := by
  have h' : (w.η.set i c)[j]? = some d := h
  rw [List.getElem?_set] at h'
  by_cases e : i = j
  · subst e
    rw [if_pos rfl] at h'
    split at h'
    · cases h'; exact .inl ⟨rfl, rfl, ‹_›⟩
    · cases h'
  · rw [if_neg e] at h'
    exact .inr ⟨fun z => e z.symm, h'⟩
theorem put_at (e : w.η[i]? = some c0) (n0 : ¬ c0.Dead) {a : Addr} (h : (w.put i c o).At a) : w.At a := by
  obtain ⟨j, d, q, nd, rfl⟩ := h
  rcases put_get q with ⟨rfl, rfl, _⟩ | ⟨_, q⟩
  · exact ⟨_, c0, e, n0, rfl⟩
  · exact ⟨j, d, q, nd, rfl⟩
theorem Ext.put (e : w.η[i]? = some c0) (n0 : ¬ c0.Dead) : Ext w (w.put i c o) where
  len := by show w.η.length ≤ (w.η.set i c).length; rw [List.length_set]; exact Nat.le_refl _
  mp := fun _ _ => rfl
  keep := fun a u h n => by
    show upd w.H (w.mp i) o a = some u
    rw [upd_ne (fun z => n ⟨i, c0, e, n0, z.symm⟩)]; exact h
  live := fun a u h n l => n (l.imp (put_at e n0) id)
  gh := rfl
theorem Rel.put (r : Rel G w) (e : w.η[i]? = some c0) (n0 : ¬ c0.Dead) (h : CellOk G (w.put i c o) (w.mp i) c) : Rel G (w.put i c o) where
  cell := fun j d q => by
    rcases put_get q with ⟨rfl, rfl, _⟩ | ⟨hj, q⟩
    · exact h
    · by_cases nd : d.Dead
      · cases d with
        | dead => exact trivial
        | _ => exact nd.elim
      · exact (r.cell j d q).mono (Ext.put e n0) fun u z => by
          show upd w.H (w.mp i) o (w.mp j) = some u
          rw [upd_ne (fun z => hj (r.inj j i d c0 q e nd n0 z))]; exact z
  inj := fun j k d d' q q' nd nd' m => by
    have lift : ∀ {j : Nat} {d : Cell}, (w.put i c o).η[j]? = some d → ¬ d.Dead → ∃ d', w.η[j]? = some d' ∧ ¬ d'.Dead := fun {j d} q nd => by
      rcases put_get q with ⟨rfl, rfl, _⟩ | ⟨_, q⟩
      · exact ⟨c0, e, n0⟩
      · exact ⟨d, q, nd⟩
    obtain ⟨a, a1, a2⟩ := lift q nd
    obtain ⟨b, b1, b2⟩ := lift q' nd'
    exact r.inj j k a b a1 b1 a2 b2 m
  ngh := fun j d q nd g => by
    rcases put_get q with ⟨rfl, rfl, _⟩ | ⟨_, q⟩
    · exact r.ngh _ c0 e n0 g
    · exact r.ngh j d q nd g
  ghs := fun a g => by
    by_cases z : a = w.mp i
    · subst z; exact ⟨o, upd_same⟩
    · obtain ⟨u, h⟩ := r.ghs a g
      exact ⟨u, by show upd w.H (w.mp i) o a = some u; rw [upd_ne z]; exact h⟩
/-- a place is dead from now on -/
def Wd.kill (w : Wd) (i : Nat) : Wd := { w with η := w.η.set i .dead }
theorem kill_get {j : Nat} {d : Cell} (h : (w.kill i).η[j]? = some d) : (j = i ∧ d = .dead) ∨ (j ≠ i ∧ w.η[j]? = some d) := by
  have h' : (w.η.set i .dead)[j]? = some d := h
  rw [List.getElem?_set] at h'
  by_cases e : i = j
  · subst e
    rw [if_pos rfl] at h'
    split at h'
    · cases h'; exact .inl ⟨rfl, rfl⟩
    · cases h'
  · rw [if_neg e] at h'
    exact .inr ⟨fun z => e z.symm, h'⟩
theorem kill_at {a : Addr} (h : (w.kill i).At a) : w.At a := by
  obtain ⟨j, d, q, nd, rfl⟩ := h
  rcases kill_get q with ⟨rfl, rfl⟩ | ⟨_, q⟩
  · exact (nd trivial).elim
  · exact ⟨j, d, q, nd, rfl⟩
theorem Ext.kill : Ext w (w.kill i) where
  len := by show w.η.length ≤ (w.η.set i Cell.dead).length; rw [List.length_set]; exact Nat.le_refl _
  mp := fun _ _ => rfl
  keep := fun a u h n => h
  live := fun a u h n l => n (l.imp kill_at id)
  gh := rfl
theorem Rel.kill (r : Rel G w) : Rel G (w.kill i) where
  cell := fun j d q => by
    rcases kill_get q with ⟨rfl, rfl⟩ | ⟨hj, q⟩
    · exact trivial
    · exact (r.cell j d q).mono Ext.kill fun u z => z
  inj := fun j k d d' q q' nd nd' m => by
    rcases kill_get q with ⟨rfl, rfl⟩ | ⟨_, q⟩
    · exact (nd trivial).elim
    · rcases kill_get q' with ⟨rfl, rfl⟩ | ⟨_, q'⟩
      · exact (nd' trivial).elim
      · exact r.inj j k d d' q q' nd nd' m
  ngh := fun j d q nd g => by
    rcases kill_get q with ⟨rfl, rfl⟩ | ⟨_, q⟩
    · exact (nd trivial).elim
    · exact r.ngh j d q nd g
  ghs := r.ghs
theorem not_dead_lst {xs : List D} : ¬ (Cell.lst xs).Dead := id
/-- an own list, frozen -/
theorem Rel.frozen (r : Rel G w) {xs : List D} (e : w.η[i]? = some (.lst xs)) : ∃ vs, w.H (w.mp i) = some (.lst vs) ∧ RP G (w.kill i) (.lst xs) (.ref (w.mp i)) := by
  obtain ⟨vs, e1, e2⟩ := r.cell i _ e
  refine ⟨vs, e1, .lst ⟨.inl e1, ?_⟩ (e2.mono Ext.kill)⟩
  rintro (⟨j, d, q, nd, m⟩ | g)
  · rcases kill_get q with ⟨rfl, rfl⟩ | ⟨hj, q⟩
    · exact nd trivial
    · exact hj (r.inj j i d _ q e nd not_dead_lst m)
  · exact r.ngh i _ e not_dead_lst g
/-- an own list takes other items -/
theorem Out.put {Q : VK} {W : PX} {d : D} {v : V} {xs ys : List D} {us : List V} (r : Rel G w) (e : w.η[i]? = some (.lst xs)) (rs : RPs G w ys us) (q : RP G w d v) (h : Out G w W (PE1 G Q) (.ok d (w.η.set i (.lst ys)))) : Q v (upd w.H (w.mp i) (.lst us)) :=
  h (w.put i (.lst ys) (.lst us)) rfl (Ext.put e id) (r.put e id ⟨us, upd_same, rs.mono (Ext.put e id)⟩) v (.inl (q.mono (Ext.put e id)))
end

/-! ### stores -/
section
variable {X : L2.Cx} {G : Gx} {c : Bool}
theorem cell_of {w : Wd} (r : Rel G w) {l : Nat} {xs : List D} (e : w.η[l]? = some (.lst xs)) : ∃ vs, w.H (w.mp l) = some (.lst vs) ∧ RPs G w xs vs := r.cell l _ e
/-- o[i] = v of an own list -/
def rSetX (G : Gx) : TSet := fun o i v H Q => ∃ w d k y η', w.H = H ∧ Rel G w ∧ RV G w d o ∧ RV G w k i ∧ RV G w y v ∧ setIx w.η d k y = some η' ∧ ∀ w', w'.η = η' → Ext w w' → Rel G w' → Q w'.H
theorem set_x (hH : ∀ k, G.hs k = k.hash X.w) (hK : X.K = G.K) (hu : X.A.units + 64 < cLine) : PSet X (rSetX G) := by
  intro pins s σ H o i v ov iv u Q I ro ri rv h
  obtain ⟨w, d, k, y, η', rfl, rel, q1, q2, q3, e, h⟩ := h
  cases d with
  | loc l =>
    simp only [setIx] at e
    obtain ⟨_, rfl⟩ := q1.loc
    split at e
    · rename_i k' xs k hη
      cases q2.int
      split at e
      · rename_i j hj
        split at e
        · rename_i hy
          cases e
          obtain ⟨vs, e1, e2⟩ := cell_of rel hη
          refine set_list pins s σ w.H _ _ v ov iv u Q I ro ri rv ⟨_, vs, _, j, rfl, rfl, e1, by rw [← ixN_eq, ← e2.length]; exact hj, ?_⟩
          exact h (w.put l (.lst (xs.set j y)) (.lst (vs.set j v))) rfl (Ext.put hη id) (rel.put hη id ⟨_, upd_same, (e2.set (q3.rp hy) j).mono (Ext.put hη id)⟩)
        · cases e
      · cases e
    · rename_i k _ k2 kvs hη
      split at e
      · rename_i hk
        cases e
        simp only [Bool.and_eq_true] at hk
        obtain ⟨⟨hk1, hk2⟩, hk3⟩ := hk
        rw [bltN, decide_eq_true_eq] at hk3
        obtain ⟨a, rfl, qk⟩ := key_ref q2 hk1
        obtain ⟨o, xs, h1, h2, h3, h4, h5⟩ := dct_at I hK hH rel hη
        cases ro; cases ri
        have nd0 : ¬ (Cell.dct kvs).Dead := id
        have hz : xs.length ≤ sizeLine := by rw [← h3.len, sizeLine_eq]; exact Nat.le_of_lt hk3
        refine wpAny_setItem_heap (knd := nkd X) (hsz := hz) (by show X.A.units + 1 + 8 < cLine; omega) (key_is I hK qk hk1) h5 fun h' hm hs => ?_
        obtain ⟨o', es, ep, g1, g2, g3, g4, g5, g6⟩ := hm
        let w2 := w.put l (.dct (dPut k y kvs)) (.ext fun h => h.get? (w.mp l) = some o')
        have e2 : Ext w w2 := Ext.put hη nd0
        have r2 : Rel G w2 := rel.put hη nd0 ⟨o', _, upd_same, h2, ⟨g2, ⟨es, ep, g3, by rw [g4]; exact List.map_congr_left fun x _ => by unfold entryOfKey; rw [hH x.1]; rfl⟩, g6⟩, (h3.put hk1 qk rv (q3.rp hk2) h4).mono e2⟩
        exact ⟨w2.H, d_write I (by rw [h1]; trivial) hs ⟨o', g1⟩ ⟨g1, ⟨o', g1⟩, fun h1 h2 q1 q2 => q2 _ q1⟩, h w2 rfl e2 r2⟩
      · cases e
    · cases e
  | _ => cases e

/-! ### methods -/
def rMt (G : Gx) (c : Bool) (m : Mt) : V → List V → Hp → VK → Prop := fun x xs H Q => ∃ w d ds, w.H = H ∧ Rel G w ∧ RV G w d x ∧ RVs G w ds xs ∧ Out G w W0 (PE1 G Q) (mt c m d ds w.η).r
theorem RVs.one {w : Wd} {d : D} {vs : List V} (h : RVs G w [d] vs) : ∃ v, vs = [v] ∧ RV G w d v := by
  cases vs with
  | nil => exact h.elim
  | cons v r =>
    cases r with
    | nil => exact ⟨v, rfl, h.1⟩
    | cons _ _ => exact h.2.elim
theorem RVs.none {w : Wd} {vs : List V} (h : RVs G w [] vs) : vs = [] := by
  cases vs with
  | nil => rfl
  | cons v r => exact h.elim
theorem RVs.two {w : Wd} {d e : D} {vs : List V} (h : RVs G w [d, e] vs) : ∃ v u, vs = [v, u] ∧ RV G w d v ∧ RV G w e u := by
  cases vs with
  | nil => exact h.elim
  | cons v r =>
    obtain ⟨u, rfl, q⟩ := RVs.one h.2
    exact ⟨v, u, rfl, h.1, q⟩
theorem mt_appendX : MtR X "list.append" (rMt G c .append) := by
  intro pins s σ H x xs v us Q I rx rxs h
  obtain ⟨w, d, ds, rfl, rel, q1, q2, h⟩ := h
  unfold mt at h
  split at h <;> try first | contradiction | exact h.elim
  · rename_i l x0 x'
    split at h
    · rename_i ys hη
      split at h
      · rename_i k
        rw [Bool.and_eq_true, bltN, decide_eq_true_eq, sizeMax_eq] at k
        obtain ⟨_, rfl⟩ := q1.loc
        obtain ⟨y, rfl, qy⟩ := q2.one
        obtain ⟨vs, e1, e2⟩ := cell_of rel hη
        exact mt_append pins s σ w.H _ _ v us Q I rx rxs ⟨_, vs, y, rfl, rfl, e1, by rw [← e2.length]; exact k.2, Out.put rel hη (e2.append (.cons (qy.rp k.1) .nil)) .non h⟩
      · split at h
        · rename_i j _
          split at h
          · rename_i k
            rw [bltN, decide_eq_true_eq, sizeMax_eq] at k
            obtain ⟨_, rfl⟩ := q1.loc
            obtain ⟨y, rfl, qy⟩ := q2.one
            obtain ⟨hj, rfl⟩ := qy.loc
            obtain ⟨vs, e1, e2⟩ := cell_of rel hη
            have ex := Ext.put (c := .lsl ys j) (o := .lst (vs ++ [.ref (w.mp j)])) hη id
            refine mt_append pins s σ w.H _ _ v us Q I rx rxs ⟨_, vs, .ref (w.mp j), rfl, rfl, e1, by rw [← e2.length]; exact k, ?_⟩
            exact h (w.put l (.lsl ys j) (.lst (vs ++ [V.ref (w.mp j)]))) rfl ex (rel.put hη id ⟨vs, upd_same, e2.mono ex, Nat.lt_of_lt_of_le hj ex.len⟩) _ (.inl .non)
          · exact h.elim
        · exact h.elim
    · exact h.elim
theorem mt_extendX : MtR X "list.extend" (rMt G c .extend) := by
  intro pins s σ H x xs v us Q I rx rxs h
  obtain ⟨w, d, ds, rfl, rel, q1, q2, h⟩ := h
  unfold mt at h
  split at h <;> try first | contradiction | exact h.elim
  · rename_i l x'
    split at h
    · rename_i ys zs hη hz
      split at h
      · rename_i k
        rw [bleN, decide_eq_true_eq, sizeMax_eq] at k
        obtain ⟨_, rfl⟩ := q1.loc
        obtain ⟨y, rfl, qy⟩ := q2.one
        obtain ⟨vs, e1, e2⟩ := cell_of rel hη
        obtain ⟨b, us', rfl, lb, rb⟩ := lst_of rel qy hz
        cases rx
        obtain ⟨u, rfl, ru⟩ := rxs.one
        cases ru
        have len1 := e2.length
        have len2 := rb.length
        obtain ⟨z, its, n, r, hl, e⟩ := I.lstM e1
        obtain ⟨z2, its2, n2, r2, hl2, e2'⟩ := lb.obj I
        have hsz : its.toArray.size + its2.toArray.size ≤ sizeLine := by rw [List.size_toArray, List.size_toArray]; omega
        have hlong : ¬ (!its.toArray.isEmpty && Builtin.List.listTooLong (its.toArray.size + its2.toArray.size)) = true := by
          rw [notLongL hsz, Bool.and_false]
          exact Bool.false_ne_true
        refine call_meets F.slot_list_extend ⟨_, e, rfl⟩ F.entry_list_extend (F.args_list_extend_2 _ _)
          (AutoSeq1.list_extend_list_list_0 _ its.toArray n b its2.toArray n2 hlong (by rw [List.size_toArray]; omega) (by omega)) ⟨e, e2', ?_⟩
        refine ⟨.non, _, I.lset (its' := its ++ its2) e1 e (by simp) (r.append r2) ?_, rfl, Out.put rel hη (e2.append rb) .non h⟩
        rw [List.length_append]
        omega
      · exact h.elim
    · exact h.elim
theorem RPs.getLast {w : Wd} : ∀ {xs : List D} {vs : List V} {d : D}, RPs G w xs vs → xs.getLast? = some d → ∃ v, vs[vs.length - 1]? = some v ∧ RP G w d v := fun {xs vs d} r e => by
  rw [List.getLast?_eq_getElem?, r.length] at e
  exact r.get e
theorem mt_popX : MtR X "list.pop" (rMt G c .pop) := by
  intro pins s σ H x xs v us Q I rx rxs h
  obtain ⟨w, d, ds, rfl, rel, q1, q2, h⟩ := h
  unfold mt at h
  split at h <;> try first | contradiction | exact h.elim
  · split at h
    · rename_i ys hη
      split at h
      · rename_i y hy
        obtain ⟨_, rfl⟩ := q1.loc
        cases q2.none
        obtain ⟨vs, e1, e2⟩ := cell_of rel hη
        obtain ⟨z, e3, rz⟩ := e2.getLast hy
        exact mt_pop pins s σ w.H _ _ v us Q I rx rxs ⟨_, vs, z, rfl, rfl, e1, e3, Out.put rel hη e2.dropLast rz h⟩
      · exact h.elim
    · exact h.elim
theorem findD_place {x : D} (hx : x.ok = true) : ∀ {ys : List D} {k0 k : Nat}, datas ys 59 = true → findD x ys k0 = some k → ∃ j, k = k0 + j ∧ PySem.SeqAt.dataPlace (toPys ys) (toPy x) = some j
  | [], _, _, _, e => by cases e
  | y :: ys, k0, k, h, e => by
    simp only [datas, Bool.and_eq_true] at h
    unfold PySem.SeqAt.dataPlace
    rw [toPys, List.findIdx?_cons, ← eqD_eq y x 59 60 h.1 hx]
    simp only [findD] at e
    split at e
    · rename_i t
      cases e
      exact ⟨0, rfl, by rw [if_pos t]⟩
    · rename_i t
      obtain ⟨j, e1, e2⟩ := findD_place hx h.2 e
      refine ⟨j + 1, by omega, ?_⟩
      rw [if_neg t]
      unfold PySem.SeqAt.dataPlace at e2
      rw [e2]; rfl
theorem countD_eq {x : D} (hx : x.ok = true) : ∀ {ys : List D}, datas ys 59 = true → countD x ys = (toPys ys).countP fun y => PyData.eqv y (toPy x)
  | [], _ => rfl
  | y :: ys, h => by
    simp only [datas, Bool.and_eq_true] at h
    rw [countD, toPys, List.countP_cons, ← eqD_eq y x 59 60 h.1 hx, countD_eq hx h.2]
    cases eqD y x <;> rfl
/-- what is at hand where an item is sought -/
theorem seek {pins : List (Addr × Obj)} {σ : L2.St} {s : Shared} {w : Wd} {y : D} {v : V} {u : Value} {xs : List D} {vs : List V} {us : List Value} (hK : X.K = G.K) (hu : X.A.units + 64 < cLine) (I : Inv X pins σ w.H s) (rs : RPs G w xs vs) (r : Vals vs us) (qy : RV G w y v) (ry : RelV v u)
    (k : (y.ok && datas xs 59) = true) : y.ok = true ∧ datas xs 59 = true ∧ PyData.plainAll (toPys xs) = true ∧ (toPy y).plain = true ∧ X.A.units + 1 + min (PyData.depthAll (toPys xs)) (toPy y).depth < cLine ∧
      ∃ as bs, ReadsAll s.heap us.toArray.toList (toPys xs) as ∧ Reads s.heap u (toPy y) bs := by
  rw [Bool.and_eq_true] at k
  have n1 : y.noLoc = true := by cases y <;> first | rfl | cases k.1
  have l1 := data_lay y 60 k.1
  have l2 := datas_shaped k.2
  obtain ⟨bs, r2⟩ := Dp.reads I _ v u (by rw [hK]; exact (qy.rp n1).dp k.1) ry
  obtain ⟨as, r1⟩ := Dp.readsAll I _ vs us (by rw [hK]; exact rs.dp k.2) r
  refine ⟨k.1, k.2, PyData.plainAll_of_canLay0 _ l2.1, PyData.plain_of_canLay0 _ l1.1, ?_, as, bs, by simpa using r1, r2⟩
  have := Nat.min_le_left (PyData.depthAll (toPys xs)) (toPy y).depth
  omega
def Mt.look : Mt → String
  | .index => "index"
  | _ => "count"
def rMtL (G : Gx) (c : Bool) (m : Mt) (isT : Bool) : V → List V → Hp → VK → Prop := fun x xs H Q => ∃ w d ds, w.H = H ∧ Rel G w ∧ RV G w d x ∧ RVs G w ds xs ∧ ((∃ ys, d = .tup ys) ↔ isT = true) ∧ Out G w W0 (PE1 G Q) (mt c m d ds w.η).r
theorem mt_index_inv {d : D} {ds : List D} {η : Hs} {P : R D → Prop} (hb : ¬ P .bad) (h : P (mt c .index d ds η).r) : ∃ y ys k, ds = [y] ∧ seqAt η d = some ys ∧ (y.ok && datas ys 59) = true ∧ findD y ys 0 = some k ∧ P (oki (.ofNat k) η).r := by
  unfold mt at h
  split at h <;> try first | contradiction | exact (hb h).elim
  · split at h
    · split at h
      · split at h
        · exact ⟨_, _, _, rfl, ‹_›, ‹_›, ‹_›, h⟩
        · exact (hb h).elim
      · exact (hb h).elim
    · exact (hb h).elim
theorem mt_count_inv {d : D} {ds : List D} {η : Hs} {P : R D → Prop} (hb : ¬ P .bad) (h : P (mt c .count d ds η).r) : ∃ y ys, ds = [y] ∧ seqAt η d = some ys ∧ (y.ok && datas ys 59) = true ∧ P (oki (.ofNat (countD y ys)) η).r := by
  unfold mt at h
  split at h <;> try first | contradiction | exact (hb h).elim
  · split at h
    · split at h
      · exact ⟨_, _, rfl, ‹_›, ‹_›, h⟩
      · exact (hb h).elim
    · exact (hb h).elim
theorem mt_indexL (hK : X.K = G.K) (hu : X.A.units + 64 < cLine) : MtR X "list.index" (rMtL G c .index false) := by
  intro pins s σ H x xs v us Q I rx rxs h
  obtain ⟨w, d, ds, rfl, rel, q1, q2, hd, h⟩ := h
  obtain ⟨y, ys, k, rfl, e1, e2, e3, h⟩ := mt_index_inv (P := Out G w W0 (PE1 G Q)) id h
  obtain ⟨vy, rfl, qy⟩ := q2.one
  obtain ⟨u, rfl, ru⟩ := vals1 rxs
  obtain ⟨a, vs, rfl, rs, ⟨la, _⟩ | ⟨ta, e⟩⟩ := seq_of rel q1 e1
  · cases rx
    have hs : SqL X.K w.H a vs := by rw [hK]; exact la.sq
    obtain ⟨its, r, ⟨⟨cls, dd, data, sl⟩, n, ho, hc, hdn, hdd⟩, hz⟩ := I.list hs
    simp only at hc hdd
    subst hc hdd
    obtain ⟨k1, k2, pa, pl, un, as, bs, r1, r2⟩ := seek hK hu I rs r qy ru e2
    obtain ⟨j, rfl, hp⟩ := findD_place k1 k2 e3
    obtain ⟨hj, hit, miss⟩ := PySem.SeqAt.hit_at r1 pa hp
    have line := sizeLine_eq
    have small : ((j : Nat) : Int) < 2 ^ 63 - 1 := by
      rw [List.size_toArray, ← r.length] at hj; omega
    have m := PySem.SeqAt.list_indexAt a its.toArray n dd sl u (fun z => PyData.eqv (PySem.SeqAt.readOf s.heap z) (toPy y)) j hj small hit miss
    refine call_meets PySem.F.slot_list_index ⟨_, ho, rfl⟩ PySem.F.entry_list_index (PySem.F.args_list_index_2 _ _) m ⟨ho, PySem.SeqAt.items_plain r1 r2 pa pl un, ?_⟩
    rw [Nat.zero_add] at h
    exact ⟨.int (j : Int), w.H, I.tok _, ⟨_, rfl⟩, Out.int rel h⟩
  · exact absurd (hd.mp ⟨ys, e⟩) (by decide)
theorem mt_indexT (hK : X.K = G.K) (hu : X.A.units + 64 < cLine) : MtR X "tuple.index" (rMtL G c .index true) := by
  intro pins s σ H x xs v us Q I rx rxs h
  obtain ⟨w, d, ds, rfl, rel, q1, q2, hd, h⟩ := h
  obtain ⟨y, ys, k, rfl, e1, e2, e3, hh⟩ := mt_index_inv (P := Out G w W0 (PE1 G Q)) id h
  obtain ⟨vy, rfl, qy⟩ := q2.one
  obtain ⟨u, rfl, ru⟩ := vals1 rxs
  obtain ⟨zs, rfl⟩ := hd.mpr rfl
  obtain ⟨a, vs, rfl, rs, ⟨la, e⟩ | ⟨ta, e⟩⟩ := seq_of rel q1 e1
  · simp only [lstAt] at e; cases e
  · cases rx
    have hs : SqT X.K w.H a vs := by rw [hK]; exact ta.sq
    obtain ⟨its, r, ⟨⟨cls, dd, data, sl⟩, ho, hc, n, hdd⟩, hz⟩ := I.tuple hs
    simp only at hc hdd
    subst hc hdd
    obtain ⟨k1, k2, pa, pl, un, as, bs, r1, r2⟩ := seek hK hu I rs r qy ru e2
    obtain ⟨j, rfl, hp⟩ := findD_place k1 k2 e3
    obtain ⟨hj, hit, miss⟩ := PySem.SeqAt.hit_at r1 pa hp
    have m := TI.tuple_indexAt a its.toArray n dd sl u (fun z => PyData.eqv (PySem.SeqAt.readOf s.heap z) (toPy y)) j hj hit miss
    refine call_meets PySem.F.slot_tuple_index ⟨_, ho, rfl⟩ PySem.F.entry_tuple_index (PySem.F.args_tuple_index_2 _ _) m ⟨ho, PySem.SeqAt.items_plain r1 r2 pa pl un, ?_⟩
    rw [Nat.zero_add] at hh
    exact ⟨.int (j : Int), w.H, I.tok _, ⟨_, rfl⟩, Out.int rel hh⟩
theorem mt_countL (hK : X.K = G.K) (hu : X.A.units + 64 < cLine) : MtR X "list.count" (rMtL G c .count false) := by
  intro pins s σ H x xs v us Q I rx rxs h
  obtain ⟨w, d, ds, rfl, rel, q1, q2, hd, h⟩ := h
  obtain ⟨y, ys, rfl, e1, e2, h⟩ := mt_count_inv (P := Out G w W0 (PE1 G Q)) id h
  obtain ⟨vy, rfl, qy⟩ := q2.one
  obtain ⟨u, rfl, ru⟩ := vals1 rxs
  obtain ⟨a, vs, rfl, rs, ⟨la, _⟩ | ⟨ta, e⟩⟩ := seq_of rel q1 e1
  · cases rx
    have hs : SqL X.K w.H a vs := by rw [hK]; exact la.sq
    obtain ⟨its, r, pl', hz⟩ := I.list hs
    obtain ⟨k1, k2, pa, pl, un, as, bs, r1, r2⟩ := seek hK hu I rs r qy ru e2
    rw [countD_eq k1 k2] at h
    exact PySem.SeqAt.count_list_data pl'.isList r1 r2 pa pl un ⟨.int _, w.H, I.tok _, ⟨_, rfl⟩, Out.int rel h⟩
  · exact absurd (hd.mp ⟨ys, e⟩) (by decide)
theorem mt_countT (hK : X.K = G.K) (hu : X.A.units + 64 < cLine) : MtR X "tuple.count" (rMtL G c .count true) := by
  intro pins s σ H x xs v us Q I rx rxs h
  obtain ⟨w, d, ds, rfl, rel, q1, q2, hd, h⟩ := h
  obtain ⟨y, ys, rfl, e1, e2, hh⟩ := mt_count_inv (P := Out G w W0 (PE1 G Q)) id h
  obtain ⟨vy, rfl, qy⟩ := q2.one
  obtain ⟨u, rfl, ru⟩ := vals1 rxs
  obtain ⟨zs, rfl⟩ := hd.mpr rfl
  obtain ⟨a, vs, rfl, rs, ⟨la, e⟩ | ⟨ta, e⟩⟩ := seq_of rel q1 e1
  · simp only [lstAt] at e; cases e
  · cases rx
    have hs : SqT X.K w.H a vs := by rw [hK]; exact ta.sq
    obtain ⟨its, r, tt, hz⟩ := I.tuple hs
    obtain ⟨k1, k2, pa, pl, un, as, bs, r1, r2⟩ := seek hK hu I rs r qy ru e2
    rw [countD_eq k1 k2] at hh
    exact PySem.SeqAt.count_tuple_data tt r1 r2 pa pl un ⟨.int _, w.H, I.tok _, ⟨_, rfl⟩, Out.int rel hh⟩
end
end Ip
namespace Ip
open PySem PySem.Spec PyProof.Rows L2

/-! ### data apart, data alike -/
mutual
theorem toPy_inj : ∀ (d e : D) (n m : Nat), d.data n = true → e.data m = true → toPy d = toPy e → d = e
  | d, e, n, m, hd, he, h => by
    cases d with
    | loc => cases n <;> cases hd
    | fn => cases n <;> cases hd
    | exc => cases n <;> cases hd
    | tup xs =>
      cases e with
      | loc => cases m <;> cases he
      | fn => cases m <;> cases he
      | exc => cases m <;> cases he
      | tup ys =>
        cases n with
        | zero => cases hd
        | succ n =>
          cases m with
          | zero => cases he
          | succ m =>
            simp only [toPy, PyData.tuple.injEq] at h
            rw [toPys_inj xs ys n m (by simpa only [D.data] using hd) (by simpa only [D.data] using he) h]
      | _ => simp only [toPy, reduceCtorEq] at h
    | lst xs =>
      cases e with
      | loc => cases m <;> cases he
      | fn => cases m <;> cases he
      | exc => cases m <;> cases he
      | lst ys =>
        cases n with
        | zero => cases hd
        | succ n =>
          cases m with
          | zero => cases he
          | succ m =>
            simp only [toPy, PyData.list.injEq] at h
            rw [toPys_inj xs ys n m (by simpa only [D.data] using hd) (by simpa only [D.data] using he) h]
      | _ => simp only [toPy, reduceCtorEq] at h
    | _ =>
      cases e with
      | loc => cases m <;> cases he
      | fn => cases m <;> cases he
      | exc => cases m <;> cases he
      | _ => simp only [toPy, reduceCtorEq, PyData.int.injEq, PyData.bool.injEq, PyData.str.injEq] at h <;> first | rfl | rw [h]
theorem toPys_inj : ∀ (ds es : List D) (n m : Nat), datas ds n = true → datas es m = true → toPys ds = toPys es → ds = es
  | [], [], _, _, _, _, _ => rfl
  | [], _ :: _, _, _, _, _, h => by simp only [toPys, reduceCtorEq] at h
  | _ :: _, [], _, _, _, _, h => by simp only [toPys, reduceCtorEq] at h
  | d :: ds, e :: es, n, m, h, h', q => by
    simp only [datas, Bool.and_eq_true] at h h'
    simp only [toPys, List.cons.injEq] at q
    rw [toPy_inj d e n m h.1 h'.1 q.1, toPys_inj ds es n m h.2 h'.2 q.2]
end
mutual
theorem fits_alike : ∀ (x y : D) (k : Kd), k.fits x = true → k.fits y = true → alikeD x y = true
  | .tup xs, y, k, h, h' => by
    cases k with
    | of k =>
      cases y <;> first | (simp only [Kd.fits] at h'; cases h') | skip
      rename_i ys
      simp only [Kd.fits] at h h'
      simp only [alikeD]
      exact fitAll_alike xs ys k h h'
    | tup ks =>
      cases y <;> first | (simp only [Kd.fits] at h'; cases h') | skip
      rename_i ys
      simp only [Kd.fits] at h h'
      simp only [alikeD]
      exact fitEach_alike xs ys ks h h'
    | _ => simp only [Kd.fits] at h; cases h
  | .bl a, y, k, h, h' => by cases k <;> cases y <;> simp only [Kd.fits, alikeD, reduceCtorEq] at h h' ⊢
  | .int a, y, k, h, h' => by cases k <;> cases y <;> simp only [Kd.fits, alikeD, reduceCtorEq] at h h' ⊢
  | .str a, y, k, h, h' => by cases k <;> cases y <;> simp only [Kd.fits, alikeD, reduceCtorEq] at h h' ⊢
  | .non, y, k, h, h' => by cases k <;> simp only [Kd.fits, reduceCtorEq] at h
  | .lst _, y, k, h, h' => by cases k <;> simp only [Kd.fits, reduceCtorEq] at h
  | .loc _, y, k, h, h' => by cases k <;> simp only [Kd.fits, reduceCtorEq] at h
  | .fn _, y, k, h, h' => by cases k <;> simp only [Kd.fits, reduceCtorEq] at h
  | .exc _ _, y, k, h, h' => by cases k <;> simp only [Kd.fits, reduceCtorEq] at h
theorem fitAll_alike : ∀ (xs ys : List D) (k : Kd), fitAll k xs = true → fitAll k ys = true → alikeDs xs ys = true
  | [], ys, _, _, _ => by simp only [alikeDs]
  | _ :: _, [], _, _, _ => by simp only [alikeDs]
  | x :: xs, y :: ys, k, h, h' => by
    simp only [fitAll, Bool.and_eq_true] at h h'
    simp only [alikeDs, Bool.and_eq_true]
    exact ⟨fits_alike x y k h.1 h'.1, fitAll_alike xs ys k h.2 h'.2⟩
theorem fitEach_alike : ∀ (xs ys : List D) (ks : List Kd), fitEach ks xs = true → fitEach ks ys = true → alikeDs xs ys = true
  | [], ys, _, _, _ => by simp only [alikeDs]
  | _ :: _, [], _, _, _ => by simp only [alikeDs]
  | x :: xs, y :: ys, [], h, h' => by simp only [fitEach, reduceCtorEq] at h
  | x :: xs, y :: ys, k :: ks, h, h' => by
    simp only [fitEach, Bool.and_eq_true] at h h'
    simp only [alikeDs, Bool.and_eq_true]
    exact ⟨fits_alike x y k h.1 h'.1, fitEach_alike xs ys ks h.2 h'.2⟩
end
theorem fitAll_mem {k : Kd} : ∀ {xs : List D}, fitAll k xs = true → ∀ x ∈ xs, k.fits x = true
  | [], _, x, hx => by cases hx
  | y :: xs, h, x, hx => by
    simp only [fitAll, Bool.and_eq_true] at h
    rcases List.mem_cons.mp hx with rfl | hx
    · exact h.1
    · exact fitAll_mem h.2 x hx
theorem firstFit_ex : ∀ {all xs : List D}, firstFit all xs = true → ∃ k, fitAll k all = true
  | _, [], h => by cases h
  | all, x :: r, h => by
    simp only [firstFit, Bool.or_eq_true] at h
    rcases h with h | h
    · exact ⟨_, h⟩
    · exact firstFit_ex h
theorem datas_mem {n : Nat} : ∀ {xs : List D}, datas xs n = true → ∀ x ∈ xs, x.data n = true
  | [], _, x, hx => by cases hx
  | y :: xs, h, x, hx => by
    simp only [datas, Bool.and_eq_true] at h
    rcases List.mem_cons.mp hx with rfl | hx
    · exact h.1
    · exact datas_mem h.2 x hx
theorem fits_nn {k : Kd} {x : D} (h : k.fits x = true) : x.isNon = false := by cases x <;> first | rfl | (cases k <;> simp only [Kd.fits, reduceCtorEq] at h)
/-- all alike, by twos -/
structure Alk (n : Nat) (xs : List D) : Prop where
  dat : datas xs n = true
  two : ∀ x ∈ xs, ∀ y ∈ xs, alikeD x y = true
  nn : ∀ x ∈ xs, x.isNon = false
theorem Alk.of {n : Nat} {all xs : List D} (h : datas all n = true) (f : firstFit all xs = true) : Alk n all := by
  obtain ⟨k, hk⟩ := firstFit_ex f
  exact ⟨h, fun x hx y hy => fits_alike x y k (fitAll_mem hk x hx) (fitAll_mem hk y hy), fun x hx => fits_nn (fitAll_mem hk x hx)⟩
theorem Alk.py {n : Nat} {xs : List D} (a : Alk n xs) : ∀ x ∈ xs, ∀ y ∈ xs, PySem.W.alike (toPy x) (toPy y) = true := fun x hx y hy => by
  rw [← alike_eq x y n n (datas_mem a.dat x hx) (datas_mem a.dat y hy)]; exact a.two x hx y hy
theorem Alk.lt {n : Nat} {xs : List D} (a : Alk n xs) : ∀ x ∈ xs, ∀ y ∈ xs, ltD x y = PySem.W.dataLt (toPy x) (toPy y) := fun x hx y hy =>
  lt_eq x y n n (datas_mem a.dat x hx) (datas_mem a.dat y hy) (a.two x hx y hy)
theorem mem_toPys {d : PyData} {xs : List D} (h : d ∈ toPys xs) : ∃ x ∈ xs, toPy x = d := by
  rw [toPys_map] at h
  exact List.mem_map.mp h
theorem Alk.all {n : Nat} {xs : List D} (a : Alk n xs) : PySem.W.AlikeAll (toPys xs) := by
  refine ⟨fun d hd e he => ?_, fun d hd => ?_⟩
  · obtain ⟨x, hx, rfl⟩ := mem_toPys hd
    obtain ⟨y, hy, rfl⟩ := mem_toPys he
    exact a.py x hx y hy
  · obtain ⟨x, hx, rfl⟩ := mem_toPys hd
    exact isNon_py (datas_mem a.dat x hx) (a.nn x hx)
theorem minDs_eq {n : Nat} {all : List D} (a : Alk n all) : ∀ {ys : List D} {b : D}, b ∈ all → (∀ y ∈ ys, y ∈ all) → toPy (minDs b ys) = PySem.W.minD (toPy b) (toPys ys) ∧ minDs b ys ∈ all
  | [], b, hb, _ => ⟨rfl, hb⟩
  | y :: ys, b, hb, h => by
    have hy := h y List.mem_cons_self
    have e := a.lt y hy b hb
    have st := minDs_eq a (ys := ys) (b := if ltD y b then y else b) (by split <;> assumption) (fun z hz => h z (List.mem_cons_of_mem _ hz))
    refine ⟨?_, st.2⟩
    have st1 := st.1
    unfold PySem.W.minD at st1 ⊢
    rw [toPys, List.foldl_cons, minDs, st1, ← e]
    cases ltD y b <;> rfl
theorem maxDs_eq {n : Nat} {all : List D} (a : Alk n all) : ∀ {ys : List D} {b : D}, b ∈ all → (∀ y ∈ ys, y ∈ all) → toPy (maxDs b ys) = PySem.W.maxD (toPy b) (toPys ys) ∧ maxDs b ys ∈ all
  | [], b, hb, _ => ⟨rfl, hb⟩
  | y :: ys, b, hb, h => by
    have hy := h y List.mem_cons_self
    have e := a.lt b hb y hy
    have st := maxDs_eq a (ys := ys) (b := if ltD b y then y else b) (by split <;> assumption) (fun z hz => h z (List.mem_cons_of_mem _ hz))
    refine ⟨?_, st.2⟩
    have st1 := st.1
    unfold PySem.W.maxD at st1 ⊢
    rw [toPys, List.foldl_cons, maxDs, st1, ← e]
    cases ltD b y <;> rfl

/-! ### calls -/
def rBi (G : Gx) (c : Bool) (f : Bi) : List V → Hp → VK → Prop := fun xs H Q => ∃ w ds, w.H = H ∧ Rel G w ∧ RVs G w ds xs ∧ Out G w W0 (PE1 G Q) (bi c f ds w.η).r
section
variable {X : L2.Cx} {G : Gx} {c : Bool}
theorem natAbs_if (i : Int) : Int.ofNat i.natAbs = if i < 0 then -i else i := by
  simp only [Int.ofNat_eq_natCast]; split <;> omega
theorem cb_abs : CallR X (.builtin "abs") (rBi G c .abs) := by
  intro pins s σ H xs us Q I r h
  obtain ⟨w, ds, rfl, rel, q, h⟩ := h
  unfold bi at h
  split at h <;> try first | contradiction | exact h.elim
  obtain ⟨v, rfl, qv⟩ := q.one
  cases qv.int
  have h := Out.int rel h
  rw [natAbs_if] at h
  exact call_abs pins s σ w.H _ us Q I r ⟨_, rfl, h⟩
theorem alls_map : ∀ {xs : List D} {b : Bool}, alls xs = some b → ∃ bs : List Bool, xs = bs.map D.bl ∧ b = bs.all id
  | [], b, h => by simp only [alls, Option.some.injEq] at h; exact ⟨[], rfl, h.symm⟩
  | x :: r, b, h => by
    cases x with
    | bl a =>
      simp only [alls, Option.map_eq_some_iff] at h
      obtain ⟨c, h1, rfl⟩ := h
      obtain ⟨bs, rfl, rfl⟩ := alls_map h1
      exact ⟨a :: bs, rfl, rfl⟩
    | _ => simp only [alls, reduceCtorEq] at h
theorem anys_map : ∀ {xs : List D} {b : Bool}, anys xs = some b → ∃ bs : List Bool, xs = bs.map D.bl ∧ b = bs.any id
  | [], b, h => by simp only [anys, Option.some.injEq] at h; exact ⟨[], rfl, h.symm⟩
  | x :: r, b, h => by
    cases x with
    | bl a =>
      simp only [anys, Option.map_eq_some_iff] at h
      obtain ⟨c, h1, rfl⟩ := h
      obtain ⟨bs, rfl, rfl⟩ := anys_map h1
      exact ⟨a :: bs, rfl, rfl⟩
    | _ => simp only [anys, reduceCtorEq] at h
theorem rps_bls {w : Wd} : ∀ {bs : List Bool} {vs : List V}, RPs G w (bs.map D.bl) vs → vs = bs.map V.bl
  | [], _, .nil => rfl
  | _ :: _, _, .cons (.bl _) r => by rw [List.map_cons, rps_bls r]
theorem cb_all (hc : X.calm = true) (hK : X.K = G.K) : CallR X (.builtin "all") (rBi G c .all) := by
  intro pins s σ H xs us Q I r h
  obtain ⟨w, ds, rfl, rel, q, h⟩ := h
  unfold bi at h
  split at h <;> try first | contradiction | exact h.elim
  split at h
  · split at h
    · rename_i ys e1 _ b e2
      obtain ⟨v, rfl, qv⟩ := q.one
      obtain ⟨bs, rfl, rfl⟩ := alls_map e2
      obtain ⟨a, vs, rfl, l, rs⟩ := lst_of rel qv e1
      rw [rps_bls rs] at l
      exact cr_all hc pins s σ w.H _ us Q I r ⟨a, bs, rfl, by rw [hK]; exact l.sq, Out.here rel h (.inl (.bl _))⟩
    · exact h.elim
  · exact h.elim
theorem cb_any (hc : X.calm = true) (hK : X.K = G.K) : CallR X (.builtin "any") (rBi G c .any) := by
  intro pins s σ H xs us Q I r h
  obtain ⟨w, ds, rfl, rel, q, h⟩ := h
  unfold bi at h
  split at h <;> try first | contradiction | exact h.elim
  split at h
  · split at h
    · rename_i ys e1 _ b e2
      obtain ⟨v, rfl, qv⟩ := q.one
      obtain ⟨bs, rfl, rfl⟩ := anys_map e2
      obtain ⟨a, vs, rfl, l, rs⟩ := lst_of rel qv e1
      rw [rps_bls rs] at l
      exact cr_any hc pins s σ w.H _ us Q I r ⟨a, bs, rfl, by rw [hK]; exact l.sq, Out.here rel h (.inl (.bl _))⟩
    · exact h.elim
  · exact h.elim
theorem cb_int : CallR X (.type "int") (rBi G c .int) := by
  intro pins s σ H xs us Q I r h
  obtain ⟨w, ds, rfl, rel, q, h⟩ := h
  unfold bi at h
  split at h <;> try first | contradiction | exact h.elim
  · obtain ⟨v, rfl, qv⟩ := q.one
    cases qv.int
    exact call_int1 pins s σ w.H _ us Q I r (.inl ⟨_, rfl, Out.here rel h (.inl (.int _))⟩)
  · rename_i b
    obtain ⟨v, rfl, qv⟩ := q.one
    cases qv.bl
    refine call_int1 pins s σ w.H _ us Q I r (.inr ⟨_, rfl, ?_⟩)
    have := Out.here rel h (.inl (.int _))
    rw [b2i_eq] at this
    exact this
theorem cb_len (hK : X.K = G.K) : CallR X (.builtin "len") (rBi G c .len) := by
  intro pins s σ H xs us Q I r h
  obtain ⟨w, ds, rfl, rel, q, h⟩ := h
  unfold bi at h
  split at h <;> try first | contradiction | exact h.elim
  · split at h
    · rename_i z k
      rw [bleN, decide_eq_true_eq, sizeMax_eq] at k
      obtain ⟨v, rfl, qv⟩ := q.one
      cases qv.str
      exact call_len_str pins s σ w.H _ us Q I r ⟨_, rfl, k, Out.here rel h (.inl (.int _))⟩
    · exact h.elim
  · split at h
    · rename_i ys e1
      obtain ⟨v, rfl, qv⟩ := q.one
      obtain ⟨a, vs, rfl, rs, ls⟩ := seq_of rel qv e1
      have hh := Out.int rel h
      rw [rs.length] at hh
      refine call_len_seq pins s σ w.H _ us Q I r ⟨a, vs, rfl, ?_, hh⟩
      rcases ls with ⟨l, _⟩ | ⟨t, _⟩
      · exact .inl (by rw [hK]; exact l.sq)
      · exact .inr (by rw [hK]; exact t.sq)
    · exact h.elim
theorem cb_list (hK : X.K = G.K) : CallR X (.type "list") (rBi G c .list) := by
  intro pins s σ H xs us Q I r h
  obtain ⟨w, ds, rfl, rel, q, h⟩ := h
  unfold bi at h
  split at h <;> try first | contradiction | exact h.elim
  split at h
  · rename_i ys e1
    obtain ⟨v, rfl, qv⟩ := q.one
    obtain ⟨a, vs, rfl, rs, ls⟩ := seq_of rel qv e1
    refine call_list_of pins s σ w.H _ us Q I r ⟨a, vs, rfl, ?_, fun p hp => Out.lst rel rs h hp⟩
    rcases ls with ⟨l, _⟩ | ⟨t, _⟩
    · exact .inl (by rw [hK]; exact l.sq)
    · exact .inr (by rw [hK]; exact t.sq)
  · exact h.elim
theorem cb_tuple (hK : X.K = G.K) : CallR X (.type "tuple") (rBi G c .tuple) := by
  intro pins s σ H xs us Q I r h
  obtain ⟨w, ds, rfl, rel, q, h⟩ := h
  unfold bi at h
  split at h <;> try first | contradiction | exact h.elim
  split at h
  · rename_i ys e1
    obtain ⟨v, rfl, qv⟩ := q.one
    obtain ⟨u, rfl, ru⟩ := vals1 r
    obtain ⟨a, vs, rfl, rs, ⟨l, _⟩ | ⟨t, e⟩⟩ := seq_of rel qv e1
    · cases ru
      have hs : SqL X.K w.H a vs := by rw [hK]; exact l.sq
      obtain ⟨its, rv, pl, hz⟩ := I.list hs
      refine call_tuple_list pl.isList (fun h' kp => ?_) (by rw [List.size_toArray, ← rv.length]; exact hz)
      have J : Inv X pins σ w.H { s with heap := h' } := Inv.kept (t' := s.toks) I kp
      have fin := NewT.ep (Out.newT rel rs h) s.toks J rv hz
      exact fin
    · cases ru
      have hs : SqT X.K w.H a vs := by rw [hK]; exact t.sq
      obtain ⟨its, rv, pl, hz⟩ := I.tuple hs
      exact call_tuple_same pl ⟨.ref a, w.H, I, rfl, Out.here rel h (.inl (.tup t rs))⟩
  · exact h.elim
theorem ints_map : ∀ {xs : List D} {is : List Int}, intsO xs = some is → xs = is.map D.int
  | [], is, h => by simp only [intsO, Option.some.injEq] at h; subst h; rfl
  | x :: r, is, h => by
    cases x with
    | int i =>
      simp only [intsO, Option.map_eq_some_iff] at h
      obtain ⟨js, h1, rfl⟩ := h
      rw [ints_map h1]; rfl
    | _ => simp only [intsO, reduceCtorEq] at h
theorem rps_ints {w : Wd} : ∀ {is : List Int} {vs : List V}, RPs G w (is.map D.int) vs → vs = is.map V.int
  | [], _, .nil => rfl
  | _ :: _, _, .cons (.int _) r => by rw [List.map_cons, rps_ints r]
theorem sumI_eq : ∀ (is : List Int) (a : Int), sumI is a = a + is.sum
  | [], a => by simp [sumI]
  | i :: r, a => by rw [sumI, forceI_eq, sumI_eq r, List.sum_cons]; omega
theorem preSum_ints : ∀ (ns : List Int) (k : Nat), preSum (fun i => ns.getD i 0) k = (ns.take k).sum
  | ns, 0 => by simp [preSum]
  | ns, k + 1 => by
    rw [preSum, preSum_ints ns k, List.take_add_one]
    cases e : ns[k]? with
    | none => simp [List.getD_eq_getElem?_getD, e]
    | some v => simp [List.getD_eq_getElem?_getD, e]
/-- sum of a tuple of ints -/
theorem sum_tup {prog : Program} {w : World} {A : Around} {E : Value → Shared → Prop} {s : Shared} {l : Addr} {its : List Value} {ns : List Int} {Q : Value → Shared → Prop} (hh : A.handled = none) (hl : s.heap.IsTuple l its.toArray) (hi : IntsAre its ns)
    (h : ∀ h' tk t', (∀ b o, s.heap.get? b = some o → h'.get? b = some o) → Q (.int ns.sum t') { s with heap := h', toks := tk }) : wpAny (model prog w) A (call (.builtin "sum") [.ref l]) Q E s := by
  refine PySem.call_sum_walkG (wpAny_pyIter_tuple hl ?_)
  have ne : l ≠ s.heap.objs.size := by obtain ⟨_, e, _⟩ := hl; exact Nat.ne_of_lt (Heap.lt_size e)
  have old : ∀ b o, s.heap.get? b = some o → (s.heap.push { cls := .type "tuple_iterator", data := .fields #[.ref l, .int 0 0] }).get? b = some o := fun b o e => Heap.get?_push_of_some _ e
  have wk := Walks.tuple (prog := prog) (w := w) (A := A.in1) hh s.heap.objs.size l ne its.toArray
  refine ⟨_, _, _, _, _, _, fun i => ns.getD i 0, rfl, wk, ⟨⟨_, Heap.get?_push_size _ rfl, rfl, rfl⟩, hl.push _⟩, fun b hb => ?_, fun i v hv => ?_, fun h' tk t' hk => ?_⟩
  · rw [Heap.size_push]
    rcases List.mem_cons.mp hb with rfl | hb
    · exact Nat.lt_succ_self _
    · rw [List.mem_singleton.mp hb]
      obtain ⟨_, e, _⟩ := hl
      exact Nat.lt_succ_of_lt (Heap.lt_size e)
  · exact PyProof.Rows.IntsAre.int_at hi i v (by simpa using hv)
  · have := h h' tk t' fun b o e => hk b o (fun z => by rw [List.mem_singleton.mp z] at e; exact absurd (Heap.lt_size e) (Nat.lt_irrefl _)) (old b o e)
    rw [preSum_ints, List.take_of_length_le (by rw [List.size_toArray, PyProof.Rows.IntsAre.length hi]; exact Nat.le_refl _)]
    exact this
theorem cb_sum (hc : X.calm = true) (hK : X.K = G.K) : CallR X (.builtin "sum") (rBi G c .sum) := by
  intro pins s σ H xs us Q I r h
  obtain ⟨w, ds, rfl, rel, q, h⟩ := h
  unfold bi at h
  split at h <;> try first | contradiction | exact h.elim
  split at h
  · split at h
    · rename_i ys e1 _ is e2
      obtain ⟨v, rfl, qv⟩ := q.one
      cases ints_map e2
      obtain ⟨a, vs, rfl, rs, ls⟩ := seq_of rel qv e1
      cases rps_ints rs
      have hh := Out.int rel h
      rw [sumI_eq, Int.zero_add] at hh
      rcases ls with ⟨l, _⟩ | ⟨t, _⟩
      · exact cr_sum hc pins s σ w.H _ us Q I r ⟨a, _, rfl, by rw [hK]; exact l.sq, hh⟩
      · have hs : SqT X.K w.H a (is.map V.int) := by rw [hK]; exact t.sq
        obtain ⟨its, rv, pl, hz⟩ := I.tuple hs
        rw [Vals.ref1 r]
        exact sum_tup (I.ok.hd hc) pl rv.ints fun h' tk t' hk => ⟨.int _, w.H, I.kept hk, ⟨_, rfl⟩, hh⟩
    · exact h.elim
  · exact h.elim
end
end Ip
/-! max, min of four ints -/
namespace Ip
open PySem PySem.Spec PyProof.Rows
/-- which is told, by the walk's own order -/
def topO (bt : Nat → Nat → Bool) : Nat := argBest bt 3
theorem args4 (f : String) (hf : f = "max" ∨ f = "min") (a b c d : Value) : argsOk f ⟨[a, b, c, d], []⟩ := by
  rcases hf with rfl | rfl <;> (unfold argsOk; kernel_rfl)
section
variable {prog : Program} {w : World} {A : Around} {E : Value → Shared → Prop} {s : Shared} {a b c d : Int} {t1 t2 t3 t4 : Tok}
abbrev four (a b c d : Int) (t1 t2 t3 t4 : Tok) : Array (Int × Tok) := #[(a, t1), (b, t2), (c, t3), (d, t4)]
abbrev fourO (a b c d : Int) (t1 t2 t3 t4 : Tok) : Obj := { cls := .type "tuple", data := .seq #[.int a t1, .int b t2, .int c t3, .int d t4] }
theorem four_is (h : Heap) : (h.push (fourO a b c d t1 t2 t3 t4)).IsTuple h.objs.size (intItems (four a b c d t1 t2 t3 t4)) := ⟨_, Heap.get?_push_size _ rfl, rfl, 0, by simp [intItems]⟩
/-- the walk over the four, one object behind the tuple for the iterator, one for the best -/
theorem four_walk {Q : Value → Shared → Prop} {op : CmpOp} {bt : Nat → Nat → Bool} (hh : A.handled = none) (hc : CmpOf prog w A.in1 op (fun i v => (intItems (four a b c d t1 t2 t3 t4))[i]? = some v) bt)
    (go : ∀ (I : Addr) (fp wr : List Addr) (P : Nat → Value → Prop) (St : Nat → Heap → Prop) (s2 : Shared), s2.os = s.os ∧ s2.gens = s.gens ∧ s2.drawn = s.drawn → (∀ x o, s.heap.get? x = some o → s2.heap.get? x = some o ∧ x ∉ wr) → (∀ x ∈ fp, x < s2.heap.objs.size) → Walks prog w A.in1 I fp wr 4 P St → St 0 s2.heap → CmpOf prog w A.in1 op P bt →
      (∀ v, P (argBest bt 3) v → (intItems (four a b c d t1 t2 t3 t4))[argBest bt 3]? = some v) → Q (.ref I) s2) :
    wpAny (model prog w) A.in1 (pyIter (.ref s.heap.objs.size)) Q E { s with heap := s.heap.push (fourO a b c d t1 t2 t3 t4) } := by
  have hT := four_is (a := a) (b := b) (c := c) (d := d) (t1 := t1) (t2 := t2) (t3 := t3) (t4 := t4) s.heap
  have hsz : (s.heap.push (fourO a b c d t1 t2 t3 t4)).objs.size = s.heap.objs.size + 1 := Heap.size_push ..
  refine wpAny_pyIter_tuple hT ?_
  have W := Walks.tuple (prog := prog) (w := w) (A := A.in1) hh (s.heap.push (fourO a b c d t1 t2 t3 t4)).objs.size s.heap.objs.size (by rw [hsz]; exact Nat.ne_of_lt (Nat.lt_succ_self _)) (intItems (four a b c d t1 t2 t3 t4))
  rw [show (intItems (four a b c d t1 t2 t3 t4)).size = 4 by simp [intItems]] at W
  refine go _ _ _ _ _ ⟨(s.heap.push (fourO a b c d t1 t2 t3 t4)).push _, s.gens, s.drawn, _, s.os⟩ ⟨rfl, rfl, rfl⟩ (fun x o e => ⟨Heap.get?_push_of_some _ (Heap.get?_push_of_some _ e), fun m => ?_⟩) (fun x hx => ?_) W ⟨⟨_, Heap.get?_push_size _ rfl, rfl, rfl⟩, hT.push _⟩ hc fun v hv => hv
  · have m := List.mem_singleton.mp m
    have q : x < s.heap.objs.size := Heap.lt_size e
    have z : x = s.heap.objs.size + 1 := m.trans hsz
    have q' : s.heap.objs.size + 1 < s.heap.objs.size := z ▸ q
    exact absurd q' (Nat.not_lt.mpr (Nat.le_succ _))
  · show x < ((s.heap.push _).push _).objs.size
    rw [Heap.size_push, hsz]
    rcases List.mem_cons.mp hx with z | hx
    · exact Nat.lt_of_le_of_lt (Nat.le_of_eq (z.trans hsz)) (Nat.lt_succ_self _)
    · have z := List.mem_singleton.mp hx
      exact Nat.lt_of_le_of_lt (Nat.le_of_eq z) (Nat.lt_succ_of_lt (Nat.lt_succ_self _))
theorem max_four {Q : Value → Shared → Prop} (hh : A.handled = none) (h : ∀ h' tk v, (∀ x o, s.heap.get? x = some o → h'.get? x = some o) → (∃ t, v = Value.int (maxI [b, c, d] a) t) → Q v { s with heap := h', toks := tk }) :
    wpAny (model prog w) A (call (.builtin "max") [.int a t1, .int b t2, .int c t3, .int d t4]) Q E s := by
  refine call_function_tree F.kind_max F.plain_max F.entry_max (args4 "max" (.inl rfl) _ _ _ _) ?_
  show wpAny _ A.in1 (Builtin.Builtins.bindParams "max" ["key", "default"] 0 ⟨[], []⟩ >>= _) _ _ s
  refine wpAny_bind (wpAny_of_eq (show Builtin.Builtins.bindParams "max" ["key", "default"] 0 ⟨[], []⟩ = pure [none, none] from rfl) ?_)
  show wpAny _ A.in1 (newTuple [.int a t1, .int b t2, .int c t3, .int d t4] >>= _) _ _ s
  refine wpAny_bind (wpAny_newObj_type ?_)
  refine wpAny_bind (four_walk (bt := fun i j => decide (numAt (four a b c d t1 t2 t3 t4) i > numAt (four a b c d t1 t2 t3 t4) j)) hh (CmpOf.ints_gt (numAt (four a b c d t1 t2 t3 t4)) (fun _ _ => intItems_at)) fun I fp wr P St s2 same old hfp W hst hcmp hP => ?_)
  refine wpAny_bind (wpAny_newObj_type ?_)
  have hSf : s2.heap.objs.size ∉ fp := fun hm => Nat.lt_irrefl _ (hfp _ hm)
  rw [show (toString "max" ++ toString ".loop" : String) = "max.loop" by decide]
  refine wpAny_pure ⟨plainId_quiet F.plain_max_loop _, codeAny_max_loop_first W _ hcmp s2.heap.objs.size hSf (by decide) (W.frame _ _ _ hst fun x _ o e => Heap.get?_push_of_some _ e) (Heap.get?_push_size _ rfl) fun v h' tk hv hk => ?_⟩
  have hv := hP v hv
  obtain ⟨e1, e2, e3⟩ := same
  have fin := h h' tk v (fun x o e => hk x o (old x o e).2 (Nat.ne_of_lt (Heap.lt_size (old x o e).1)) (Heap.get?_push_of_some _ (old x o e).1)) ?_
  · obtain ⟨hp2, g2, d2, k2, o2⟩ := s2
    dsimp only at e1 e2 e3
    subst e1 e2 e3
    exact fin
  · generalize hi : argBest (fun i j => decide (numAt (four a b c d t1 t2 t3 t4) i > numAt (four a b c d t1 t2 t3 t4) j)) 3 = i at hv
    have : (i = 0 ∧ maxI [b, c, d] a = a) ∨ (i = 1 ∧ maxI [b, c, d] a = b) ∨ (i = 2 ∧ maxI [b, c, d] a = c) ∨ (i = 3 ∧ maxI [b, c, d] a = d) := by
      subst hi
      by_cases h1 : a < b
      · by_cases h2 : b < c
        · by_cases h3 : c < d <;> simp [argBest, numAt, maxI, ltI_eq, h1, h2, h3]
        · by_cases h3 : b < d <;> simp [argBest, numAt, maxI, ltI_eq, h1, h2, h3]
      · by_cases h2 : a < c
        · by_cases h3 : c < d <;> simp [argBest, numAt, maxI, ltI_eq, h1, h2, h3]
        · by_cases h3 : a < d <;> simp [argBest, numAt, maxI, ltI_eq, h1, h2, h3]
    rcases this with ⟨rfl, q⟩ | ⟨rfl, q⟩ | ⟨rfl, q⟩ | ⟨rfl, q⟩ <;> (rw [q]; simp [intItems] at hv; exact ⟨_, hv.symm⟩)
theorem min_four {Q : Value → Shared → Prop} (hh : A.handled = none) (h : ∀ h' tk v, (∀ x o, s.heap.get? x = some o → h'.get? x = some o) → (∃ t, v = Value.int (minI [b, c, d] a) t) → Q v { s with heap := h', toks := tk }) :
    wpAny (model prog w) A (call (.builtin "min") [.int a t1, .int b t2, .int c t3, .int d t4]) Q E s := by
  refine call_function_tree F.kind_min F.plain_min F.entry_min (args4 "min" (.inr rfl) _ _ _ _) ?_
  show wpAny _ A.in1 (Builtin.Builtins.bindParams "min" ["key", "default"] 0 ⟨[], []⟩ >>= _) _ _ s
  refine wpAny_bind (wpAny_of_eq (show Builtin.Builtins.bindParams "min" ["key", "default"] 0 ⟨[], []⟩ = pure [none, none] from rfl) ?_)
  show wpAny _ A.in1 (newTuple [.int a t1, .int b t2, .int c t3, .int d t4] >>= _) _ _ s
  refine wpAny_bind (wpAny_newObj_type ?_)
  refine wpAny_bind (four_walk (bt := fun i j => decide (numAt (four a b c d t1 t2 t3 t4) i < numAt (four a b c d t1 t2 t3 t4) j)) hh (CmpOf.ints_lt (numAt (four a b c d t1 t2 t3 t4)) (fun _ _ => intItems_at)) fun I fp wr P St s2 same old hfp W hst hcmp hP => ?_)
  refine wpAny_bind (wpAny_newObj_type ?_)
  have hSf : s2.heap.objs.size ∉ fp := fun hm => Nat.lt_irrefl _ (hfp _ hm)
  rw [show (toString "min" ++ toString ".loop" : String) = "min.loop" by decide]
  refine wpAny_pure ⟨plainId_quiet F.plain_min_loop _, codeAny_min_loop_first W _ hcmp s2.heap.objs.size hSf (by decide) (W.frame _ _ _ hst fun x _ o e => Heap.get?_push_of_some _ e) (Heap.get?_push_size _ rfl) fun v h' tk hv hk => ?_⟩
  have hv := hP v hv
  obtain ⟨e1, e2, e3⟩ := same
  have fin := h h' tk v (fun x o e => hk x o (old x o e).2 (Nat.ne_of_lt (Heap.lt_size (old x o e).1)) (Heap.get?_push_of_some _ (old x o e).1)) ?_
  · obtain ⟨hp2, g2, d2, k2, o2⟩ := s2
    dsimp only at e1 e2 e3
    subst e1 e2 e3
    exact fin
  · generalize hi : argBest (fun i j => decide (numAt (four a b c d t1 t2 t3 t4) i < numAt (four a b c d t1 t2 t3 t4) j)) 3 = i at hv
    have : (i = 0 ∧ minI [b, c, d] a = a) ∨ (i = 1 ∧ minI [b, c, d] a = b) ∨ (i = 2 ∧ minI [b, c, d] a = c) ∨ (i = 3 ∧ minI [b, c, d] a = d) := by
      subst hi
      by_cases h1 : b < a
      · by_cases h2 : c < b
        · by_cases h3 : d < c <;> simp [argBest, numAt, minI, ltI_eq, h1, h2, h3]
        · by_cases h3 : d < b <;> simp [argBest, numAt, minI, ltI_eq, h1, h2, h3]
      · by_cases h2 : c < a
        · by_cases h3 : d < c <;> simp [argBest, numAt, minI, ltI_eq, h1, h2, h3]
        · by_cases h3 : d < a <;> simp [argBest, numAt, minI, ltI_eq, h1, h2, h3]
    rcases this with ⟨rfl, q⟩ | ⟨rfl, q⟩ | ⟨rfl, q⟩ | ⟨rfl, q⟩ <;> (rw [q]; simp [intItems] at hv; exact ⟨_, hv.symm⟩)
end
end Ip
namespace Ip
open PySem PySem.Spec PyProof.Rows L2

section
variable {X : L2.Cx} {G : Gx} {c : Bool}
/-- what a sequence is, for the walks over data -/
theorem seq_reads {pins : List (Addr × Obj)} {σ : L2.St} {s : Shared} {w : Wd} {n : Nat} {xs : List D} {vs : List V} {us : List Value} (hK : X.K = G.K) (I : Inv X pins σ w.H s) (rs : RPs G w xs vs) (r : Vals vs us) (k : datas xs n = true) :
    ∃ as, ReadsAll s.heap us.toArray.toList (toPys xs) as := by
  obtain ⟨as, r1⟩ := Dp.readsAll I _ vs us (by rw [hK]; exact rs.dp k) r
  exact ⟨as, by simpa using r1⟩
theorem datas_depth {xs : List D} {n : Nat} (k : datas xs n = true) : PyData.depthAll (toPys xs) ≤ n := (datas_lay xs n k).2
/-- the item that was found is the one that is meant -/
theorem item_is {pins : List (Addr × Obj)} {σ : L2.St} {s : Shared} {w : Wd} {n : Nat} {xs : List D} {vs : List V} {us : List Value} {d : D} {i : Nat} {v : Value} {h' : Heap} {bs : List Addr} (hK : X.K = G.K) (I : Inv X pins σ w.H s) (rs : RPs G w xs vs) (r : Vals vs us) (k : datas xs n = true)
    (hd : d ∈ xs) (hv : us.toArray[i]? = some v) (rd : Reads h' v (toPy d) bs) (old : ∀ b o, s.heap.get? b = some o → h'.get? b = some o) : ∃ x, RelV x v ∧ RP G w d x := by
  have hv' : us[i]? = some v := by simpa using hv
  have hl : i < us.length := (List.getElem?_eq_some_iff.mp hv').1
  have ev : vs[i]? = some (vs[i]'(by rw [r.length]; exact hl)) := List.getElem?_eq_getElem _
  obtain ⟨u, hu, ru⟩ := r.get ev
  have euv : u = v := Option.some.inj (hu.symm.trans hv')
  subst euv
  obtain ⟨e, he, re⟩ := rs.get' ev
  have hem := List.mem_of_getElem? he
  have ke := datas_mem k e hem
  have kd := datas_mem k d hd
  obtain ⟨as, r1⟩ := Dp.reads I _ _ u (by rw [hK]; exact re.dp ke) ru
  have uq := (Reads.unique (PySem.W.reads_keeps old r1) _ _ rd).1
  have := toPy_inj e d n n ke kd uq
  subst this
  exact ⟨_, ru, re⟩
theorem le59 (hu : X.A.units + 64 < cLine) {xs : List D} (k : datas xs 59 = true) : X.A.units + 1 + PyData.depthAll (toPys xs) < cLine := by
  have := datas_depth k
  omega
theorem cb_max (hc : X.calm = true) (hK : X.K = G.K) (hu : X.A.units + 64 < cLine) : CallR X (.builtin "max") (rBi G c .max) := by
  intro pins s σ H xs us Q I r h
  obtain ⟨w, ds, rfl, rel, q, h⟩ := h
  unfold bi at h
  split at h <;> try first | contradiction | exact h.elim
  · split at h
    · rename_i y ys e1
      split at h
      · rename_i k
        obtain ⟨v, rfl, qv⟩ := q.one
        simp only [canBest, Bool.and_eq_true] at k
        have al := Alk.of k.1 k.2
        obtain ⟨em, hm⟩ := maxDs_eq al (ys := ys) (b := y) List.mem_cons_self fun z hz => List.mem_cons_of_mem _ hz
        obtain ⟨a, vs, rfl, rs, ls⟩ := seq_of rel qv e1
        rw [Vals.ref1 r]
        have fin : ∀ (its : List Value), Vals vs its → ∀ (i : Nat) (z : Value) (h' : Heap) (tk : Nat) (bs : List Addr), its.toArray[i]? = some z → Reads h' z (PySem.W.maxD (toPy y) (toPys ys)) bs → (∀ b o, s.heap.get? b = some o → h'.get? b = some o) → EP X pins σ Q z { s with heap := h', toks := tk } :=
          fun its rv i z h' tk bs hz rd old => by
            rw [← em] at rd
            obtain ⟨x, rx, rp⟩ := item_is hK I rs rv k.1 hm hz rd old
            exact ⟨x, w.H, I.kept old, rx, Out.here rel h (.inl rp)⟩
        rcases ls with ⟨l, _⟩ | ⟨t, _⟩
        · have hs : SqL X.K w.H a vs := by rw [hK]; exact l.sq
          obtain ⟨its, rv, pl, hz⟩ := I.list hs
          obtain ⟨as, ra⟩ := seq_reads hK I rs rv k.1
          exact PySem.W.max_list_data (I.ok.hd hc) pl.isList ra al.all (le59 hu k.1) fun i z h' tk bs hz rd old => fin its rv i z h' tk bs hz rd old
        · have hs : SqT X.K w.H a vs := by rw [hK]; exact t.sq
          obtain ⟨its, rv, pl, hz⟩ := I.tuple hs
          obtain ⟨as, ra⟩ := seq_reads hK I rs rv k.1
          exact PySem.W.max_tuple_data (I.ok.hd hc) pl ra al.all (le59 hu k.1) fun i z h' tk bs hz rd old => fin its rv i z h' tk bs hz rd old
      · exact h.elim
    · exact h.elim
  · rename_i i j _
    obtain ⟨v1, v2, rfl, q1, q2⟩ := q.two
    cases q1.int; cases q2.int
    refine call_max2 hc pins s σ w.H _ us Q I r ⟨i, j, rfl, ?_⟩
    have := Out.here rel h (.inl (.int _))
    rw [ltI_eq] at this
    simpa using this
  · rename_i i j k l _
    cases xs with
    | nil => exact q.elim
    | cons v1 xs =>
      cases xs with
      | nil => exact q.2.elim
      | cons v2 xs =>
        obtain ⟨v3, v4, rfl, q3, q4⟩ := q.2.2.two
        cases q.1.int; cases q.2.1.int; cases q3.int; cases q4.int
        cases r with
        | cons r1 r =>
          cases r with
          | cons r2 r =>
            obtain ⟨u3, u4, rfl, r3, r4⟩ := vals2 r
            obtain ⟨t1, rfl⟩ := r1
            obtain ⟨t2, rfl⟩ := r2
            obtain ⟨t3, rfl⟩ := r3
            obtain ⟨t4, rfl⟩ := r4
            refine max_four (I.ok.hd hc) fun h' tk v old hv => ?_
            have := Out.here rel h (.inl (.int _))
            exact ⟨.int _, w.H, I.kept old, hv, this⟩
  · rename_i i j k _
    cases xs with
    | nil => exact q.elim
    | cons v1 xs =>
      obtain ⟨v2, v3, rfl, q2, q3⟩ := q.2.two
      cases q.1.int; cases q2.int; cases q3.int
      cases r with
      | cons r1 r =>
        obtain ⟨u2, u3, rfl, r2, r3⟩ := vals2 r
        obtain ⟨t1, rfl⟩ := r1
        obtain ⟨t2, rfl⟩ := r2
        obtain ⟨t3, rfl⟩ := r3
        refine PySem.max_three_ints (I.ok.hd hc) fun h' tk old => ?_
        have := Out.here rel h (.inl (.int _))
        simp only [ltI_eq, decide_eq_true_eq] at this
        refine ⟨_, w.H, I.kept old, ?_, this⟩
        simp only [gt_iff_lt]
        split <;> split <;> exact ⟨_, rfl⟩
theorem cb_min (hc : X.calm = true) (hK : X.K = G.K) (hu : X.A.units + 64 < cLine) : CallR X (.builtin "min") (rBi G c .min) := by
  intro pins s σ H xs us Q I r h
  obtain ⟨w, ds, rfl, rel, q, h⟩ := h
  unfold bi at h
  split at h <;> try first | contradiction | exact h.elim
  · split at h
    · rename_i y ys e1
      split at h
      · rename_i k
        obtain ⟨v, rfl, qv⟩ := q.one
        simp only [canBest, Bool.and_eq_true] at k
        have al := Alk.of k.1 k.2
        obtain ⟨em, hm⟩ := minDs_eq al (ys := ys) (b := y) List.mem_cons_self fun z hz => List.mem_cons_of_mem _ hz
        obtain ⟨a, vs, rfl, rs, ls⟩ := seq_of rel qv e1
        rw [Vals.ref1 r]
        have fin : ∀ (its : List Value), Vals vs its → ∀ (i : Nat) (z : Value) (h' : Heap) (tk : Nat) (bs : List Addr), its.toArray[i]? = some z → Reads h' z (PySem.W.minD (toPy y) (toPys ys)) bs → (∀ b o, s.heap.get? b = some o → h'.get? b = some o) → EP X pins σ Q z { s with heap := h', toks := tk } :=
          fun its rv i z h' tk bs hz rd old => by
            rw [← em] at rd
            obtain ⟨x, rx, rp⟩ := item_is hK I rs rv k.1 hm hz rd old
            exact ⟨x, w.H, I.kept old, rx, Out.here rel h (.inl rp)⟩
        rcases ls with ⟨l, _⟩ | ⟨t, _⟩
        · have hs : SqL X.K w.H a vs := by rw [hK]; exact l.sq
          obtain ⟨its, rv, pl, hz⟩ := I.list hs
          obtain ⟨as, ra⟩ := seq_reads hK I rs rv k.1
          exact PySem.W.min_list_data (I.ok.hd hc) pl.isList ra al.all (le59 hu k.1) fun i z h' tk bs hz rd old => fin its rv i z h' tk bs hz rd old
        · have hs : SqT X.K w.H a vs := by rw [hK]; exact t.sq
          obtain ⟨its, rv, pl, hz⟩ := I.tuple hs
          obtain ⟨as, ra⟩ := seq_reads hK I rs rv k.1
          exact PySem.W.min_tuple_data (I.ok.hd hc) pl ra al.all (le59 hu k.1) fun i z h' tk bs hz rd old => fin its rv i z h' tk bs hz rd old
      · exact h.elim
    · exact h.elim
  · rename_i i j _
    obtain ⟨v1, v2, rfl, q1, q2⟩ := q.two
    cases q1.int; cases q2.int
    refine call_min2 hc pins s σ w.H _ us Q I r ⟨i, j, rfl, ?_⟩
    have := Out.here rel h (.inl (.int _))
    rw [ltI_eq] at this
    simpa using this
  · rename_i i j k l _
    cases xs with
    | nil => exact q.elim
    | cons v1 xs =>
      cases xs with
      | nil => exact q.2.elim
      | cons v2 xs =>
        obtain ⟨v3, v4, rfl, q3, q4⟩ := q.2.2.two
        cases q.1.int; cases q.2.1.int; cases q3.int; cases q4.int
        cases r with
        | cons r1 r =>
          cases r with
          | cons r2 r =>
            obtain ⟨u3, u4, rfl, r3, r4⟩ := vals2 r
            obtain ⟨t1, rfl⟩ := r1
            obtain ⟨t2, rfl⟩ := r2
            obtain ⟨t3, rfl⟩ := r3
            obtain ⟨t4, rfl⟩ := r4
            refine min_four (I.ok.hd hc) fun h' tk v old hv => ?_
            have := Out.here rel h (.inl (.int _))
            exact ⟨.int _, w.H, I.kept old, hv, this⟩
  · rename_i i j k _
    cases xs with
    | nil => exact q.elim
    | cons v1 xs =>
      obtain ⟨v2, v3, rfl, q2, q3⟩ := q.2.two
      cases q.1.int; cases q2.int; cases q3.int
      cases r with
      | cons r1 r =>
        obtain ⟨u2, u3, rfl, r2, r3⟩ := vals2 r
        obtain ⟨t1, rfl⟩ := r1
        obtain ⟨t2, rfl⟩ := r2
        obtain ⟨t3, rfl⟩ := r3
        refine PySem.min_three_ints (I.ok.hd hc) fun h' tk old => ?_
        have := Out.here rel h (.inl (.int _))
        simp only [ltI_eq, decide_eq_true_eq] at this
        refine ⟨_, w.H, I.kept old, ?_, this⟩
        split <;> split <;> exact ⟨_, rfl⟩

/-! ### sorted -/
abbrev leD : D → D → Bool := PySem.W.dataLe false toPy
theorem leD_total : PySem.W.TotalLe leD := PySem.W.sortLe_total _ _ _
theorem leD_lt (a b : D) : leD a b = !PySem.W.dataLt (toPy b) (toPy a) := rfl
theorem mem_insL {x z : D} : ∀ {l : List D}, z ∈ insL x l ↔ z = x ∨ z ∈ l
  | [] => by simp [insL]
  | y :: r => by
    rw [insL]
    split
    · rw [List.mem_cons, mem_insL, List.mem_cons]
      constructor
      · rintro (h | h | h) <;> simp [h]
      · rintro (h | h | h) <;> simp [h]
    · rw [List.mem_cons]
theorem mem_isort {z : D} : ∀ {l : List D}, z ∈ isort l ↔ z ∈ l
  | [] => Iff.rfl
  | x :: r => by rw [isort, mem_insL, mem_isort, List.mem_cons]
theorem insL_pw {n : Nat} {all : List D} (al : Alk n all) {x : D} (hx : x ∈ all) : ∀ {l : List D}, (∀ z ∈ l, z ∈ all) → l.Pairwise (fun a b => leD a b = true) → (insL x l).Pairwise (fun a b => leD a b = true)
  | [], _, _ => by simp [insL]
  | y :: r, h, p => by
    have hy := h y List.mem_cons_self
    rw [insL]
    rw [List.pairwise_cons] at p
    split
    · rename_i t
      refine List.pairwise_cons.mpr ⟨fun z hz => ?_, insL_pw al hx (fun z hz => h z (List.mem_cons_of_mem _ hz)) p.2⟩
      rcases mem_insL.mp hz with rfl | hz
      · rcases leD_total.total y z with q | q
        · exact q
        · rw [leD_lt, ← al.lt y hy z hx, t] at q; cases q
      · exact p.1 z hz
    · rename_i t
      have q : leD x y = true := by rw [leD_lt, ← al.lt y hy x hx]; simpa using t
      refine List.pairwise_cons.mpr ⟨fun z hz => ?_, List.pairwise_cons.mpr p⟩
      rcases List.mem_cons.mp hz with rfl | hz
      · exact q
      · exact leD_total.trans _ _ _ q (p.1 z hz)
theorem insL_filter {n : Nat} {all : List D} (al : Alk n all) {x c : D} (hx : x ∈ all) : ∀ {l : List D}, (∀ z ∈ l, z ∈ all) → (insL x l).filter (PySem.W.sameRank leD c) = (x :: l).filter (PySem.W.sameRank leD c)
  | [], _ => rfl
  | y :: r, h => by
    have hy := h y List.mem_cons_self
    rw [insL]
    split
    · rename_i t
      have ih := insL_filter al (c := c) hx (l := r) fun z hz => h z (List.mem_cons_of_mem _ hz)
      have no : leD x y = false := by rw [leD_lt, ← al.lt y hy x hx, t]; rfl
      rw [List.filter_cons, ih]
      by_cases s1 : PySem.W.sameRank leD c x = true
      · have s2 : PySem.W.sameRank leD c y = false := by
          cases e : PySem.W.sameRank leD c y with
          | false => rfl
          | true =>
            unfold PySem.W.sameRank at s1 e
            rw [Bool.and_eq_true] at s1 e
            have := leD_total.trans _ _ _ s1.2 e.1
            rw [no] at this; cases this
        simp only [List.filter_cons, s1, s2, if_true, if_false, Bool.false_eq_true]
      · simp only [List.filter_cons, s1, if_false, Bool.false_eq_true]
    · rfl
theorem isort_eq {n : Nat} {all : List D} (al : Alk n all) : ∀ {l : List D}, (∀ z ∈ l, z ∈ all) → isort l = l.mergeSort leD := fun {l} h => by
  have key : ∀ {l : List D}, (∀ z ∈ l, z ∈ all) → (isort l).Pairwise (fun a b => leD a b = true) ∧ ∀ c, (isort l).filter (PySem.W.sameRank leD c) = l.filter (PySem.W.sameRank leD c) := by
    intro l
    induction l with
    | nil => exact fun _ => ⟨List.Pairwise.nil, fun _ => rfl⟩
    | cons x r ih =>
      intro h
      obtain ⟨p, f⟩ := ih fun z hz => h z (List.mem_cons_of_mem _ hz)
      have hx := h x List.mem_cons_self
      have hm : ∀ z ∈ isort r, z ∈ all := fun z hz => h z (List.mem_cons_of_mem _ (mem_isort.mp hz))
      refine ⟨insL_pw al hx hm p, fun c => ?_⟩
      rw [isort, insL_filter al hx hm, List.filter_cons, List.filter_cons, f c]
  exact PySem.W.sort_unique leD_total (key h).1 (key h).2
theorem noEmpty_mem : ∀ {xs : List D}, noEmpty xs = true → D.tup [] ∉ xs
  | [], _ => by simp
  | x :: r, h => by
    intro m
    rcases List.mem_cons.mp m with rfl | m
    · simp only [noEmpty, reduceCtorEq] at h
    · refine noEmpty_mem ?_ m
      cases x with
      | tup ys => cases ys <;> simp only [noEmpty, reduceCtorEq] at h; exact h
      | _ => simpa only [noEmpty] using h
theorem sortable_of {xs : List D} (hn : noEmpty xs = true) {k : Kd} (hk : fitAll k xs = true) : PySem.W.Sortable (toPys xs) := by
  cases k with
  | of k =>
    refine .inl fun d hd => ?_
    obtain ⟨x, hx, rfl⟩ := mem_toPys hd
    have f := fitAll_mem hk x hx
    cases x with
    | tup ys =>
      cases ys with
      | nil => exact absurd hx (noEmpty_mem hn)
      | cons y ys => exact ⟨_, _, rfl⟩
    | _ => simp only [Kd.fits, reduceCtorEq] at f
  | tup ks =>
    refine .inl fun d hd => ?_
    obtain ⟨x, hx, rfl⟩ := mem_toPys hd
    have f := fitAll_mem hk x hx
    cases x with
    | tup ys =>
      cases ys with
      | nil => exact absurd hx (noEmpty_mem hn)
      | cons y ys => exact ⟨_, _, rfl⟩
    | _ => simp only [Kd.fits, reduceCtorEq] at f
  | _ =>
    refine .inr fun d hd => ?_
    obtain ⟨x, hx, rfl⟩ := mem_toPys hd
    have f := fitAll_mem hk x hx
    cases x <;> first | (simp only [Kd.fits, reduceCtorEq] at f; done) | (refine ⟨fun z => ?_, fun _ z => ?_⟩ <;> (simp only [toPy] at z; cases z))
theorem each_of {w : Wd} : ∀ {xs : List D} {vs : List V} {us : List Value}, RPs G w xs vs → Vals vs us → PySem.W.EachIs (fun (v : Value) d => ∃ u, RelV u v ∧ RP G w d u) us xs
  | _, _, _, .nil, .nil => .nil
  | _, _, _, .cons h r, .cons q t => .cons ⟨_, q, h⟩ (each_of r t)
theorem of_each {w : Wd} : ∀ {xs : List D} {us : List Value}, PySem.W.EachIs (fun (v : Value) d => ∃ u, RelV u v ∧ RP G w d u) us xs → ∃ vs, Vals vs us ∧ RPs G w xs vs
  | _, _, .nil => ⟨[], .nil, .nil⟩
  | _, _, .cons ⟨u, a, b⟩ t => by
    obtain ⟨vs, q, r⟩ := of_each t
    exact ⟨u :: vs, .cons a q, .cons b r⟩
theorem each_reads {pins : List (Addr × Obj)} {σ : L2.St} {s : Shared} {w : Wd} {n : Nat} (hK : X.K = G.K) (I : Inv X pins σ w.H s) : ∀ {xs : List D} {vs : List V} {us : List Value}, RPs G w xs vs → Vals vs us → datas xs n = true → PySem.W.EachIs (fun (v : Value) d => ∃ as, Reads s.heap v (toPy d) as) us xs
  | _, _, _, .nil, .nil, _ => .nil
  | _, _, _, .cons h r, .cons q t, k => by
    simp only [datas, Bool.and_eq_true] at k
    exact .cons (Dp.reads I _ _ _ (by rw [hK]; exact h.dp k.1) q) (each_reads hK I r t k.2)
theorem each_depth {A : Around} {n : Nat} {xs : List D} (k : datas xs n = true) (hu : A.units + 2 + n < cLine) : ∀ b, b ∈ xs → A.units + 2 + (toPy b).depth < cLine := fun b hb => by
  have := (data_lay b n (datas_mem k b hb)).2
  omega
open PySem.W in
theorem sorted_seq {prog : Program} {w : World} {A : Around} {E : Value → Shared → Prop} {s : Shared} {β : Type} {vs : List Value} {bs : List β} {enc : β → PyData} {R : Value → β → Prop} {l : Addr} {T : String} {o : Obj} {n : Nat} {Q : Value → Shared → Prop} (hT : T = "list" ∨ T = "tuple") (ho : s.heap.get? l = some o) (hc : o.cls = .type T) (hd : o.data = .seq vs.toArray n)
    (e : EachIs R vs bs) (er : EachIs (fun v b => ∃ as, Reads s.heap v (enc b) as) vs bs) (hal : AllAlike (bs.map enc)) (hk : Sortable (bs.map enc)) (hL : bs.length ≤ sizeLine) (hu : ∀ b, b ∈ bs → A.units + 2 + (enc b).depth < cLine)
    (h : ∀ (h' : Heap) (out : List Value), (∀ b o', s.heap.get? b = some o' → h'.get? b = some o') → out.length = bs.length → EachIs R out (bs.mergeSort (dataLe false enc)) → Q (.ref h'.objs.size) { s with heap := sortedHeap (h'.push (seqObj "list" vs.toArray 0)) h'.objs.size vs out.toArray }) :
    wpAny (model prog w) A (call (.builtin "sorted") [.ref l]) Q E s := by
  have hz : vs.length ≤ sizeLine := by rw [e.length]; exact hL
  refine call_function_entry_kw kind_sorted plain_sorted entry_sorted (args_sorted1 _) ?_
  unfold Builtin.«sorted»
  refine wpAny_bind (m := checkCount "sorted" 1 1 _) (wpAny_pure ?_)
  refine wpAny_bind (wpAny_collect_seq l hT ho hc hd (fun h' kp => ?_) (by rw [List.size_toArray]; exact hz))
  have e0 : vs.toArray.toList = vs := by simp
  rw [e0]
  refine wpAny_bind (wpAny_newList ?_ hz)
  have hat : (h'.push (seqObj "list" vs.toArray 0)).get? h'.objs.size = some (seqObj "list" vs.toArray 0) := Heap.get?_push_size _ rfl
  have old : ∀ b ob, s.heap.get? b = some ob → (sortingHeap (h'.push (seqObj "list" vs.toArray 0)) h'.objs.size vs).get? b = some ob := fun b ob q =>
    sortingHeap_old (Nat.ne_of_lt (Heap.lt_size (kp b ob q))) (Heap.get?_push_of_some _ (kp b ob q))
  refine wpAny_bind (wpAny_holding (wpAny_call_entry_kw slot_list_sort ⟨_, hat, rfl⟩ entry_list_sort ?body (args_list_sort _)))
  case body =>
    show wpAny (model prog w) A.in1.in1 (Builtin.«list.sort» ⟨[.ref h'.objs.size], []⟩) _ _ { s with heap := h'.push (seqObj "list" vs.toArray 0) }
    have er' : EachIs (fun v b => ∃ as, Reads (sortingHeap (h'.push (seqObj "list" vs.toArray 0)) h'.objs.size vs) v (enc b) as) vs bs := er.mono fun _ _ ⟨as, r⟩ => ⟨as, PyProof.Rows.Reads.keeps (fun b o q => old b o q) r⟩
    refine list_sort_vals (s := { s with heap := h'.push (seqObj "list" vs.toArray 0) }) hat (SortsAt.data (s := { s with heap := sortingHeap (h'.push (seqObj "list" vs.toArray 0)) h'.objs.size vs }) (each_map (R := fun v d => ∃ as, Reads (sortingHeap (h'.push (seqObj "list" vs.toArray 0)) h'.objs.size vs) v d as) enc er') hal hk (bound_map hu)) hz ?_
    exact ⟨_, rfl, wpAny_pure ⟨_, rfl, h h' _ kp (by rw [sortVals_length false rfl]; exact e.length) (sortVals_data false e er' hal)⟩⟩
theorem cb_sorted (hK : X.K = G.K) (hu : X.A.units + 64 < cLine) : CallR X (.builtin "sorted") (rBi G c .sorted) := by
  intro pins s σ H xs us Q I r h
  obtain ⟨w, ds, rfl, rel, q, h⟩ := h
  unfold bi at h
  split at h <;> try first | contradiction | exact h.elim
  split at h
  · split at h
    · rename_i ys e1 _ zs e2
      unfold isortO at e2
      split at e2
      · rename_i k
        cases e2
        obtain ⟨v, rfl, qv⟩ := q.one
        obtain ⟨a, vs, rfl, rs, lt⟩ := seq_of rel qv e1
        rw [Vals.ref1 r]
        have hob : ∃ (T : String) (o : Obj) (its : List Value) (n : Nat), (T = "list" ∨ T = "tuple") ∧ Vals vs its ∧ vs.length ≤ sizeLine ∧ s.heap.get? a = some o ∧ o.cls = .type T ∧ o.data = .seq its.toArray n := by
          rcases lt with ⟨l, _⟩ | ⟨t, _⟩
          · obtain ⟨z, its, n, rv, _, e⟩ := l.obj I
            exact ⟨"list", _, its, n, .inl rfl, rv, z, e, rfl, rfl⟩
          · obtain ⟨its, rv, ⟨o, e1, e2, n, e3⟩, z⟩ := I.tuple (by rw [hK]; exact t.sq)
            exact ⟨"tuple", o, its, n, .inr rfl, rv, z, e1, e2, e3⟩
        obtain ⟨T, o, its, n, hT, rv, hz, ho, hc, hd⟩ := hob
        unfold canSort at k
        simp only [Bool.and_eq_true] at k
        obtain ⟨⟨k1, k2⟩, k3⟩ := k
        have one : PySem.W.AllAlike (ys.map toPy) ∧ PySem.W.Sortable (ys.map toPy) ∧ isort ys = ys.mergeSort leD := by
          rw [← toPys_map]
          cases ys with
          | nil => exact ⟨fun d hd => by (simp only [toPys] at hd; cases hd), .inr fun d hd => by (simp only [toPys] at hd; cases hd), by simp [isort]⟩
          | cons y ys =>
            have al := Alk.of k2 k3
            obtain ⟨kd, hk⟩ := firstFit_ex k3
            exact ⟨al.all.1, sortable_of k1 hk, isort_eq al fun z hz => hz⟩
        refine sorted_seq (R := fun (v : Value) d => ∃ u, RelV u v ∧ RP G w d u) hT ho hc hd (each_of rs rv) (each_reads hK I rs rv k2) one.1 one.2.1 (by rw [rs.length]; exact hz) (each_depth k2 (by omega)) fun h' out kp ho eo => ?_
        obtain ⟨ws, rw', rps⟩ := of_each eo
        rw [← one.2.2] at rps
        have hat : (h'.push (seqObj "list" its.toArray 0)).get? h'.objs.size = some (seqObj "list" its.toArray 0) := Heap.get?_push_size _ rfl
        obtain ⟨cc, hcc⟩ := sortedHeap_at (vs := its) (out := out.toArray) hat
        have I' : Inv X pins σ w.H { s with heap := h' } := I.kept (t' := s.toks) kp
        have hn : w.H h'.objs.size = none := I'.hok.fresh (Nat.le_refl _)
        have sz : ws.length ≤ sizeLine := by rw [rw'.length, ho, rs.length]; exact hz
        have J := Inv.laid (t' := s.toks) (h' := sortedHeap (h'.push (seqObj "list" its.toArray 0)) h'.objs.size its out.toArray) (o := .lst ws) I' (fun b o e => (sortedHeap_old (Nat.ne_of_lt (Heap.lt_size e)) (by rw [size_push']; exact Nat.lt_succ_of_lt (Heap.lt_size e))).trans (Heap.get?_push_of_some _ e)) (Nat.le_refl _) ⟨sz, out, cc, rw', hcc⟩
        exact ⟨.ref h'.objs.size, _, J, rfl, Out.lst rel rps h hn⟩
      · cases e2
    · exact h.elim
  · exact h.elim
end
end Ip
namespace Ip
open PySem PySem.Spec PyProof.Rows L2
/-! ### sorted(set(..)) of ints -/
theorem mem_insU {x z : Int} : ∀ {l : List Int}, z ∈ insU x l ↔ z = x ∨ z ∈ l
  | [] => by simp [insU]
  | y :: r => by
    rw [insU, ltI_eq, eqI_eq]
    split
    · rw [List.mem_cons]
    · split
      · rename_i _ e
        have e := of_decide_eq_true e
        subst e
        simp
      · rw [List.mem_cons, mem_insU, List.mem_cons]
        constructor
        · rintro (h | h | h) <;> simp [h]
        · rintro (h | h | h) <;> simp [h]
theorem mem_sortU {z : Int} : ∀ {l : List Int}, z ∈ sortU l ↔ z ∈ l
  | [] => Iff.rfl
  | x :: r => by rw [sortU, mem_insU, mem_sortU, List.mem_cons]
theorem pw_insU {x : Int} : ∀ {l : List Int}, l.Pairwise (· < ·) → (insU x l).Pairwise (· < ·)
  | [], _ => by simp [insU]
  | y :: r, h => by
    have hc := List.pairwise_cons.mp h
    rw [insU, ltI_eq, eqI_eq]
    split
    · rename_i q
      have q := of_decide_eq_true q
      refine List.pairwise_cons.mpr ⟨fun z hz => ?_, h⟩
      rcases List.mem_cons.mp hz with rfl | hz
      · exact q
      · exact Int.lt_trans q (hc.1 z hz)
    · rename_i q
      have q' : ¬ x < y := by simpa using q
      split
      · exact h
      · rename_i e
        have e' : ¬ x = y := by simpa using e
        refine List.pairwise_cons.mpr ⟨fun z hz => ?_, pw_insU hc.2⟩
        rcases mem_insU.mp hz with rfl | hz
        · omega
        · exact hc.1 z hz
theorem pw_sortU : ∀ {l : List Int}, (sortU l).Pairwise (· < ·)
  | [] => List.Pairwise.nil
  | x :: r => by rw [sortU]; exact pw_insU pw_sortU
theorem pw_one : ∀ {l m : List Int}, l.Pairwise (· < ·) → m.Pairwise (· < ·) → (∀ z, z ∈ l ↔ z ∈ m) → l = m
  | [], [], _, _, _ => rfl
  | [], y :: m, _, _, h => absurd ((h y).mpr List.mem_cons_self) (by simp)
  | x :: l, [], _, _, h => absurd ((h x).mp List.mem_cons_self) (by simp)
  | x :: l, y :: m, p, q, h => by
    have p' := List.pairwise_cons.mp p
    have q' := List.pairwise_cons.mp q
    have e : x = y := by
      have a := (h x).mp List.mem_cons_self
      have b := (h y).mpr List.mem_cons_self
      rcases List.mem_cons.mp a with a | a
      · exact a
      · rcases List.mem_cons.mp b with b | b
        · exact b.symm
        · have := p'.1 y b; have := q'.1 x a; omega
    subst e
    congr 1
    refine pw_one p'.2 q'.2 fun z => ⟨fun hz => ?_, fun hz => ?_⟩
    · rcases List.mem_cons.mp ((h z).mp (List.mem_cons_of_mem _ hz)) with e | e
      · have := p'.1 z hz; omega
      · exact e
    · rcases List.mem_cons.mp ((h z).mpr (List.mem_cons_of_mem _ hz)) with e | e
      · have := q'.1 z hz; omega
      · exact e
theorem len_ints {is : List Int} : ∀ {vs : List V} {w : Wd} {G : Gx}, RPs G w (is.map D.int) vs → vs = is.map V.int := fun h => rps_ints h
def rSetI (G : Gx) (Wo : World) : List V → Hp → VK → Prop := fun xs H Q => ∃ w d ys is, w.H = H ∧ Rel G w ∧ RVs G w [d] xs ∧ seqAt w.η d = some ys ∧ intsO ys = some is ∧ is.length < 64 ∧
  ∀ p k, H p = none → k ≤ is.length → Q (.ref p) (upd H p (SetO Wo p (fun j => decide (j ∈ is)) k))
section
variable {X : L2.Cx} {G : Gx} {c : Bool}
theorem cb_set (hc : X.calm = true) (hK : X.K = G.K) : CallR X (.type "set") (rSetI G X.w) := by
  intro pins s σ H xs us Q I r h
  obtain ⟨w, d, ys, is, rfl, rel, q, e1, e2, few, h⟩ := h
  obtain ⟨v, rfl, qv⟩ := q.one
  cases ints_map e2
  obtain ⟨a, vs, rfl, rs, ls⟩ := seq_of rel qv e1
  cases rps_ints rs
  rw [Vals.ref1 r]
  have room : is.length + 1 < scanBound := by unfold scanBound; omega
  have hn : w.H s.heap.objs.size = none := I.fresh
  have fin : ∀ (h' : Heap) (tk k : Nat), SetR X.w h' s.heap.objs.size (fun j => decide (j ∈ is)) k → k ≤ is.length → (∀ b o, s.heap.get? b = some o → h'.get? b = some o) → EP X pins σ Q (.ref s.heap.objs.size) { s with heap := h', toks := tk } :=
    fun h' tk k R le old => ⟨.ref s.heap.objs.size, _, Inv.laid (o := SetO X.w s.heap.objs.size (fun j => decide (j ∈ is)) k) I old (Nat.le_refl _) (setO_new R), rfl, h _ k hn le⟩
  rcases ls with ⟨l, _⟩ | ⟨t, _⟩
  · have hs : SqL X.K w.H a (is.map V.int) := by rw [hK]; exact l.sq
    obtain ⟨its, rv, pl, hz⟩ := I.list hs
    exact call_set_ints is (I.ok.hd hc) pl.isList (by simpa using rv.ints) room fin
  · have hs : SqT X.K w.H a (is.map V.int) := by rw [hK]; exact t.sq
    obtain ⟨its, rv, pl, hz⟩ := I.tuple hs
    exact call_set_tupI is (I.ok.hd hc) pl (by simpa using rv.ints) room fin
theorem sset_ok {w : Wd} {d : D} {v : V} {Q : VK} {Wo : World} (rel : Rel G w) (qv : RV G w d v) (he : ∀ ys, seqAt w.η d = some ys → intsO ys ≠ none) (h : Out G w W0 (PE1 G Q) (bi c .sset [d] w.η).r) : rSetI G Wo [v] w.H fun x H2 => rSortedSet Wo [x] H2 Q := by
  simp only [bi] at h
  split at h
  · split at h
    · rename_i ys e1 _ is e2
      split at h
      · rename_i k
        rw [bltN, decide_eq_true_eq] at k
        cases ints_map e2
        rw [List.length_map] at k
        refine ⟨w, d, _, is, rfl, rel, ⟨qv, trivial⟩, e1, e2, k, fun p n hp hn => ⟨p, _, n, rfl, upd_same, by omega, fun ns q pw mem len hq => ?_⟩⟩
        have e : ns = sortU is := pw_one pw pw_sortU fun z => by rw [mem]; simp [mem_sortU]
        subst e
        have r1 : Rel G (w.lay p (SetO Wo p (fun j => decide (j ∈ is)) n)) := rel.lay hp _
        have rs : ∀ l : List Int, RPs G (w.lay p (SetO Wo p (fun j => decide (j ∈ is)) n)) (l.map D.int) (l.map V.int) := fun l => by
          induction l with
          | nil => exact .nil
          | cons i l ih => exact .cons (.int i) ih
        exact Out.lst r1 (rs (sortU is)) (Out.of r1 (Ext.lay rel hp _) h) hq
      · exact h.elim
    · rename_i e1 _ e2
      exact absurd e2 (he _ e1)
  · exact h.elim
end
end Ip
/-! sorted(set(..)) of tuples of ints -/
namespace Ip
open PySem PySem.Spec PyProof.Rows L2
abbrev Bt : Int := 1073741824
theorem codeI_eq : ∀ ns : List Int, codeI ns = TS.code Bt ns
  | [] => rfl
  | d :: r => by unfold codeI TS.code; rw [codeI_eq r]
theorem codes_eq : ∀ ts : List (List Int), codes ts = ts.map (TS.code Bt)
  | [] => rfl
  | x :: r => by rw [codes, forceI_eq, codes_eq r, codeI_eq]; rfl
theorem decD_code : ∀ ns : List Int, TS.Bd Bt ns → decD ns.length (TS.code Bt ns) = ns.map D.int
  | [], _ => rfl
  | d :: r, h => by
    obtain ⟨c0, c1⟩ := TS.code_bd r h.tail
    have pp : (0 : Int) < Bt ^ r.length := Int.pow_pos (by decide)
    have e : TS.code Bt (d :: r) = d * Bt ^ r.length + TS.code Bt r := rfl
    have q1 : TS.code Bt (d :: r) / Bt ^ r.length = d := by
      rw [e, Int.add_comm, Int.add_mul_ediv_right _ _ (by omega), Int.ediv_eq_zero_of_lt c0 c1, Int.zero_add]
    have q2 : TS.code Bt (d :: r) % Bt ^ r.length = TS.code Bt r := by
      rw [e, Int.add_comm, Int.add_mul_emod_self_right, Int.emod_eq_of_lt c0 c1]
    show decD (r.length + 1) _ = _
    rw [decD, forceI_eq, forceI_eq, q1, q2, decD_code r h.tail]; rfl
theorem allB_bd : ∀ {ns : List Int}, allB' ns = true → TS.Bd Bt ns
  | [], _ => fun m hm => nomatch hm
  | i :: r, h => fun m hm => by
    have h' : (inB i && allB' r) = true := h
    rw [Bool.and_eq_true] at h'
    rcases List.mem_cons.mp hm with rfl | hm
    · cases m with
      | ofNat n =>
        have : Nat.blt n 1073741824 = true := h'.1
        rw [bltN, decide_eq_true_eq] at this
        exact ⟨Int.natCast_nonneg n, by show (n : Int) < 1073741824; omega⟩
      | negSucc n => exact nomatch h'.1
    · exact allB_bd h'.2 m hm
theorem okT_ok {d : Nat} : ∀ {ts : List (List Int)}, okT d ts = true → ∀ t ∈ ts, t.length = d ∧ TS.Bd Bt t
  | [], _, _, h => nomatch h
  | is :: r, h, t, hm => by
    have h' : (Nat.beq is.length d && (allB' is && okT d r)) = true := h
    rw [Bool.and_eq_true, Bool.and_eq_true] at h'
    rcases List.mem_cons.mp hm with rfl | hm
    · exact ⟨Nat.eq_of_beq_eq_true h'.1, allB_bd h'.2.1⟩
    · exact okT_ok h'.2.2 t hm
theorem okTs_ok {ts : List (List Int)} (h : okTs ts = true) : 1 ≤ lenT ts ∧ ∀ t ∈ ts, t.length = lenT ts ∧ TS.Bd Bt t := by
  unfold okTs at h
  split at h
  · exact ⟨by show 1 ≤ _ + 1; omega, okT_ok h⟩
  · cases h
section
variable {G : Gx}
theorem tups_of {w : Wd} : ∀ {ys : List D} {vs : List V} {ts : List (List Int)}, RPs G w ys vs → tupsO ys = some ts → ∃ ks : List (Addr × List Int), vs = ks.map (fun p => V.ref p.1) ∧ ts = ks.map (·.2) ∧ ∀ p ∈ ks, RP G w (.tup (p.2.map .int)) (.ref p.1)
  | [], _, ts, .nil, h => by cases h; exact ⟨[], rfl, rfl, fun p hp => nomatch hp⟩
  | y :: ys, _, ts, .cons (v := v) r rs, h => by
    cases y <;> simp only [tupsO, reduceCtorEq] at h
    rename_i xs
    cases e : intsO xs with
    | none => rw [e] at h; cases h
    | some is =>
      rw [e] at h
      dsimp only at h
      cases e2 : tupsO ys with
      | none => rw [e2] at h; cases h
      | some t2 =>
        rw [e2] at h
        cases h
        obtain ⟨ks, h1, h2, h3⟩ := tups_of rs e2
        have ex := ints_map e
        subst ex
        cases r with
        | @tup a _ us t q =>
          refine ⟨(a, is) :: ks, by rw [h1]; rfl, by rw [h2]; rfl, fun p hp => ?_⟩
          rcases List.mem_cons.mp hp with rfl | hp
          · exact .tup t q
          · exact h3 p hp
theorem tup_sq {w : Wd} {ns : List Int} {a : Addr} (h : RP G w (.tup (ns.map .int)) (.ref a)) : SqT G.K w.H a (ns.map V.int) := by
  cases h with
  | tup t q => rw [← rps_ints q]; exact t.sq
theorem strict_codes {d : Nat} : ∀ {L : List (Addr × List Int)}, (∀ p ∈ L, p.2.length = d ∧ TS.Bd Bt p.2) → (L.map (·.2)).Nodup → L.Pairwise (fun q r => TS.code Bt q.2 ≤ TS.code Bt r.2) → (L.map fun p => TS.code Bt p.2).Pairwise (· < ·)
  | [], _, _, _ => List.Pairwise.nil
  | p :: r, hb, nd, pw => by
    have n' := List.nodup_cons.mp nd
    have p' := List.pairwise_cons.mp pw
    refine List.pairwise_cons.mpr ⟨fun z hz => ?_, strict_codes (fun q hq => hb q (List.mem_cons_of_mem _ hq)) n'.2 p'.2⟩
    obtain ⟨q, hq, rfl⟩ := List.mem_map.mp hz
    have le := p'.1 q hq
    rcases Int.lt_or_eq_of_le le with lt | eq
    · exact lt
    · exfalso
      obtain ⟨l1, b1⟩ := hb p List.mem_cons_self
      obtain ⟨l2, b2⟩ := hb q (List.mem_cons_of_mem _ hq)
      have e1 := decD_code p.2 b1
      have e2 := decD_code q.2 b2
      rw [eq, l1] at e1
      rw [l2] at e2
      rw [e1] at e2
      have inj : p.2 = q.2 := by
        have := congrArg intsO e2
        have k : ∀ l : List Int, intsO (l.map D.int) = some l := fun l => by
          induction l with
          | nil => rfl
          | cons i l ih => simp only [List.map_cons, intsO, ih]; rfl
        rw [k, k] at this
        exact Option.some.inj this
      refine n'.1 ?_
      show p.2 ∈ r.map (·.2)
      rw [inj]
      exact List.mem_map_of_mem hq
def rSet2 (G : Gx) (P : Program) (Wo : World) : List V → Hp → VK → Prop := fun xs H Q => rSetI G Wo xs H Q ∨ rSetOfT G.K P Wo xs H Q
def rSorted2 (G : Gx) (P : Program) (Wo : World) : List V → Hp → VK → Prop := fun xs H Q => rSortedSet Wo xs H Q ∨ rSortedT G.K P Wo xs H Q
theorem cb_set2 {X : L2.Cx} (hc : X.calm = true) (hK : X.K = G.K) (hu : X.A.units + 64 < cLine) : CallR X (.type "set") (rSet2 G X.prog X.w) := fun pins s σ H xs us Q I r h => by
  rcases h with h | h
  · exact cb_set hc hK pins s σ H xs us Q I r h
  · exact cr_setOfT hc hu pins s σ H xs us Q I r (by rw [hK]; exact h)
theorem cb_sorted2 {X : L2.Cx} (hc : X.calm = true) (hK : X.K = G.K) : CallR X (.builtin "sorted") (rSorted2 G X.prog X.w) := fun pins s σ H xs us Q I r h => by
  rcases h with h | h
  · exact cr_sortedSet hc pins s σ H xs us Q I r h
  · exact cr_sortedT hc pins s σ H xs us Q I r (by rw [hK]; exact h)
theorem sset2_ok {c : Bool} {w : Wd} {d : D} {v : V} {Q : VK} {P : Program} {Wo : World} (rel : Rel G w) (qv : RV G w d v) (h : Out G w W0 (PE1 G Q) (bi c .sset [d] w.η).r) : rSet2 G P Wo [v] w.H fun x H2 => rSorted2 G P Wo [x] H2 Q := by
  have hh := h
  simp only [bi] at h
  split at h
  · rename_i ys e1
    split at h
    · rename_i is e2
      obtain ⟨w0, d0, ys0, is0, a1, a2, a3, a4, a5, a6, a7⟩ := sset_ok (Wo := Wo) rel qv (fun ys' z => by rw [e1] at z; cases z; rw [e2]; exact fun y => nomatch y) hh
      exact .inl ⟨w0, d0, ys0, is0, a1, a2, a3, a4, a5, a6, fun p k x y => .inl (a7 p k x y)⟩
    · split at h
      · rename_i zs ts hl ht
        split at h
        · rename_i k
          rw [Bool.and_eq_true, bltN, decide_eq_true_eq] at k
          obtain ⟨k1, k2⟩ := k
          obtain ⟨d1, ok⟩ := okTs_ok k2
          obtain ⟨p0, vs, rfl, l, rs⟩ := lst_of rel qv hl
          have e3 : zs = ys := by
            cases d <;> first
              | (simp only [lstAt, reduceCtorEq] at hl; done)
              | (simp only [seqAt] at e1; rw [hl] at e1; exact Option.some.inj e1)
          subst e3
          obtain ⟨ks, rfl, rfl, rp⟩ := tups_of rs ht
          rw [List.length_map] at k1
          refine .inr ⟨p0, ks, rfl, l.sq, fun p hp => tup_sq (rp p hp), k1, fun a L ha hsub hall => .inr ⟨a, L, lenT (ks.map (·.2)), Bt, rfl, upd_same, ?_, d1, fun p hp => ok _ (List.mem_map_of_mem (hsub p hp)), fun L' p perm nd len pw hp => ?_⟩⟩
          · intro p hp
            have := (rp p (hsub p hp)).mono (Ext.lay rel ha (SetTO P Wo a L))
            exact tup_sq this
          · have r1 : Rel G (w.lay a (SetTO P Wo a L)) := rel.lay ha _
            have bd : ∀ q ∈ L', q.2.length = lenT (ks.map (·.2)) ∧ TS.Bd Bt q.2 := fun q hq => ok _ (List.mem_map_of_mem (hsub q (perm.mem_iff.mp hq)))
            have st := strict_codes bd nd pw
            have eq : (L'.map fun p => TS.code Bt p.2) = sortU (codes (ks.map (·.2))) := pw_one st pw_sortU fun z => by
              rw [mem_sortU, codes_eq]
              constructor
              · intro hz
                obtain ⟨q, hq, rfl⟩ := List.mem_map.mp hz
                exact List.mem_map_of_mem (List.mem_map_of_mem (hsub q (perm.mem_iff.mp hq)))
              · intro hz
                obtain ⟨t, ht, rfl⟩ := List.mem_map.mp hz
                obtain ⟨q, hq, rfl⟩ := List.mem_map.mp ht
                obtain ⟨q', hq', e⟩ := List.mem_map.mp (hall q hq)
                rw [← e]
                exact List.mem_map.mpr ⟨q', perm.mem_iff.mpr hq', rfl⟩
            have set : setT (ks.map (·.2)) = L'.map fun p => D.tup (p.2.map .int) := by
              unfold setT
              rw [← eq, List.map_map]
              refine List.map_congr_left fun q hq => ?_
              show D.tup (decD _ (TS.code Bt q.2)) = _
              rw [← (bd q hq).1, decD_code _ (bd q hq).2]
            have rs' : ∀ M : List (Addr × List Int), (∀ q ∈ M, q ∈ L') → RPs G (w.lay a (SetTO P Wo a L)) (M.map fun p => D.tup (p.2.map .int)) (M.map fun q => V.ref q.1) := fun M => by
              induction M with
              | nil => exact fun _ => .nil
              | cons q M ih => exact fun hM => .cons ((rp q (hsub q (perm.mem_iff.mp (hM q List.mem_cons_self)))).mono (Ext.lay rel ha _)) (ih fun z hz => hM z (List.mem_cons_of_mem _ hz))
            rw [set] at h
            exact Out.lst r1 (rs' L' fun q hq => hq) (Out.of r1 (Ext.lay rel ha _) h) hp
        · exact h.elim
      · exact h.elim
  · exact h.elim
end
end Ip
namespace Ip
open PySem PySem.Spec PyProof.Rows L2

/-! ### readings by the evaluator -/
abbrev Wat (W : L2.WX) (σ : L2.St) : PX := fun c d H => W c d σ H
def tE (C : Ip.Cx) (G : Gx) (W : L2.WX) (e : E) : TE := fun σ H Q => ∃ env w, w.H = H ∧ Rel G w ∧ EnvR G w env σ ∧ Out G w (Wat W σ) (PE1 G Q) (evE C e env w.η)
def tEs (C : Ip.Cx) (G : Gx) (W : L2.WX) (es : Es) : TA := fun σ H Q => ∃ env w, w.H = H ∧ Rel G w ∧ EnvR G w env σ ∧ Out G w (Wat W σ) (PEs G Q) (evEs C es env w.η)
/-- a value's truth is wanted -/
def PT1 (Q : Bool → Hp → Prop) : Wd → D → Prop := fun w d => ∃ b, tru w.η d = some b ∧ Q b w.H
def tT (C : Ip.Cx) (G : Gx) (W : L2.WX) (e : E) : TT := fun σ H Q => ∃ env w, w.H = H ∧ Rel G w ∧ EnvR G w env σ ∧ Out G w (Wat W σ) (PT1 Q) (evE C e env w.η)
def tAndV (C : Ip.Cx) (G : Gx) (W : L2.WX) (es : Es) : TE := fun σ H Q => ∃ env w, w.H = H ∧ Rel G w ∧ EnvR G w env σ ∧ Out G w (Wat W σ) (PE1 G Q) (evAnd C es env w.η)
def tOrV (C : Ip.Cx) (G : Gx) (W : L2.WX) (es : Es) : TE := fun σ H Q => ∃ env w, w.H = H ∧ Rel G w ∧ EnvR G w env σ ∧ Out G w (Wat W σ) (PE1 G Q) (evOr C es env w.η)
def tAndB (C : Ip.Cx) (G : Gx) (W : L2.WX) (es : Es) : TT := fun σ H Q => ∃ env w, w.H = H ∧ Rel G w ∧ EnvR G w env σ ∧ Out G w (Wat W σ) (PT1 Q) (evAnd C es env w.η)
def tOrB (C : Ip.Cx) (G : Gx) (W : L2.WX) (es : Es) : TT := fun σ H Q => ∃ env w, w.H = H ∧ Rel G w ∧ EnvR G w env σ ∧ Out G w (Wat W σ) (PT1 Q) (evOr C es env w.η)
section
variable {X : L2.Cx} {C : Ip.Cx} {G : Gx} {W : L2.WX} {e a b d : E} {e' a' b' d' : Expr} {es : Es} {es' : List Expr} {pos p2 : Pos} {c : Bool}
theorem PEimp {t t' : TE} (h : PE X e' t) (k : ∀ σ H Q, t' σ H Q → t σ H Q) : PE X e' t' := ⟨fun pins s σ H Q I q => h.run pins s σ H Q I (k σ H Q q)⟩
theorem PTimp {t t' : TT} (h : PT X e' t) (k : ∀ σ H Q, t' σ H Q → t σ H Q) : PT X e' t' := ⟨fun pins s σ H Q I q => h.run pins s σ H Q I (k σ H Q q)⟩
theorem PWimp {t t' : TT} (h : PW X e' t) (k : ∀ σ H Q, t' σ H Q → t σ H Q) : PW X e' t' := ⟨fun whole pins s σ H Q I q => h.run whole pins s σ H Q I (k σ H Q q)⟩
theorem PAimp {t t' : TA} (h : PA X es' t) (k : ∀ σ H Q, t' σ H Q → t σ H Q) : PA X es' t' := ⟨fun p pins s σ H Q I q => h.run p pins s σ H Q I (k σ H Q q)⟩
/-- the truth of a related value -/
theorem tru_V {w : Wd} {d : D} {v : V} {b : Bool} (rel : Rel G w) (q : RV G w d v) (h : tru w.η d = some b) : TruV G.K v w.H b := by
  cases d with
  | non => cases q.non; simp only [tru, Option.some.injEq] at h; exact h.symm
  | bl x => cases q.bl; simp only [tru, Option.some.injEq] at h; exact h.symm
  | int i =>
    cases q.int
    simp only [tru, Option.some.injEq, eqI_eq] at h
    subst h
    show (!decide (i = 0)) = (i != 0)
    rw [Bool.eq_iff_iff]; simp
  | str z =>
    cases q.str
    simp only [tru] at h
    split at h
    · rename_i k
      rw [bleN, decide_eq_true_eq, sizeMax_eq] at k
      simp only [Option.some.injEq, beqN] at h
      subst h
      refine ⟨k, ?_⟩
      rw [Bool.eq_iff_iff]; simp
    · cases h
  | tup xs =>
    obtain ⟨a, vs, rfl, t, rs⟩ := q.tup
    simp only [tru, Option.some.injEq] at h
    subst h
    refine .inr (.inl ⟨vs, t.sq, ?_⟩)
    cases rs <;> rfl
  | lst xs =>
    obtain ⟨a, vs, rfl, t, rs⟩ := q.lst
    simp only [tru, Option.some.injEq] at h
    subst h
    refine .inl ⟨vs, t.sq, ?_⟩
    cases rs <;> rfl
  | loc i =>
    obtain ⟨_, rfl⟩ := q.loc
    simp only [tru] at h
    split at h
    · rename_i xs hη
      cases h
      obtain ⟨vs, e1, e2⟩ := cell_of rel hη
      refine .inl ⟨vs, .inl (.inl e1), ?_⟩
      cases e2 <;> rfl
    · cases h
  | fn g => cases h
  | exc g xs => cases h

/-! ### the nodes -/
theorem nd_var {i : Nat} {x : Str} (hN : X.N[i]? = some x) (hv : Vis X.env.scope x) (hd : (x == ("__debug__" : Str)) = false) (hcd : (x == ("__classdict__" : Str)) = false) : PE X (.Name x pos) (tE C G W (.var i)) :=
  PEimp (pe_var hN hv hd hcd) fun σ H Q ⟨env, w, hw, rel, er, h⟩ => by
    subst hw
    unfold evE at h
    split at h
    · rename_i dd hi
      obtain ⟨v, e1, q⟩ := er.2 i dd hi
      exact ⟨v, e1, h w rfl (Ext.refl w) rel v q⟩
    · exact h.elim
theorem nd_glo {k : Nat} {x : Str} {d : D} {v : V} {u : Value} (hg : Gl X x) (hm : X.mg x = some u) (r : RelV v u) (hk : C.glo[k]? = some d) (hr : ∀ w, RP G w d v) (hd : (x == ("__debug__" : Str)) = false) : PE X (.Name x pos) (tE C G W (.glo k)) :=
  PEimp (pe_glob hg hm r hd) fun σ H Q ⟨env, w, hw, rel, er, h⟩ => by
    subst hw
    unfold evE at h
    rw [hk] at h
    exact h w rfl (Ext.refl w) rel v (.inl (hr w))
theorem nd_const {t : TE} {v : V} {d : D} (he : PE X e' (tC v)) (hev : ∀ env η, evE C e env η = .ok d η) (hr : ∀ w, RP G w d v) : PE X e' (tE C G W e) :=
  PEimp he fun σ H Q ⟨env, w, hw, rel, er, h⟩ => by
    subst hw
    rw [hev] at h
    exact h w rfl (Ext.refl w) rel v (.inl (hr w))
theorem nd_int {i j : Int} {k : Nat} (h : eqI i j = true) : PE X (.Constant (.int j) k pos) (tE C G W (.int i)) := by
  rw [eqI_eq, decide_eq_true_eq] at h
  subst h
  exact nd_const (t := tC (.int i)) pe_int (fun _ _ => by unfold evE; rfl) fun _ => .int i
theorem nd_bl {i : Bool} {k : Nat} : PE X (.Constant (.bool i) k pos) (tE C G W (.bl i)) := nd_const (t := tC (.bl i)) pe_bl (fun _ _ => by unfold evE; rfl) fun _ => .bl i
theorem nd_non {k : Nat} : PE X (.Constant .none k pos) (tE C G W .non) := nd_const (t := tC .non) pe_non (fun _ _ => by unfold evE; rfl) fun _ => .non
theorem nd_str {i j : Str} {k : Nat} (h : eqStr i j = true) : PE X (.Constant (.str j) k pos) (tE C G W (.str i)) := by
  rw [eqStr, eqL_eq, decide_eq_true_eq] at h
  have e : i = j := by cases i; cases j; simp only at h; rw [Array.toList_inj.mp h]
  subst e
  exact nd_const (t := tC (.str i)) pe_str (fun _ _ => by unfold evE; rfl) fun _ => .str i
theorem nd_bin {o : Op2} (hK : X.K = G.K) (ha : PE X a' (tE C G W a)) (hb : PE X b' (tE C G W b)) : PE X (.BinOp a' (opOf o) b' pos) (tE C G W (.bin c o a b)) :=
  PEimp (pe_op (op_bin (c := c) hK o) ha hb) fun σ H Q ⟨env, w, hw, rel, er, h⟩ => by
    subst hw
    unfold evE at h
    refine ⟨env, w, rfl, rel, er, h.bind.mono fun w1 d1 e1 r1 h1 v1 q1 => ?_⟩
    refine ⟨env, w1, rfl, r1, er.mono e1, h1.bind.mono fun w2 d2 e2 r2 h2 v2 q2 => ?_⟩
    exact ⟨w2, d1, d2, rfl, r2, q1.mono e2, q2, h2.pr⟩
theorem nd_neg (ha : PE X a' (tE C G W a)) : PE X (.UnaryOp .USub a' pos) (tE C G W (.neg a)) :=
  PEimp (pe_un un_neg ha) fun σ H Q ⟨env, w, hw, rel, er, h⟩ => by
    subst hw
    unfold evE at h
    refine ⟨env, w, rfl, rel, er, h.bind.mono fun w1 d1 e1 r1 h1 v1 q1 => ?_⟩
    split at h1
    · cases q1.int
      exact ⟨_, rfl, Out.int r1 h1⟩
    · exact h1.elim
theorem nd_notE (hK : X.K = G.K) (ha : PE X a' (tE C G W a)) : PE X (.UnaryOp .Not a' pos) (tE C G W (.notE a)) :=
  PEimp (pe_notT ha) fun σ H Q ⟨env, w, hw, rel, er, h⟩ => by
    subst hw
    unfold evE at h
    refine ⟨env, w, rfl, rel, er, h.bind.mono fun w1 d1 e1 r1 h1 v1 q1 => ?_⟩
    split at h1
    · rename_i t ht
      exact ⟨t, by rw [hK]; exact tru_V r1 q1 ht, h1 w1 rfl (Ext.refl w1) r1 _ (.inl (.bl _))⟩
    · exact h1.elim
theorem nd_cmp {o : Cm} (hH : ∀ k, G.hs k = k.hash X.w) (hK : X.K = G.K) (hu : X.A.units + 64 < cLine) (ha : PE X a' (tE C G W a)) (hb : PE X b' (tE C G W b)) (hm : behindInMarks (cmOf o) b' = false) : PE X (.Compare a' [cmOf o] [b'] pos) (tE C G W (.cmp o a b)) :=
  PEimp (pe_cmpR (op_cmp hH hK hu o) ha hb hm) fun σ H Q ⟨env, w, hw, rel, er, h⟩ => by
    subst hw
    unfold evE at h
    refine ⟨env, w, rfl, rel, er, h.bind.mono fun w1 d1 e1 r1 h1 v1 q1 => ?_⟩
    refine ⟨env, w1, rfl, r1, er.mono e1, h1.bind.mono fun w2 d2 e2 r2 h2 v2 q2 => ?_⟩
    split at h2
    · rename_i t ht
      exact ⟨w2, d1, d2, t, rfl, r2, q1.mono e2, q2, ht, h2 w2 rfl (Ext.refl w2) r2 _ (.inl (.bl _))⟩
    · exact h2.elim
theorem nd_cmpT {o : Cm} (hH : ∀ k, G.hs k = k.hash X.w) (hK : X.K = G.K) (hu : X.A.units + 64 < cLine) (ha : PE X a' (tE C G W a)) (hb : PE X b' (tE C G W b)) (hm : behindInMarks (cmOf o) b' = false) : PT X (.Compare a' [cmOf o] [b'] pos) (tT C G W (.cmp o a b)) :=
  PTimp (pt_cmpR (op_cmp hH hK hu o) ha hb hm) fun σ H Q ⟨env, w, hw, rel, er, h⟩ => by
    subst hw
    unfold evE at h
    refine ⟨env, w, rfl, rel, er, h.bind.mono fun w1 d1 e1 r1 h1 v1 q1 => ?_⟩
    refine ⟨env, w1, rfl, r1, er.mono e1, h1.bind.mono fun w2 d2 e2 r2 h2 v2 q2 => ?_⟩
    split at h2
    · rename_i t ht
      refine ⟨w2, d1, d2, t, rfl, r2, q1.mono e2, q2, ht, ?_⟩
      obtain ⟨k, hk, q⟩ := h2 w2 rfl (Ext.refl w2) r2
      simp only [tru, Option.some.injEq] at hk
      subst hk
      exact ⟨t, rfl, q⟩
    · exact h2.elim
/-- a chain, whatever is wanted of its bool -/
theorem chain_ok {o p : Cm} {σ : L2.St} {H : Hp} {Q : VK} {P : Wd → D → Prop} (hP : ∀ w t, P w (.bl t) → Q (.bl t) w.H)
    (h : ∃ env w, w.H = H ∧ Rel G w ∧ EnvR G w env σ ∧ Out G w (Wat W σ) P (evE C (.chn o p a b d) env w.η)) : tChain (rCmp G o) (rCmp G p) (tE C G W a) (tE C G W b) (tE C G W d) σ H Q := by
  obtain ⟨env, w, hw, rel, er, h⟩ := h
  subst hw
  unfold evE at h
  refine ⟨env, w, rfl, rel, er, h.bind.mono fun w1 d1 e1 r1 h1 v1 q1 => ?_⟩
  refine ⟨env, w1, rfl, r1, er.mono e1, h1.bind.mono fun w2 d2 e2 r2 h2 v2 q2 => ?_⟩
  split at h2
  · rename_i ht
    refine ⟨w2, d1, d2, true, rfl, r2, q1.mono e2, q2, ht, true, rfl, ?_⟩
    rw [if_pos rfl]
    refine ⟨env, w2, rfl, r2, (er.mono e1).mono e2, h2.bind.mono fun w3 d3 e3 r3 h3 v3 q3 => ?_⟩
    split at h3
    · rename_i t ht
      exact ⟨w3, d2, d3, t, rfl, r3, q2.mono e3, q3, ht, hP _ _ (h3 w3 rfl (Ext.refl w3) r3)⟩
    · exact h3.elim
  · rename_i ht
    refine ⟨w2, d1, d2, false, rfl, r2, q1.mono e2, q2, ht, false, rfl, ?_⟩
    rw [if_neg (by decide)]
    exact hP _ _ (h2 w2 rfl (Ext.refl w2) r2)
  · exact h2.elim
theorem nd_chn {o p : Cm} (hH : ∀ k, G.hs k = k.hash X.w) (hK : X.K = G.K) (hu : X.A.units + 64 < cLine) (ha : PE X a' (tE C G W a)) (hb : PE X b' (tE C G W b)) (hd : PE X d' (tE C G W d)) (hm : lastMarks [cmOf o, cmOf p] [b', d'] = false) :
    PE X (.Compare a' [cmOf o, cmOf p] [b', d'] pos) (tE C G W (.chn o p a b d)) :=
  PEimp (pe_chain (op_cmp hH hK hu o) (op_cmp hH hK hu p) ha hb hd hm) fun σ H Q h => chain_ok (fun w t k => k _ (.inl (.bl t))) h
theorem nd_chnT {o p : Cm} (hH : ∀ k, G.hs k = k.hash X.w) (hK : X.K = G.K) (hu : X.A.units + 64 < cLine) (ha : PE X a' (tE C G W a)) (hb : PE X b' (tE C G W b)) (hd : PE X d' (tE C G W d)) (hm : lastMarks [cmOf o, cmOf p] [b', d'] = false) :
    PT X (.Compare a' [cmOf o, cmOf p] [b', d'] pos) (tT C G W (.chn o p a b d)) :=
  PTimp (pt_chain (op_cmp hH hK hu o) (op_cmp hH hK hu p) ha hb hd hm) fun σ H Q h => chain_ok (fun w t k => by
    obtain ⟨k, hk, q⟩ := k
    simp only [tru, Option.some.injEq] at hk
    subst hk
    exact ⟨_, rfl, q⟩) h
theorem isNon_V {w : Wd} {d : D} {v : V} (q : RV G w d v) : decide (v = .non) = d.isNon := by
  rcases q with q | ⟨i, rfl, _, rfl⟩ | ⟨g, xs, x, cls, dd, rfl, _, rfl, _⟩
  · cases q <;> simp [D.isNon]
  · simp [D.isNon]
  · simp [D.isNon]
theorem evIsN {env : Env} {η : Hs} : evE C (.isN a) env η = (evE C a env η).bind fun x η => .ok (.bl x.isNon) η := by
  rw [evE]; congr 1; funext x η'; cases x <;> rfl
theorem evNotN {env : Env} {η : Hs} : evE C (.notN a) env η = (evE C a env η).bind fun x η => .ok (.bl (!x.isNon)) η := by
  rw [evE]; congr 1; funext x η'; cases x <;> rfl
theorem nd_isN {k : Nat} (ha : PE X a' (tE C G W a)) : PE X (.Compare a' [.Is] [.Constant .none k p2] pos) (tE C G W (.isN a)) :=
  PEimp (pe_cmp (pc_isN ha)) fun σ H Q ⟨env, w, hw, rel, er, h⟩ => by
    subst hw
    rw [evIsN] at h
    refine ⟨env, w, rfl, rel, er, h.bind.mono fun w1 d1 e1 r1 h1 v1 q1 => ?_⟩
    simp only [isNon_V q1]
    exact h1 w1 rfl (Ext.refl w1) r1 _ (.inl (.bl _))
theorem nd_notN {k : Nat} (ha : PE X a' (tE C G W a)) : PE X (.Compare a' [.IsNot] [.Constant .none k p2] pos) (tE C G W (.notN a)) :=
  PEimp (pe_cmp (pc_notN ha)) fun σ H Q ⟨env, w, hw, rel, er, h⟩ => by
    subst hw
    rw [evNotN] at h
    refine ⟨env, w, rfl, rel, er, h.bind.mono fun w1 d1 e1 r1 h1 v1 q1 => ?_⟩
    simp only [isNon_V q1]
    exact h1 w1 rfl (Ext.refl w1) r1 _ (.inl (.bl _))
theorem nd_isNT {k : Nat} (ha : PE X a' (tE C G W a)) : PT X (.Compare a' [.Is] [.Constant .none k p2] pos) (tT C G W (.isN a)) :=
  PTimp (pt_cmp (pc_isN ha)) fun σ H Q ⟨env, w, hw, rel, er, h⟩ => by
    subst hw
    rw [evIsN] at h
    refine ⟨env, w, rfl, rel, er, h.bind.mono fun w1 d1 e1 r1 h1 v1 q1 => ?_⟩
    simp only [isNon_V q1]
    obtain ⟨k, hk, q⟩ := h1 w1 rfl (Ext.refl w1) r1
    simp only [tru, Option.some.injEq] at hk
    subst hk
    exact ⟨_, rfl, q⟩
theorem nd_notNT {k : Nat} (ha : PE X a' (tE C G W a)) : PT X (.Compare a' [.IsNot] [.Constant .none k p2] pos) (tT C G W (.notN a)) :=
  PTimp (pt_cmp (pc_notN ha)) fun σ H Q ⟨env, w, hw, rel, er, h⟩ => by
    subst hw
    rw [evNotN] at h
    refine ⟨env, w, rfl, rel, er, h.bind.mono fun w1 d1 e1 r1 h1 v1 q1 => ?_⟩
    simp only [isNon_V q1]
    obtain ⟨k, hk, q⟩ := h1 w1 rfl (Ext.refl w1) r1
    simp only [tru, Option.some.injEq] at hk
    subst hk
    exact ⟨_, rfl, q⟩
/-- a test by its value's truth -/
theorem nd_truth (hK : X.K = G.K) (ha : PE X e' (tE C G W e)) (he : ∀ whole, isTrue e' X.env whole = (do let v ← whole; standAt e'.pos; holding [v] (truthy v))) : PT X e' (tT C G W e) :=
  PTimp (pt_truth ha he) fun σ H Q ⟨env, w, hw, rel, er, h⟩ => by
    subst hw
    refine ⟨env, w, rfl, rel, er, h.mono fun w1 d1 e1 r1 ⟨b, hb, q⟩ v1 q1 => ⟨b, by rw [hK]; exact tru_V r1 q1 hb, q⟩⟩
theorem nd_notT (ha : PT X a' (tT C G W a)) : PT X (.UnaryOp .Not a' pos) (tT C G W (.notE a)) :=
  PTimp (pt_not ha) fun σ H Q ⟨env, w, hw, rel, er, h⟩ => by
    subst hw
    unfold evE at h
    refine ⟨env, w, rfl, rel, er, h.bind.mono fun w1 d1 e1 r1 h1 => ?_⟩
    split at h1
    · rename_i t ht
      obtain ⟨k, hk, q⟩ := h1 w1 rfl (Ext.refl w1) r1
      simp only [tru, Option.some.injEq] at hk
      subst hk
      exact ⟨t, ht, q⟩
    · exact h1.elim
/-! and, or -/
theorem nd_and1 (ha : PE X a' (tE C G W a)) : PE X (.BoolOp .And [a'] pos) (tAndV C G W (.cons a .nil)) :=
  PEimp (pe_one ha) fun σ H Q ⟨env, w, hw, rel, er, h⟩ => ⟨env, w, hw, rel, er, by unfold evAnd at h; exact h⟩
theorem nd_or1 (ha : PE X a' (tE C G W a)) : PE X (.BoolOp .Or [a'] pos) (tOrV C G W (.cons a .nil)) :=
  PEimp (pe_one ha) fun σ H Q ⟨env, w, hw, rel, er, h⟩ => ⟨env, w, hw, rel, er, by unfold evOr at h; exact h⟩
theorem evAnd2 {r : Es} {env : Env} {η : Hs} : evAnd C (.cons a (.cons b r)) env η = (evE C a env η).bind fun x η => match tru η x with
    | some true => evAnd C (.cons b r) env η
    | some false => .ok x η
    | none => .bad := by
  simp only [evAnd] <;> (try congr 1)
theorem evOr2 {r : Es} {env : Env} {η : Hs} : evOr C (.cons a (.cons b r)) env η = (evE C a env η).bind fun x η => match tru η x with
    | some true => .ok x η
    | some false => evOr C (.cons b r) env η
    | none => .bad := by
  simp only [evOr] <;> (try congr 1)
theorem nd_and {r : Es} {r' : List Expr} (hK : X.K = G.K) (ha : PE X a' (tE C G W a)) (hb : PE X (.BoolOp .And (b' :: r') pos) (tAndV C G W (.cons b r))) : PE X (.BoolOp .And (a' :: b' :: r') pos) (tAndV C G W (.cons a (.cons b r))) :=
  PEimp (pe_andT ha hb) fun σ H Q ⟨env, w, hw, rel, er, h⟩ => by
    subst hw
    rw [evAnd2] at h
    refine ⟨env, w, rfl, rel, er, h.bind.mono fun w1 d1 e1 r1 h1 v1 q1 => ?_⟩
    split at h1
    · rename_i ht
      exact ⟨true, by rw [hK]; exact tru_V r1 q1 ht, by show (if true = true then _ else _); rw [if_pos rfl]; exact ⟨env, w1, rfl, r1, er.mono e1, h1⟩⟩
    · rename_i ht
      exact ⟨false, by rw [hK]; exact tru_V r1 q1 ht, by show (if false = true then _ else _); rw [if_neg (by decide)]; exact h1 w1 rfl (Ext.refl w1) r1 _ q1⟩
    · exact h1.elim
theorem nd_or {r : Es} {r' : List Expr} (hK : X.K = G.K) (ha : PE X a' (tE C G W a)) (hb : PE X (.BoolOp .Or (b' :: r') pos) (tOrV C G W (.cons b r))) : PE X (.BoolOp .Or (a' :: b' :: r') pos) (tOrV C G W (.cons a (.cons b r))) :=
  PEimp (pe_orT ha hb) fun σ H Q ⟨env, w, hw, rel, er, h⟩ => by
    subst hw
    rw [evOr2] at h
    refine ⟨env, w, rfl, rel, er, h.bind.mono fun w1 d1 e1 r1 h1 v1 q1 => ?_⟩
    split at h1
    · rename_i ht
      exact ⟨true, by rw [hK]; exact tru_V r1 q1 ht, by show (if true = true then _ else _); rw [if_pos rfl]; exact h1 w1 rfl (Ext.refl w1) r1 _ q1⟩
    · rename_i ht
      exact ⟨false, by rw [hK]; exact tru_V r1 q1 ht, by show (if false = true then _ else _); rw [if_neg (by decide)]; exact ⟨env, w1, rfl, r1, er.mono e1, h1⟩⟩
    · exact h1.elim
theorem nd_and1T (ha : PT X a' (tT C G W a)) : PW X (.BoolOp .And [a'] pos) (tAndB C G W (.cons a .nil)) :=
  PWimp (pw_and1 ha) fun σ H Q ⟨env, w, hw, rel, er, h⟩ => ⟨env, w, hw, rel, er, by unfold evAnd at h; exact h⟩
theorem nd_or1T (ha : PT X a' (tT C G W a)) : PW X (.BoolOp .Or [a'] pos) (tOrB C G W (.cons a .nil)) :=
  PWimp (pw_or1 ha) fun σ H Q ⟨env, w, hw, rel, er, h⟩ => ⟨env, w, hw, rel, er, by unfold evOr at h; exact h⟩
theorem nd_andT {r : Es} {r' : List Expr} (ha : PT X a' (tT C G W a)) (hb : PW X (.BoolOp .And (b' :: r') pos) (tAndB C G W (.cons b r))) : PW X (.BoolOp .And (a' :: b' :: r') pos) (tAndB C G W (.cons a (.cons b r))) :=
  PWimp (pw_and ha hb) fun σ H Q ⟨env, w, hw, rel, er, h⟩ => by
    subst hw
    rw [evAnd2] at h
    refine ⟨env, w, rfl, rel, er, h.bind.mono fun w1 d1 e1 r1 h1 => ?_⟩
    split at h1
    · rename_i ht
      exact ⟨true, ht, by show (if true = true then _ else _); rw [if_pos rfl]; exact ⟨env, w1, rfl, r1, er.mono e1, h1⟩⟩
    · rename_i ht
      refine ⟨false, ht, ?_⟩
      show (if false = true then _ else _)
      rw [if_neg (by decide)]
      obtain ⟨k, hk, q⟩ := h1 w1 rfl (Ext.refl w1) r1
      rw [ht] at hk
      cases hk
      exact q
    · exact h1.elim
theorem nd_orT {r : Es} {r' : List Expr} (ha : PT X a' (tT C G W a)) (hb : PW X (.BoolOp .Or (b' :: r') pos) (tOrB C G W (.cons b r))) : PW X (.BoolOp .Or (a' :: b' :: r') pos) (tOrB C G W (.cons a (.cons b r))) :=
  PWimp (pw_or ha hb) fun σ H Q ⟨env, w, hw, rel, er, h⟩ => by
    subst hw
    rw [evOr2] at h
    refine ⟨env, w, rfl, rel, er, h.bind.mono fun w1 d1 e1 r1 h1 => ?_⟩
    split at h1
    · rename_i ht
      refine ⟨true, ht, ?_⟩
      show (if true = true then _ else _)
      rw [if_pos rfl]
      obtain ⟨k, hk, q⟩ := h1 w1 rfl (Ext.refl w1) r1
      rw [ht] at hk
      cases hk
      exact q
    · rename_i ht
      exact ⟨false, ht, by show (if false = true then _ else _); rw [if_neg (by decide)]; exact ⟨env, w1, rfl, r1, er.mono e1, h1⟩⟩
    · exact h1.elim
theorem nd_andE (h : PE X (.BoolOp .And es' pos) (tAndV C G W es)) : PE X (.BoolOp .And es' pos) (tE C G W (.and es)) :=
  PEimp h fun σ H Q ⟨env, w, hw, rel, er, h⟩ => ⟨env, w, hw, rel, er, by unfold evE at h; exact h⟩
theorem nd_orE (h : PE X (.BoolOp .Or es' pos) (tOrV C G W es)) : PE X (.BoolOp .Or es' pos) (tE C G W (.or es)) :=
  PEimp h fun σ H Q ⟨env, w, hw, rel, er, h⟩ => ⟨env, w, hw, rel, er, by unfold evE at h; exact h⟩
theorem nd_andET (h : PW X (.BoolOp .And es' pos) (tAndB C G W es)) : PT X (.BoolOp .And es' pos) (tT C G W (.and es)) :=
  (PWimp h fun σ H Q ⟨env, w, hw, rel, er, h⟩ => ⟨env, w, hw, rel, er, by unfold evE at h; exact h⟩).pt
theorem nd_orET (h : PW X (.BoolOp .Or es' pos) (tOrB C G W es)) : PT X (.BoolOp .Or es' pos) (tT C G W (.or es)) :=
  (PWimp h fun σ H Q ⟨env, w, hw, rel, er, h⟩ => ⟨env, w, hw, rel, er, by unfold evE at h; exact h⟩).pt
theorem nd_ifx (ht : PT X d' (tT C G W d)) (ha : PE X a' (tE C G W a)) (hb : PE X b' (tE C G W b)) : PE X (.IfExp d' a' b' pos) (tE C G W (.ifx d a b)) :=
  PEimp (pe_ifExp ht ha hb) fun σ H Q ⟨env, w, hw, rel, er, h⟩ => by
    subst hw
    unfold evE at h
    refine ⟨env, w, rfl, rel, er, h.bind.mono fun w1 d1 e1 r1 h1 => ?_⟩
    split at h1
    · rename_i ht
      exact ⟨true, ht, by show (if true = true then _ else _); rw [if_pos rfl]; exact ⟨env, w1, rfl, r1, er.mono e1, h1⟩⟩
    · rename_i ht
      exact ⟨false, ht, by show (if false = true then _ else _); rw [if_neg (by decide)]; exact ⟨env, w1, rfl, r1, er.mono e1, h1⟩⟩
    · exact h1.elim
end
end Ip
/-! the check that the text is what the evaluator runs -/
namespace Ip
open PySem (Str Expr Stmt Scope NameKind)

def sx (l : List Nat) : Str := ⟨l.toArray⟩
structure Tb where
  gnm : List Str
  fnm : List (Option Str)
  cnm : List (Option Str)
  cn1 : List (Option Str)
  cxm : List (Option Str)
  xfn : Str
  ats : List Str
  own : List Nat
  oin : List (Nat × Nat × Str)
  omt : List (Nat × Nat × Str)
  gcdB : Bool
  fps : List (List Str)
structure Cs where
  N : List Str
  sc : Scope
  calm : Bool
  A : List Nat
  mkE : Bool

def memK (x : Str) : List Str → Bool
  | [] => false
  | y :: r => eqStr x y || memK x r
def nodupK : List Str → Bool
  | [] => true
  | x :: r => !memK x r && nodupK r
def eqK : List Str → List Str → Bool
  | [], [] => true
  | a :: as, b :: bs => eqStr a b && eqK as bs
  | _, _ => false
def kwNames : List PySem.Keyword → Option (List Str)
  | [] => some []
  | k :: r => match k.arg, kwNames r with
    | some x, some l => some (x :: l)
    | _, _ => none
/-- keywords, one for each parameter -/
def kwB (ps : List Str) (perm : List Nat) (kws : List PySem.Keyword) : Bool := match kwNames kws with
  | some ks => nodupK ks && (ks.all (fun k => memK k ps) && (match permute perm ks with
    | some l => eqK l ps
    | none => false))
  | none => false
def inT (l : List (Nat × Nat × Str)) (c g : Nat) (x : Str) : Bool := l.any fun t => Nat.beq t.1 c && (Nat.beq t.2.1 g && eqStr t.2.2 x)
def ownB (tb : Tb) (c : Nat) : Bool := tb.own.any fun k => Nat.beq k c
def isAt (N : List Str) (i : Nat) (x : Str) : Bool := match N[i]? with
  | some y => eqStr y x
  | none => false
def isAtO (N : List (Option Str)) (i : Nat) (x : Str) : Bool := match N[i]? with
  | some (some y) => eqStr y x
  | _ => false
def lk (x : Str) : List (Str × NameKind) → Option NameKind
  | [] => none
  | p :: r => if eqStr p.1 x then some p.2 else lk x r
def visC (sc : Scope) (x : Str) : Bool := match lk x sc.names with
  | some .local => true
  | some .cell => true
  | some .free => true
  | _ => false
def locC (sc : Scope) (x : Str) : Bool := match lk x sc.names with
  | some .local => true
  | some .cell => true
  | _ => false
def lclC (sc : Scope) (x : Str) : Bool := match lk x sc.names with
  | some .local => true
  | _ => false
def glbC (sc : Scope) (x : Str) : Bool := match lk x sc.names with
  | some .globalImplicit => true
  | _ => false
def opC : Op2 → PySem.Operator → Bool
  | .add, .Add => true | .sub, .Sub => true | .mul, .Mult => true | .fdiv, .FloorDiv => true | .mod, .Mod => true | .pow, .Pow => true
  | _, _ => false
def cmC : Cm → PySem.CmpOp → Bool
  | .eq, .Eq => true | .ne, .NotEq => true | .lt, .Lt => true | .le, .LtE => true | .gt, .Gt => true | .ge, .GtE => true | .inn, .In => true | .nin, .NotIn => true
  | _, _ => false
/-- no display of a set -/
def noSet : Expr → Bool
  | .Set _ _ _ => false
  | _ => true
def notStar : Expr → Bool
  | .Starred _ _ => false
  | _ => true
def noStars : List Expr → Bool
  | [] => true
  | x :: r => notStar x && noStars r
def plainIxC : Expr → Bool
  | .Slice _ _ none _ => false
  | _ => true
def plainBase : Expr → Bool
  | .Call (.Name _ _) [] [] _ => false
  | _ => true
def notComp : Expr → Bool
  | .ListComp .. => false
  | .SetComp .. => false
  | .DictComp .. => false
  | _ => true
def isTupE : Expr → Bool
  | .Tuple .. => true
  | .List .. => true
  | _ => false
def isTupV : Expr → Bool
  | .Tuple .. => true
  | _ => false
/-- what a test may be -/
def ckT : Expr → Bool
  | .IfExp _ _ _ _ => false
  | _ => true
/-- a test that is told by its value's truth -/
def byTruth : Expr → Bool
  | .UnaryOp .. => false
  | .BoolOp .. => false
  | .IfExp .. => false
  | .Compare .. => false
  | _ => true
/-- built-in functions, types: their names -/
def biN : Bi → Option (Bool × Str)
  | .abs => some (false, sx [97, 98, 115])
  | .all => some (false, sx [97, 108, 108])
  | .any => some (false, sx [97, 110, 121])
  | .int => some (true, sx [105, 110, 116])
  | .len => some (false, sx [108, 101, 110])
  | .list => some (true, sx [108, 105, 115, 116])
  | .tuple => some (true, sx [116, 117, 112, 108, 101])
  | .max => some (false, sx [109, 97, 120])
  | .min => some (false, sx [109, 105, 110])
  | .sum => some (false, sx [115, 117, 109])
  | .sorted => some (false, sx [115, 111, 114, 116, 101, 100])
  | _ => none
def isRngT : Bi → Bool
  | .rngT => true
  | _ => false
def sTupleN : Str := sx [116, 117, 112, 108, 101]
def sRangeN : Str := sx [114, 97, 110, 103, 101]
def isGcd : Bi → Bool
  | .gcd => true
  | _ => false
def sGcd : Str := sx [103, 99, 100]
def isSset : Bi → Bool
  | .sset => true
  | _ => false
def tyS : Ty → Option Str
  | .int => some (sx [105, 110, 116])
  | .bool => some (sx [98, 111, 111, 108])
  | .str => some (sx [115, 116, 114])
  | .list => some (sx [108, 105, 115, 116])
  | .tuple => some (sx [116, 117, 112, 108, 101])
  | _ => none
def tySE : Ty → Option Str
  | .vErr => some (sx [86, 97, 108, 117, 101, 69, 114, 114, 111, 114])
  | .lErr => some (sx [76, 111, 111, 107, 117, 112, 69, 114, 114, 111, 114])
  | t => tyS t
def mtS : Mt → Option Str
  | .append => some (sx [97, 112, 112, 101, 110, 100])
  | .extend => some (sx [101, 120, 116, 101, 110, 100])
  | .index => some (sx [105, 110, 100, 101, 120])
  | .count => some (sx [99, 111, 117, 110, 116])
  | _ => none
def sSorted : Str := sx [115, 111, 114, 116, 101, 100]
def sSet : Str := sx [115, 101, 116]
def sIsinstance : Str := sx [105, 115, 105, 110, 115, 116, 97, 110, 99, 101]
def sRange : Str := sx [114, 97, 110, 103, 101]
def sZip : Str := sx [122, 105, 112]
def sEnum : Str := sx [101, 110, 117, 109, 101, 114, 97, 116, 101]
def optEq (o : Option Str) (x : Str) : Bool := match o with
  | some y => eqStr y x
  | none => false
def tyNames (sc : Scope) : List Ty → List Expr → Bool
  | [], [] => true
  | t :: ts, .Name x _ :: r => optEq (tyS t) x && glbC sc x && tyNames sc ts r
  | _, _ => false
/-- the names of a comprehension's block -/
def blkB (N : List Str) (sc scope : Scope) (own : List (Str × Nat)) : Bool :=
  (match scope.kind with | .function => true | _ => false) && (scope.names.all fun y => match lk y.1 scope.names with
    | some k => k == y.2
    | none => false) && (own.all fun p => isAt N p.2 p.1) &&
    (scope.names.all fun y => match y.2 with
      | .free => (match lk y.1 sc.names with | some .cell => true | some .free => true | _ => false)
      | .local => (own.any fun p => eqStr p.1 y.1) || !(N.any fun z => eqStr z y.1)
      | .cell => (own.any fun p => eqStr p.1 y.1) || !(N.any fun z => eqStr z y.1)
      | _ => true)
def ownOf (N : List Str) (l : List Nat) : List (Str × Nat) := l.map fun i => (N.getD i (sx []), i)
mutual
def tgB : T → List Nat
  | .name i => [i]
  | .tup ts => tgBs ts
  | _ => []
def tgBs : Ts → List Nat
  | .nil => []
  | .cons t r => tgB t ++ tgBs r
end
def allIn (l m : List Nat) : Bool := l.all fun j => m.any fun k => Nat.beq j k
def itLoose : It → Bool
  | .zip _ _ => true
  | .enum _ => true
  | _ => false
def isTT : T → Bool
  | .tup _ => true
  | _ => false
mutual
def ckE (tb : Tb) (cs : Cs) : E → Expr → Bool
  | .var i, e => (match e with
    | .Name x _ => isAt cs.N i x && visC cs.sc x
    | _ => false)
  | .glo k, e => (match e with
    | .Name x _ => isAt tb.gnm k x && glbC cs.sc x
    | _ => false)
  | .int i, e => (match e with
    | .Constant (.int j) _ _ => eqI i j
    | _ => false)
  | .bl b, e => (match e with
    | .Constant (.bool c) _ _ => b == c
    | _ => false)
  | .non, e => (match e with
    | .Constant .none _ _ => true
    | _ => false)
  | .str s, e => (match e with
    | .Constant (.str t) _ _ => eqStr s t
    | _ => false)
  | .bin _ o a b, e => (match e with
    | .BinOp a' o' b' _ => opC o o' && (ckE tb cs a a' && ckE tb cs b b')
    | _ => false)
  | .neg a, e => (match e with
    | .UnaryOp .USub a' _ => ckE tb cs a a'
    | _ => false)
  | .notE a, e => (match e with
    | .UnaryOp .Not a' _ => ckE tb cs a a' && ckT a'
    | _ => false)
  | .cmp o a b, e => (match e with
    | .Compare a' [o'] [b'] _ => cmC o o' && (noSet b' && (ckE tb cs a a' && ckE tb cs b b'))
    | _ => false)
  | .chn o p a b d, e => (match e with
    | .Compare a' [o', p'] [b', d'] _ => cmC o o' && (cmC p p' && (noSet d' && (ckE tb cs a a' && (ckE tb cs b b' && ckE tb cs d d'))))
    | _ => false)
  | .isN a, e => (match e with
    | .Compare a' [.Is] [.Constant .none _ _] _ => ckE tb cs a a'
    | _ => false)
  | .notN a, e => (match e with
    | .Compare a' [.IsNot] [.Constant .none _ _] _ => ckE tb cs a a'
    | _ => false)
  | .and es, e => (match e with
    | .BoolOp .And es' _ => ckB tb cs es es'
    | _ => false)
  | .or es, e => (match e with
    | .BoolOp .Or es' _ => ckB tb cs es es'
    | _ => false)
  | .ifx t a b, e => (match e with
    | .IfExp t' a' b' _ => ckE tb cs t t' && (ckT t' && (ckE tb cs a a' && ckE tb cs b b'))
    | _ => false)
  | .tup es, e => (match e with
    | .Tuple es' _ _ => ckEs tb cs es es'
    | _ => false)
  | .lst _ es, e => (match e with
    | .List es' _ => ckEs tb cs es es'
    | _ => false)
  | .ix a b, e => (match e with
    | .Subscript a' b' _ => plainIxC b' && (ckE tb cs a a' && ckE tb cs b b')
    | _ => false)
  | .sl _ a lo hi, e => (match e with
    | .Subscript a' (.Slice lo' hi' none _) _ => ckE tb cs a a' && ((match lo' with
      | none => lo.isAbs
      | some l' => !lo.isAbs && ckE tb cs lo l') && (match hi' with
      | none => hi.isAbs
      | some l' => !hi.isAbs && ckE tb cs hi l'))
    | _ => false)
  | .call g es, e => (match e with
    | .Call (.Name x _) es' [] _ => cs.calm && (isAtO tb.fnm g x && (glbC cs.sc x && (noStars es' && ckEs tb cs es es')))
    | _ => false)
  | .callv f es, e => (match e with
    | .Call (.Name x p) (z :: r') [] _ => cs.calm && (ckE tb cs f (.Name x p) && (noStars (z :: r') && ckEs tb cs es (z :: r')))
    | .Call (.Subscript a b p) es' [] _ => cs.calm && (ckE tb cs f (.Subscript a b p) && (noStars es' && ckEs tb cs es es'))
    | _ => false)
  | .bi _ f es, e => (match isSset f with
    | true => (match es with
      | .cons a .nil => (match e with
        | .Call (.Name x _) [.Call (.Name y _) [a'] [] _] [] _ => cs.calm && (eqStr sSorted x && (eqStr sSet y && (glbC cs.sc x && (glbC cs.sc y && (notStar a' && ckE tb cs a a')))))
        | _ => false)
      | _ => false)
    | false => (match isRngT f with
     | true => (match es with
      | .cons a .nil => (match e with
        | .Call (.Name x _) [.Call (.Name y _) [a'] [] _] [] _ => cs.calm && (eqStr sTupleN x && (eqStr sRangeN y && (glbC cs.sc x && (glbC cs.sc y && (notStar a' && ckE tb cs a a')))))
        | _ => false)
      | _ => false)
     | false => (match e with
      | .Call (.Name x _) (z :: r') [] _ => (match biN f with
        | some (_, y) => cs.calm && (eqStr y x && (glbC cs.sc x && (noStars (z :: r') && ckEs tb cs es (z :: r'))))
        | none => isGcd f && (tb.gcdB && (cs.calm && (eqStr sGcd x && (glbC cs.sc x && (noStars (z :: r') && ckEs tb cs es (z :: r')))))))
      | _ => false)))
  | .mt _ m o es, e => (match e with
    | .Call (.Attribute o' nm apos) (z :: r') [] pos => optEq (mtS m) nm && (plainBase o' && ((apos.endLine == pos.line) && (noStars (z :: r') && (Nat.blt (z :: r').length 29 && (ckE tb cs o o' && ckEs tb cs es (z :: r'))))))
    | _ => false)
  | .isi a ts, e => (match cs.calm with
    | true => (match e with
      | .Call (.Name x _) [a', .Tuple l _ _] [] _ => eqStr sIsinstance x && (glbC cs.sc x && (Nat.ble ts.length 100 && (tyNames cs.sc ts l && (notStar a' && ckE tb cs a a'))))
      | .Call (.Name x _) [a', .Name y p] [] _ => eqStr sIsinstance x && (glbC cs.sc x && (Nat.beq ts.length 1 && (tyNames cs.sc ts [.Name y p] && (notStar a' && ckE tb cs a a'))))
      | _ => false)
    | false => (match ts with
      | [t] => (match e with
        | .Call (.Name x _) [a', .Name y _] [] _ => eqStr sIsinstance x && (glbC cs.sc x && (optEq (tySE t) y && (glbC cs.sc y && (notStar a' && ckE tb cs a a'))))
        | _ => false)
      | _ => false))
  | .fld a _, e => (match cs.calm with
    | true => false
    | false => (match e with
      | .Attribute a' nm _ => eqStr tb.xfn nm && (plainBase a' && ckE tb cs a a')
      | _ => false))
  | .att c a f, e => (match e with
    | .Attribute a' nm _ => cs.calm && (isAt tb.ats f nm && (ownB tb c && (plainBase a' && ckE tb cs a a')))
    | _ => false)
  | .newO c g es, e => (match e with
    | .Call (.Name x _) es' [] _ => cs.calm && (inT tb.oin c g x && (glbC cs.sc x && (noStars es' && ckEs tb cs es es')))
    | _ => false)
  | .meth c g o es, e => (match e with
    | .Call (.Attribute o' nm apos) es' [] pos => cs.calm && (inT tb.omt c g nm && (plainBase o' && ((apos.endLine == pos.line) && (noStars es' && (Nat.blt es'.length 29 && (ckE tb cs o o' && ckEs tb cs es es'))))))
    | _ => false)
  | .comp _ elt tg own it ifs, e => (match e with
    | .ListComp elt' [⟨tg', iter', ifs', 0⟩] scope _ => cs.calm && (noSet iter' && (blkB cs.N cs.sc scope (ownOf cs.N own) && (allIn (tgB tg) own && (ckIt tb cs it (isTupV tg') iter' && (ckG tb { cs with sc := scope, A := [] } (itLoose it) tg tg' && (ckIfs tb { cs with sc := scope, A := [] } ifs ifs' && ckE tb { cs with sc := scope, A := [] } elt elt'))))))
    | _ => false)
  | .comp2 _ elt tg own it tg2 own2 it2 ifs, e => (match e with
    | .ListComp elt' [⟨tg', iter', [], 0⟩, ⟨tg2', iter2', ifs', 0⟩] scope _ => cs.calm && (noSet iter' && (noSet iter2' && (blkB cs.N cs.sc scope (ownOf cs.N (own ++ own2)) && (allIn (tgB tg) (own ++ own2) && (allIn (tgB tg2) own2 && (ckIt tb cs it (isTupV tg') iter' && (ckG tb { cs with sc := scope, A := [] } (itLoose it) tg tg' &&
        (ckIt tb { cs with sc := scope, A := [] } it2 (isTupV tg2') iter2' && (ckG tb { cs with sc := scope, A := [] } (itLoose it2) tg2 tg2' && (ckIfs tb { cs with sc := scope, A := [] } ifs ifs' && ckE tb { cs with sc := scope, A := [] } elt elt'))))))))))
    | _ => false)
  | .callk g perm es, e => (match e with
    | .Call (.Name x _) [] kws _ => cs.calm && (isAtO tb.fnm g x && (glbC cs.sc x && ((match tb.fps[g]? with
      | some ps => kwB ps perm kws
      | none => false) && ckKw tb cs es kws)))
    | _ => false)
  | .dct, e => (match e with
    | .Dict [] [] _ => true
    | _ => false)
  | .never, _ => true
  | _, _ => false
def ckB (tb : Tb) (cs : Cs) : Es → List Expr → Bool
  | .cons e .nil, [e'] => ckE tb cs e e' && ckT e'
  | .cons e (.cons f r), e' :: f' :: r' => ckE tb cs e e' && (ckT e' && ckB tb cs (.cons f r) (f' :: r'))
  | _, _ => false
def ckEs (tb : Tb) (cs : Cs) : Es → List Expr → Bool
  | .nil, [] => true
  | .cons e r, e' :: r' => notStar e' && (ckE tb cs e e' && ckEs tb cs r r')
  | .star e r, .Starred e' _ :: r' => ckE tb cs e e' && ckEs tb cs r r'
  | _, _ => false
def ckKw (tb : Tb) (cs : Cs) : Es → List PySem.Keyword → Bool
  | .nil, [] => true
  | .cons e r, k :: r' => ckE tb cs e k.value && ckKw tb cs r r'
  | _, _ => false
def ckIfs (tb : Tb) (cs : Cs) : Es → List Expr → Bool
  | .nil, [] => true
  | .cons e .nil, [e'] => ckE tb cs e e' && ckT e'
  | _, _ => false
def ckIt (tb : Tb) (cs : Cs) : It → Bool → Expr → Bool
  | .of e, _, e' => ckE tb cs e e'
  | .rng (.cons a .nil), _, .Call (.Name x _) [a'] [] _ => eqStr sRange x && (glbC cs.sc x && (notStar a' && ckE tb cs a a'))
  | .rng (.cons a (.cons b .nil)), _, .Call (.Name x _) [a', b'] [] _ => eqStr sRange x && (glbC cs.sc x && (notStar a' && (notStar b' && (ckE tb cs a a' && ckE tb cs b b'))))
  | .rng (.cons a (.cons b (.cons c .nil))), _, .Call (.Name x _) [a', b', c'] [] _ => eqStr sRange x && (glbC cs.sc x && (notStar a' && (notStar b' && (notStar c' && (ckE tb cs a a' && (ckE tb cs b b' && ckE tb cs c c'))))))
  | .zip a b, true, .Call (.Name x _) [a', b'] [] _ => eqStr sZip x && (glbC cs.sc x && (notStar a' && (notStar b' && (ckE tb cs a a' && ckE tb cs b b'))))
  | .enum a, true, .Call (.Name x _) [a'] [] _ => eqStr sEnum x && (glbC cs.sc x && (notStar a' && ckE tb cs a a'))
  | _, _, _ => false
def ckG (tb : Tb) (cs : Cs) : Bool → T → Expr → Bool
  | false, .name i, .Name x _ => isAt cs.N i x && locC cs.sc x
  | _, .tup ts, .Tuple ts' _ _ => cs.calm && (noStars ts' && (Nat.beq ts.len ts'.length && ckGs tb cs ts ts'))
  | false, .fld c a f, .Attribute a' nm _ => cs.calm && (isAt tb.ats f nm && (ownB tb c && ckE tb cs a a'))
  | false, .sub a b, .Subscript a' b' _ => plainIxC b' && (ckE tb cs a a' && ckE tb cs b b')
  | _, _, _ => false
def ckGs (tb : Tb) (cs : Cs) : Ts → List Expr → Bool
  | .nil, [] => true
  | .cons t r, t' :: r' => notStar t' && (ckG tb cs false t t' && ckGs tb cs r r')
  | _, _ => false
end
/-- no local's name -/
def notLcl (sc : Scope) : Expr → Bool
  | .Name x _ => (match lk x sc.names with
    | some .cell => true
    | some .free => true
    | _ => false)
  | _ => true
/-- the stores are swapped for sure -/
def swpC (ps : List PySem.Pos) (es : List Expr) : Bool := (match ps with
  | p :: _ => ps.all fun q => q.line == p.line
  | [] => false) && (noStars es && !(es.all (PySem.foldedForSure 8)) && !(es.all (PySem.constantsAlone 8)))
def neA : List Nat → Bool
  | [] => false
  | _ :: _ => true
/-- an error made: X(), X(e) -/
def ckR (tb : Tb) (cs : Cs) (g : Nat) (es : Es) : Expr → Bool
  | .Call (.Name x _) [] [] _ => (match es with
    | .nil => isAtO tb.cnm g x && glbC cs.sc x
    | _ => false)
  | .Call (.Name x _) [a'] [] _ => (match es with
    | .cons a .nil => isAtO tb.cn1 g x && (glbC cs.sc x && (notStar a' && ckE tb cs a a'))
    | _ => false)
  | _ => false
mutual
def ckS (tb : Tb) (cs : Cs) : S → Stmt → Bool
  | .asg t e, s => (match s with
    | .Assign [t'] e' pos => (match notComp e' with
      | true => (allIn (tgB t) cs.A && (notStar t' && (!(isTupE t' && isTupV e') && (ckE tb cs e e' && ckG tb cs false t t'))))
      | false => (match t, t', e' with
        | .name i, .Name y py, .ListComp elt gs sc2 p => allIn [i] cs.A && (isAt cs.N i y && (lclC cs.sc y && ((py.line == p.line) && (!(sc2.names.any fun q => eqStr q.1 y && (match q.2 with
            | .local => true
            | .cell => true
            | _ => false)) && ckE tb cs e (.ListComp elt gs sc2 p)))))
        | _, _, _ => false))
    | _ => false)
  | .par ts es, s => (match s with
    | .Assign [.Tuple ts' _ _] (.Tuple es' _ _) _ => cs.calm && ((allIn (tgBs ts) cs.A && (noStars ts' && (Nat.beq ts.len ts'.length && ((!(Nat.beq ts'.length 2 || Nat.beq ts'.length 3) || (ts'.any (notLcl cs.sc) || es'.all (PySem.foldedForSure 8))) && (ckEs tb cs es es' && ckGs tb cs ts ts'))))))
    | _ => false)
  | .swp [i, j] es, s => (match s with
    | .Assign [.Tuple [.Name x px, .Name y py] kt p2] (.Tuple [a1, b1] k2 p3) _ => cs.calm && (allIn [i, j] cs.A && (isAt cs.N i x && (isAt cs.N j y && (!Nat.beq i j && (lclC cs.sc x && (lclC cs.sc y && (swpC [px, py] [a1, b1] && ckEs tb cs es [a1, b1])))))))
    | _ => false)
  | .swp [i, j, l] es, s => (match s with
    | .Assign [.Tuple [.Name x px, .Name y py, .Name z pz] kt p2] (.Tuple [a1, b1, c1] k2 p3) _ => cs.calm && (allIn [i, j, l] cs.A && (isAt cs.N i x && (isAt cs.N j y && (isAt cs.N l z && (!Nat.beq i j && (!Nat.beq i l && (!Nat.beq j l && (lclC cs.sc x && (lclC cs.sc y && (lclC cs.sc z && (swpC [px, py, pz] [a1, b1, c1] && ckEs tb cs es [a1, b1, c1])))))))))))
    | _ => false)
  | .aug i o e, s => (match s with
    | .AugAssign (.Name x _) o' e' _ => allIn [i] cs.A && (isAt cs.N i x && (locC cs.sc x && (opC o o' && ckE tb cs e e')))
    | _ => false)
  | .expr e, s => (match s with
    | .Expr e' _ => notComp e' && ckE tb cs e e'
    | _ => false)
  | .ret e, s => (match s with
    | .Return (some e') _ => ckE tb cs e e'
    | _ => false)
  | .retN, s => (match s with
    | .Return none _ => true
    | _ => false)
  | .ite c a b, s => (match s with
    | .If c' a' b' _ => ckE tb cs c c' && (ckT c' && (ckSs tb cs a a' && ckSs tb cs b b'))
    | _ => false)
  | .whl c b, s => (match s with
    | .While c' b' [] _ => cs.calm && (ckE tb cs c c' && (ckT c' && ckSs tb cs b b'))
    | _ => false)
  | .for t it b, s => (match s with
    | .For t' it' b' [] _ => cs.calm && ((noSet it' && (allIn (tgB t) cs.A && (ckIt tb cs it (isTupV t') it' && (ckG tb cs (itLoose it) t t' && ckSs tb cs b b')))))
    | _ => false)
  | .raise g es, s => (match s with
    | .Raise (some e') none _ => cs.calm && (cs.mkE && ckR tb cs g es e')
    | _ => false)
  | .tryE B b hs, s => (match s with
    | .Try b' (h0 :: hr) [] [] _ => cs.calm && (allIn B cs.A && (ckSs tb { cs with A := B, mkE := false } b b' && ckHd tb cs hs (h0 :: hr)))
    | _ => false)
  | .pass, s => (match s with
    | .Pass _ => true
    | .Expr (.Constant (.str _) _ _) _ => true
    | _ => false)
  | .brk, s => (match s with
    | .Break _ => true
    | _ => false)
  | .cont, s => (match s with
    | .Continue _ => true
    | _ => false)
  | .never, _ => true
  | _, _ => false
def ckSs (tb : Tb) (cs : Cs) : Ss → List Stmt → Bool
  | .nil, [] => true
  | .cons s r, s' :: r' => ckS tb cs s s' && ckSs tb cs r r'
  | .frz _ r, l => ckSs tb cs r l
  | .frzL _ r, l => ckSs tb cs r l
  | _, _ => false
def ckHd (tb : Tb) (cs : Cs) : Hd → List PySem.ExceptHandler → Bool
  | .nil, [] => true
  | .cons g slot b r, .ExceptHandler (some (.Name x _)) nm (s0 :: ss) _ :: r' => isAtO tb.cxm g x && (glbC cs.sc x && ((match slot, nm with
    | none, none => true
    | some i, some n => allIn [i] cs.A && (isAt cs.N i n && lclC cs.sc n)
    | _, _ => false) && (ckSs tb { cs with calm := false } b (s0 :: ss) && ckHd tb cs r r')))
  | _, _ => false
end
end Ip
namespace Ip
open PySem PySem.Spec PyProof.Rows L2

/-! ### displays -/
def tTupF (t : TA) : TE := fun σ H Q => t σ H fun xs H1 => xs.length ≤ sizeLine ∧ NewT Q H1 xs
section
variable {X : L2.Cx} {C : Ip.Cx} {G : Gx} {W : L2.WX} {e a b d : E} {e' a' b' d' : Expr} {es : Es} {es' : List Expr} {pos p2 : Pos} {c : Bool}
theorem pe_tupF {t : TA} {k : Nat} (h : PA X es' t) : PE X (.Tuple es' k pos) (tTupF t) :=
  ⟨fun pins s σ H Q I hq => wpAny_Tuple_spliced (thn (h.run pos pins s σ H _ I hq) fun us s1 ⟨xs, H1, I1, r, z, q⟩ => ⟨by rw [← r.length]; exact z, q.ep s1.toks I1 r z⟩)⟩
theorem nd_nil : PA X [] (tEs C G W .nil) :=
  PAimp pa_nil fun σ H Q ⟨env, w, hw, rel, er, h⟩ => by
    subst hw
    unfold evEs at h
    exact h w rfl (Ext.refl w) rel [] trivial
theorem starEach_cons {env : L2.Cx} {x : Expr} {r : List Expr} (h : notStar x = true) : starEach (x :: r) X.env = (false, eval x X.env) :: starEach r X.env := by
  cases x <;> first | rfl | cases h
theorem nd_cons {r : Es} {r' : List Expr} (hn : notStar a' = true) (ha : PE X a' (tE C G W a)) (hr : PA X r' (tEs C G W r)) : PA X (a' :: r') (tEs C G W (.cons a r)) :=
  PAimp (pa_cons ha hr (starEach_cons (env := X) hn)) fun σ H Q ⟨env, w, hw, rel, er, h⟩ => by
    subst hw
    unfold evEs at h
    refine ⟨env, w, rfl, rel, er, h.bind.mono fun w1 d1 e1 r1 h1 v1 q1 => ?_⟩
    refine ⟨env, w1, rfl, r1, er.mono e1, h1.bind.mono fun w2 d2 e2 r2 h2 v2 q2 => ?_⟩
    exact h2 w2 rfl (Ext.refl w2) r2 _ ⟨q1.mono e2, q2⟩
theorem nd_star {r : Es} {r' : List Expr} (hK : X.K = G.K) (ha : PE X a' (tE C G W a)) (hr : PA X r' (tEs C G W r)) : PA X (.Starred a' p2 :: r') (tEs C G W (.star a r)) :=
  PAimp (StX.pa_star ha hr) fun σ H Q ⟨env, w, hw, rel, er, h⟩ => by
    subst hw
    unfold evEs at h
    refine ⟨env, w, rfl, rel, er, h.bind.mono fun w1 d1 e1 r1 h1 v1 q1 => ?_⟩
    split at h1
    · rename_i ys hy
      obtain ⟨p, vs, rfl, rs, ls⟩ := seq_of r1 q1 hy
      refine ⟨p, vs, rfl, ?_, env, w1, rfl, r1, er.mono e1, h1.bind.mono fun w2 d2 e2 r2 h2 v2 q2 => ?_⟩
      · rw [hK]
        rcases ls with ⟨l, _⟩ | ⟨t, _⟩
        · exact .inr l.sq
        · exact .inl t.sq
      · exact h2 w2 rfl (Ext.refl w2) r2 _ ((rs.mono e2).rvs.append q2)
    · exact h1.elim
theorem nd_tup {k : Nat} (h : PA X es' (tEs C G W es)) : PE X (.Tuple es' k pos) (tE C G W (.tup es)) :=
  PEimp (pe_tupF h) fun σ H Q ⟨env, w, hw, rel, er, h⟩ => by
    subst hw
    unfold evE at h
    refine ⟨env, w, rfl, rel, er, h.bind.mono fun w1 xs e1 r1 h1 vs q1 => ?_⟩
    split at h1
    · rename_i k
      rw [Bool.and_eq_true, bleN, decide_eq_true_eq, sizeMax_eq] at k
      exact ⟨by rw [← q1.length]; exact k.2, Out.newT r1 (q1.rps k.1) h1⟩
    · exact h1.elim
theorem nd_lst (h : PA X es' (tEs C G W es)) : PE X (.List es' pos) (tE C G W (.lst c es)) :=
  PEimp (pe_lst h) fun σ H Q ⟨env, w, hw, rel, er, h⟩ => by
    subst hw
    unfold evE at h
    refine ⟨env, w, rfl, rel, er, h.bind.mono fun w1 xs e1 r1 h1 vs q1 => ?_⟩
    split at h1
    · rename_i k
      rw [Bool.and_eq_true, bleN, decide_eq_true_eq, sizeMax_eq] at k
      exact ⟨by rw [← q1.length]; exact k.2, fun p hp => Out.lst r1 (q1.rps k.1) h1 hp⟩
    · exact h1.elim
/-- {} -/
theorem nd_dct : PE X (.Dict [] [] pos) (tE C G W .dct) := ⟨fun pins s σ H Q I ⟨env, w, hw, rel, er, h⟩ => by
  subst hw
  unfold evE at h
  have hn := I.hok.fresh (Nat.le_refl s.heap.objs.size)
  have big := I.big
  generalize ha : s.heap.objs.size = a at hn big
  let o : Obj := { cls := .type "dict", data := .dict #[] }
  have e := Ext.cell rel hn (.ext fun h => h.get? a = some o) (.dct [])
  have nm : (a == sysModules) = false := beq_eq_false_iff_ne.mpr (Ne.symm (Nat.ne_of_lt big))
  have r := rel.cell' hn (o := .ext fun h => h.get? a = some o) (c := .dct []) ⟨o, [], upd_same, nm, ⟨⟨rfl, rfl, rfl⟩, ⟨#[], 0, rfl, rfl⟩, List.nodup_nil⟩, trivial⟩
  have g : (s.heap.push o).get? a = some o := by rw [← ha]; exact Heap.get?_push_size _ rfl
  refine wpAny_Dict_empty ⟨.ref a, _, I.laid (a := a) (o := .ext fun h => h.get? a = some o) (t' := s.toks) (fun _ _ q => Heap.get?_push_of_some _ q) (Nat.le_of_eq ha) ⟨g, ⟨_, g⟩, fun h1 h2 q1 q2 => q2 _ q1⟩, by rw [ha]; rfl, h (w.cell a (.ext fun h => h.get? a = some o) (.dct [])) rfl e r _ (.inr (.inl ⟨w.η.length, rfl, ?_, ?_⟩))⟩
  · show w.η.length < (w.η ++ [Cell.dct []]).length
    simp
  · rw [cell_new]⟩
/-! ### places -/
theorem plainIx_of (h : plainIxC b' = true) : PlainIx b' := fun o i => by
  cases b' with
  | Slice l u st p =>
    cases st with
    | none => cases h
    | some z => rfl
  | _ => rfl
theorem nd_ix (hH : ∀ k, G.hs k = k.hash X.w) (hK : X.K = G.K) (hu : X.A.units + 64 < cLine) (ha : PE X a' (tE C G W a)) (hb : PE X b' (tE C G W b)) (hs : plainIxC b' = true) : PE X (.Subscript a' b' pos) (tE C G W (.ix a b)) :=
  PEimp (pe_ix (ix_get hH hK hu) ha hb (plainIx_of hs)) fun σ H Q ⟨env, w, hw, rel, er, h⟩ => by
    subst hw
    unfold evE at h
    refine ⟨env, w, rfl, rel, er, h.bind.mono fun w1 d1 e1 r1 h1 v1 q1 => ?_⟩
    refine ⟨env, w1, rfl, r1, er.mono e1, h1.bind.mono fun w2 d2 e2 r2 h2 v2 q2 => ?_⟩
    exact ⟨w2, d1, d2, rfl, r2, q1.mono e2, q2, h2.pr⟩
/-- a slice's part -/
def tO (C : Ip.Cx) (G : Gx) (W : L2.WX) (e : E) : TO := fun σ H Q => ∃ env w, w.H = H ∧ Rel G w ∧ EnvR G w env σ ∧ Out G w (Wat W σ) (fun w d => ∃ o, part e.isAbs d = some o ∧ Q o w.H) (evE C e env w.η)
theorem nd_abs : PO X none (tO C G W .absent) := ⟨fun pins s σ H Q I ⟨env, w, hw, rel, er, h⟩ => po_none.run pins s σ H Q I (by
  subst hw
  unfold evE at h
  obtain ⟨o, ho, q⟩ := h w rfl (Ext.refl w) rel
  cases ho
  exact q)⟩
theorem nd_part (ha : PE X a' (tE C G W a)) (hn : a.isAbs = false) : PO X (some a') (tO C G W a) := ⟨fun pins s σ H Q I ⟨env, w, hw, rel, er, h⟩ => (po_some ha).run pins s σ H Q I (by
  subst hw
  refine ⟨env, w, rfl, rel, er, h.mono fun w1 d1 e1 r1 ⟨o, ho, q⟩ v1 q1 => ?_⟩
  rw [hn] at ho
  cases d1 with
  | int i =>
    cases ho
    cases q1.int
    exact ⟨i, rfl, q⟩
  | _ => cases ho)⟩
theorem nd_sl {lo hi : Option Expr} (hK : X.K = G.K) (he : PE X e' (tE C G W e)) (hl : PO X lo (tO C G W a)) (hh : PO X hi (tO C G W b)) : PE X (.Subscript e' (.Slice lo hi none p2) pos) (tE C G W (.sl c e a b)) :=
  PEimp (pe_slice (sl_slice (c := c) hK) he hl hh) fun σ H Q ⟨env, w, hw, rel, er, h⟩ => by
    subst hw
    unfold evE at h
    refine ⟨env, w, rfl, rel, er, h.bind.mono fun w1 d1 e1 r1 h1 v1 q1 => ?_⟩
    refine ⟨env, w1, rfl, r1, er.mono e1, h1.bind.mono fun w2 d2 e2 r2 h2 => ?_⟩
    split at h2
    · exact h2.elim
    · rename_i l hl
      refine ⟨l, hl, env, w2, rfl, r2, (er.mono e1).mono e2, h2.bind.mono fun w3 d3 e3 r3 h3 => ?_⟩
      split at h3
      · exact h3.elim
      · rename_i u hu
        exact ⟨u, hu, w3, d1, rfl, r3, (q1.mono e2).mono e3, h3.pr⟩
end
end Ip
/-! calls with keywords: one for each parameter -/
namespace Ip
open PySem PySem.Spec PyProof.Rows L2
theorem forIn_run {α β : Type} {f : α → β → Sem (ForInStep β)} {st : List α → β} : ∀ (l : List α) (pre : List α), (∀ p x, (∃ r, pre ++ l = p ++ x :: r ∧ pre.length ≤ p.length) → f x (st p) = pure (.yield (st (p ++ [x])))) → forIn l (st pre) f = (pure (st (pre ++ l)) : Sem β)
  | [], pre, _ => by simp
  | a :: l, pre, h => by
    rw [List.forIn_cons, h pre a ⟨l, rfl, Nat.le_refl _⟩]
    simp only [pure_bind]
    rw [forIn_run l (pre ++ [a]) fun p x ⟨r, e, k⟩ => h p x ⟨r, by simpa using e, by simp at k; omega⟩]
    simp
theorem lookup_zip_none {k : Str} : ∀ {p : List (Str × Value)}, k ∉ p.map (·.1) → p.lookup k = none
  | [], _ => rfl
  | (a, b) :: r, h => by
    rw [List.map_cons, List.mem_cons, not_or] at h
    rw [List.lookup_cons, beq_eq_false_iff_ne.mpr h.1]
    exact lookup_zip_none h.2
theorem lookup_mem {k : Str} : ∀ {p : List (Str × Value)}, k ∈ p.map (·.1) → (p.lookup k).isNone = false
  | (a, b) :: r, h => by
    rw [List.lookup_cons]
    cases e : (k == a) with
    | true => rfl
    | false =>
      rw [List.map_cons, List.mem_cons] at h
      rcases h with h | h
      · rw [h] at e; simp at e
      · exact lookup_mem h
theorem filter_noneK {α : Type} {p : α → Bool} : ∀ {l : List α}, (∀ x ∈ l, p x = false) → l.filter p = []
  | [], _ => rfl
  | a :: l, h => by rw [List.filter_cons, h a List.mem_cons_self]; exact filter_noneK fun x hx => h x (List.mem_cons_of_mem _ hx)
theorem bind_kw {fd : FuncData} {ps : List Str} {l : List (Str × Value)} (h1 : fd.params.posonlyargs = []) (h2 : fd.params.args.map (·.arg) = ps) (h3 : fd.params.vararg = none) (h4 : fd.params.kwonlyargs = []) (h5 : fd.params.kwarg = none)
    (hd : fd.defaults = .none) (nd : (l.map (·.1)).Nodup) (a1 : ∀ k ∈ l.map (·.1), k ∈ ps) (a2 : ∀ k ∈ ps, k ∈ l.map (·.1)) : bindArgs fd ⟨[], l⟩ = pure (ps.filterMap fun n => (l.lookup n).map fun v => (n, v)) := by
  have q : seqItems? Value.none = (pure none : Sem (Option (Array Value))) := rfl
  unfold bindArgs
  simp only [h1, h2, h3, h4, h5, hd, q, List.map_nil, List.nil_append, List.append_nil, pure_bind, List.length_nil, List.contains_nil, Bool.or_false, Option.isSome_none, Bool.false_eq_true, if_false, List.filter_nil, List.isEmpty_nil, Bool.not_true, List.zip_nil_right]
  have m0 : ps.filter (fun n => (l.lookup n).isNone) = [] := filter_noneK fun x hx => lookup_mem (a2 x hx)
  refine Eq.trans (congrArg (fun t => t >>= _) (forIn_run (st := fun p => (p, [])) l [] fun p x ⟨r, e, _⟩ => ?_)) ?_
  · rw [List.nil_append] at e
    have mx : x.1 ∈ l.map (·.1) := by rw [e]; simp
    have np : x.1 ∉ p.map (·.1) := by
      rw [e, List.map_append, List.map_cons, List.nodup_append] at nd
      intro m
      exact nd.2.2 _ m _ List.mem_cons_self rfl
    have cn : ps.contains x.1 = true := by simpa using a1 _ mx
    rw [if_pos cn, if_neg (by simp [lookup_zip_none np])]
  · simp [m0]

def KwB (fd : FuncData) (ps : List Str) : Prop := ∀ (l : List (Str × Value)), (l.map (·.1)).Nodup → (∀ k ∈ l.map (·.1), k ∈ ps) → (∀ k ∈ ps, k ∈ l.map (·.1)) → ∀ s : Shared, BindsTo s fd ⟨[], l⟩ (ps.filterMap fun n => (l.lookup n).map fun v => (n, v))
theorem eqStr_okK {a b : Str} (h : eqStr a b = true) : a = b := by rw [eqStr_eq] at h; exact eq_of_beq h
theorem memK_ok {x : Str} : ∀ {l : List Str}, memK x l = true → x ∈ l
  | [], h => by cases h
  | y :: r, h => by
    rw [memK, Bool.or_eq_true] at h
    rcases h with h | h
    · rw [eqStr_okK h]; exact List.mem_cons_self
    · exact List.mem_cons_of_mem _ (memK_ok h)
theorem memK_no {x : Str} : ∀ {l : List Str}, memK x l = false → x ∉ l
  | [], _ => by simp
  | y :: r, h => by
    rw [memK, Bool.or_eq_false_iff] at h
    intro m
    rcases List.mem_cons.mp m with e | e
    · rw [e, eqStr_eq] at h; simp at h
    · exact memK_no h.2 e
theorem nodupK_ok : ∀ {l : List Str}, nodupK l = true → l.Nodup
  | [], _ => List.nodup_nil
  | x :: r, h => by
    rw [nodupK, Bool.and_eq_true, Bool.not_eq_true'] at h
    exact List.nodup_cons.mpr ⟨memK_no h.1, nodupK_ok h.2⟩
theorem eqK_ok : ∀ {a b : List Str}, eqK a b = true → a = b
  | [], [], _ => rfl
  | [], _ :: _, h => by cases h
  | _ :: _, [], h => by cases h
  | a :: as, b :: bs, h => by
    rw [eqK, Bool.and_eq_true] at h
    rw [eqStr_okK h.1, eqK_ok h.2]
theorem kwNames_ok : ∀ {kws : List Keyword} {ks : List Str}, kwNames kws = some ks → kws.map (·.arg) = ks.map some
  | [], ks, h => by cases h; rfl
  | k :: r, ks, h => by
    unfold kwNames at h
    split at h
    · rename_i x l e1 e2
      cases h
      rw [List.map_cons, List.map_cons, kwNames_ok e2, e1]
    · cases h
theorem kw_each {env : PySem.Env} : ∀ kws : List Keyword, keywordEach kws env = kws.map fun k => (k.arg, eval k.value env)
  | [] => rfl
  | ⟨a, v, p⟩ :: r => by rw [List.map_cons, ← kw_each r]; rfl
theorem kw_names {env : PySem.Env} (pos : Pos) : ∀ {kws : List Keyword} {ks : List Str}, kws.map (·.arg) = ks.map some → (backToKw pos (keywordEach kws env)).all (·.1.isSome) = true ∧ (backToKw pos (keywordEach kws env)).filterMap (·.1) = ks ∧ (backToKw pos (keywordEach kws env)).any (·.1.isNone) = false
  | [], [], _ => ⟨rfl, rfl, rfl⟩
  | [], _ :: _, h => by simp at h
  | _ :: _, [], h => by simp at h
  | ⟨a, v, p⟩ :: r, k :: ks, h => by
    rw [List.map_cons, List.map_cons, List.cons.injEq] at h
    obtain ⟨h1, h2, h3⟩ := kw_names (env := env) pos h.2
    have e : a = some k := h.1
    subst e
    refine ⟨?_, ?_, ?_⟩
    · show (true && (backToKw pos (keywordEach r env)).all (·.1.isSome)) = true
      rw [h1]; rfl
    · show k :: (backToKw pos (keywordEach r env)).filterMap (·.1) = k :: ks
      rw [h2]
    · show (false || (backToKw pos (keywordEach r env)).any (·.1.isNone)) = false
      rw [h3]; rfl
theorem permute_len {α : Type} : ∀ {is : List Nat} {xs ys : List α}, permute is xs = some ys → ys.length = is.length
  | [], _, _, h => by cases h; rfl
  | i :: is, xs, ys, h => by
    unfold permute at h
    split at h
    · rename_i x l e1 e2
      cases h
      rw [List.length_cons, List.length_cons, permute_len e2]
    · cases h
theorem permute_vals {us : List Value} {vs : List V} (r : Vals vs us) {G : Gx} {w : Wd} : ∀ {is : List Nat} {ds ys : List D}, RVs G w ds vs → permute is ds = some ys → ∃ us' vs', permute is us = some us' ∧ Vals vs' us' ∧ RVs G w ys vs'
  | [], ds, ys, q, h => by cases h; exact ⟨[], [], rfl, .nil, trivial⟩
  | i :: is, ds, ys, q, h => by
    unfold permute at h
    split at h
    · rename_i x l e1 e2
      cases h
      obtain ⟨us', vs', k1, k2, k3⟩ := permute_vals r q e2
      have get : ∀ {ds : List D} {vs : List V} {i : Nat} {d : D}, RVs G w ds vs → ds[i]? = some d → ∃ v, vs[i]? = some v ∧ RV G w d v := by
        intro ds
        induction ds with
        | nil => intro vs i d q e; simp at e
        | cons a r ih =>
          intro vs i d q e
          cases vs with
          | nil => exact q.elim
          | cons v us =>
            cases i with
            | zero => simp at e; subst e; exact ⟨v, rfl, q.1⟩
            | succ i =>
              have z := ih (vs := us) (i := i) (d := d) q.2 (by simpa using e)
              simpa using z
      obtain ⟨v, e3, rv⟩ := get q e1
      obtain ⟨u, e4, ru⟩ := r.get e3
      refine ⟨u :: us', v :: vs', ?_, .cons ru k2, rv, k3⟩
      unfold permute
      rw [e4, k1]
    · cases h
theorem look_zip {k : Str} {u : Value} : ∀ {i : Nat} {ks : List Str} {us : List Value}, ks.Nodup → ks[i]? = some k → us[i]? = some u → (ks.zip us).lookup k = some u
  | 0, a :: ks, b :: us, _, h1, h2 => by
    simp at h1 h2
    subst h1; subst h2
    simp [List.lookup_cons]
  | i + 1, a :: ks, b :: us, nd, h1, h2 => by
    simp at h1 h2
    rw [List.nodup_cons] at nd
    rw [List.zip_cons_cons, List.lookup_cons]
    have : (k == a) = false := by
      rw [beq_eq_false_iff_ne]
      rintro rfl
      exact nd.1 (List.mem_of_getElem? h1)
    rw [this]
    exact look_zip nd.2 h1 h2
theorem zip_perm {ks : List Str} {us : List Value} (nd : ks.Nodup) : ∀ {is : List Nat} {ps : List Str} {us' : List Value}, permute is ks = some ps → permute is us = some us' → (ps.filterMap fun n => ((ks.zip us).lookup n).map fun v => (n, v)) = ps.zip us'
  | [], ps, us', h1, h2 => by cases h1; cases h2; rfl
  | i :: is, ps, us', h1, h2 => by
    unfold permute at h1 h2
    split at h1
    · rename_i k l e1 e2
      cases h1
      split at h2
      · rename_i u l' e3 e4
        cases h2
        rw [List.filterMap_cons, look_zip nd e1 e3, zip_perm nd e2 e4]
        rfl
      · cases h2
    · cases h1
theorem zip_sub : ∀ (ks : List Str) (us : List Value), ((ks.zip us).map (·.1)).Sublist ks
  | [], us => by simp
  | k :: ks, [] => by simp
  | k :: ks, u :: us => by
    rw [List.zip_cons_cons, List.map_cons]
    exact (zip_sub ks us).cons_cons k
theorem zip_mem {ks : List Str} {us : List Value} : ∀ {is : List Nat} {ps : List Str} {us' : List Value}, permute is ks = some ps → permute is us = some us' → ∀ p ∈ ps, p ∈ (ks.zip us).map (·.1)
  | [], ps, us', h1, h2, p, hp => by cases h1; cases hp
  | i :: is, ps, us', h1, h2, p, hp => by
    unfold permute at h1 h2
    split at h1
    · rename_i k l e1 e2
      cases h1
      split at h2
      · rename_i u l' e3 e4
        cases h2
        rcases List.mem_cons.mp hp with rfl | hp
        · refine List.mem_map.mpr ⟨(p, u), List.mem_of_getElem? (i := i) ?_, rfl⟩
          rw [List.getElem?_zip_eq_some]
          exact ⟨e1, e3⟩
        · exact zip_mem e2 e4 p hp
      · cases h2
    · cases h1
theorem permute_mem {α : Type} : ∀ {is : List Nat} {xs ys : List α}, permute is xs = some ys → ∀ y ∈ ys, y ∈ xs
  | [], _, _, h, y, hy => by cases h; cases hy
  | i :: is, xs, ys, h, y, hy => by
    unfold permute at h
    split at h
    · rename_i x l e1 e2
      cases h
      rcases List.mem_cons.mp hy with rfl | hy
      · exact List.mem_of_getElem? e1
      · exact permute_mem e2 y hy
    · cases h
section
variable {X : L2.Cx} {C : Ip.Cx} {G : Gx} {W : L2.WX} {a : E} {a' : Expr} {es r : Es} {kws : List Keyword} {nm : Option Str} {kpos : Pos}
theorem PKimp {t t' : TA} (h : PK X kws t') (k : ∀ σ H Q, t σ H Q → t' σ H Q) : PK X kws t := ⟨fun p pins s σ H Q I q => h.run p pins s σ H Q I (k σ H Q q)⟩
theorem nd_kwnil : PK X [] (tEs C G W .nil) :=
  PKimp pk_nil fun σ H Q ⟨env, w, hw, rel, er, h⟩ => by
    subst hw
    unfold evEs at h
    exact h w rfl (Ext.refl w) rel [] trivial
theorem nd_kwcons (ha : PE X a' (tE C G W a)) (hr : PK X kws (tEs C G W r)) : PK X (⟨nm, a', kpos⟩ :: kws) (tEs C G W (.cons a r)) :=
  PKimp (pk_cons ha hr) fun σ H Q ⟨env, w, hw, rel, er, h⟩ => by
    subst hw
    unfold evEs at h
    refine ⟨env, w, rfl, rel, er, h.bind.mono fun w1 d1 e1 r1 h1 v1 q1 => ?_⟩
    refine ⟨env, w1, rfl, r1, er.mono e1, h1.bind.mono fun w2 d2 e2 r2 h2 v2 q2 => ?_⟩
    exact h2 w2 rfl (Ext.refl w2) r2 _ ⟨q1.mono e2, q2⟩
end
end Ip
namespace Ip
open PySem PySem.Spec PyProof.Rows L2

section
variable {X : L2.Cx} {C : Ip.Cx} {G : Gx} {W : L2.WX} {e a b d : E} {e' a' b' d' : Expr} {es : Es} {es' : List Expr} {pos p2 : Pos} {c : Bool}
/-! ### calls of defs -/
/-- a def's promise: what the evaluator's call gives -/
def spC (C : Ip.Cx) (G : Gx) (g : Nat) : Sp := fun vs H Q E => ∃ w ds, w.H = H ∧ Rel G w ∧ RVs G w ds vs ∧ Out G w E (PE1 G Q) (C.call g ds w.η)
/-- what is at hand of the def g -/
structure DefOk (X : L2.Cx) (C : Ip.Cx) (G : Gx) (g : Nat) : Prop where
  ex : ∃ (k : Nat) (fd : FuncData) (ps : List Str), FnOk X.prog X.w X.K X.mg X.base (L2.CX X.prog X.w) k (G.fa g) fd ps (spC C G g) ∧ Room (k + 1) X.A ∧ Binds X.K fd ps [] ∧ ps = G.pso g ∧ KwB fd ps
  kp : PySem.W.keepIn X.K (.ref (G.fa g)) = true
theorem call_def {g : Nat} (D : DefOk X C G g) (tk : Takes X W) {pins : List (Addr × Obj)} {σ : L2.St} {s : Shared} {Q : VK} {us : List Value} {vs : List V} {w : Wd} {ds : List Ip.D} (I : Inv X pins σ w.H s) (r : Vals vs us) (rel : Rel G w) (q : RVs G w ds vs)
    (h : Out G w (Wat W σ) (PE1 G Q) (C.call g ds w.η)) : wpAny (model X.prog X.w) X.A (call (.ref (G.fa g)) us) (EP X pins σ Q) X.xe s := by
  obtain ⟨k, fd, ps, F, room, hb, _⟩ := D.ex
  exact run_fnS F (room.mono (Nat.le_succ _)) hb (passAt tk σ) I r ⟨w, ds, rfl, rel, q, h⟩
theorem plain_back {env : PySem.Env} (pos : Pos) : ∀ {l : List Expr}, noStars l = true → (backTo pos (starEach l env)).any (·.1) = false
  | [], _ => rfl
  | x :: r, h => by
    simp only [noStars, Bool.and_eq_true] at h
    have ih := plain_back (env := env) pos h.2
    have e : starEach (x :: r) env = (false, eval x env) :: starEach r env := by cases x <;> first | rfl | (cases h.1)
    rw [e]
    exact ih
theorem star_head {x : Expr} {r : List Expr} {env : PySem.Env} (hn : noStars (x :: r) = true) : starEach (x :: r) env = (false, eval x env) :: starEach r env := by
  simp only [noStars, Bool.and_eq_true] at hn
  cases x <;> first | rfl | (cases hn.1)
theorem star_tail {x : Expr} {r : List Expr} {env : PySem.Env} (hn : noStars (x :: r) = true) : (backTo pos (starEach r env)).any (·.1) = false := by
  simp only [noStars, Bool.and_eq_true] at hn
  exact plain_back pos hn.2
/-- f(k = e, ..), each parameter once -/
theorem nd_callk {g : Nat} {x : Str} {kws : List Keyword} {perm : List Nat} {ps : List Str} (D : DefOk X C G g) (tk : Takes X W) (hg : Gl X x) (hm : X.mg x = some (.ref (G.fa g))) (hdb : (x == ("__debug__" : Str)) = false) (hps : G.pso g = ps) (hk : kwB ps perm kws = true) (ha : PK X kws (tEs C G W es)) :
    PE X (.Call (.Name x p2) [] kws pos) (tE C G W (.callk g perm es)) := ⟨fun pins s σ H Q I ⟨env, w, hw, rel, er, h⟩ => by
  subst hw
  unfold evE at h
  unfold kwB at hk
  split at hk
  · rename_i ks hks
    simp only [Bool.and_eq_true] at hk
    obtain ⟨k1, k2, k3⟩ := hk
    split at k3
    · rename_i l hl
      have e := eqK_ok k3
      subst e
      have nm := kw_names (env := X.env) pos (kwNames_ok hks)
      refine wpAny_Call_Name_kw (ld_glob I hg hm ?_ hdb)
      have run := ha.run pos pins s σ w.H (fun vs H1 => ∃ w1 ds, w1.H = H1 ∧ Rel G w1 ∧ RVs G w1 ds vs ∧ Out G w1 (Wat W σ) (PE1 G Q) (match permute perm ds with
        | some ys => C.call g ys w1.η
        | none => .bad)) I ⟨env, w, rfl, rel, er, h.bind.mono fun w1 ds e1 r1 h1 vs q1 => ⟨w1, ds, rfl, r1, q1, h1⟩⟩
      refine PySem.W.callWith_KW0 (h₀ := X.base) I.ok.mod.kin D.kp nm.1 (thn run fun us s1 ⟨vs, H1, I1, r, w1, ds, hH, r1, q1, h1⟩ => ⟨I1.kIn, ?_⟩) (by
        show (false || (backToKw pos (keywordEach kws X.env)).any (·.1.isNone)) = false
        rw [nm.2.2]; rfl)
      subst hH
      rw [nm.2.1]
      split at h1
      · rename_i ys hy
        obtain ⟨us', vs', z1, z2, z3⟩ := permute_vals r q1 hy
        obtain ⟨k, fd, ps, F, room, _, rfl, kb⟩ := D.ex
        rw [hps] at kb F
        have nd := nodupK_ok k1
        have sub := zip_sub ks us
        refine wpAny_call (codeAny_mono (F.run X.A X.stack _ _ ⟨[], ks.zip us⟩ us' vs' _ (WE W σ) (room.mono (Nat.le_succ _)) I1.env0 ?_ z2 ⟨w1, ys, rfl, r1, z3, h1⟩) fun r s' hq => ?_)
        · have := kb (ks.zip us) (nd.sublist sub) (fun k hk => memK_ok (List.all_eq_true.mp k2 k (sub.subset hk))) (zip_mem hl z1) s1
          rw [zip_perm nd hl z1] at this
          exact this
        · cases r with
          | error e => exact passAt tk σ pins _ _ e s' I1 hq
          | ok fl =>
            cases fl with
            | ret u => exact I1.after hq
            | next => exact False.elim hq
            | brk => exact False.elim hq
            | cont => exact False.elim hq
      · exact h1.elim
    · cases k3
  · cases hk⟩
/-- the arguments have come: the call -/
def Arg1 (C : Ip.Cx) (G : Gx) (W : L2.WX) (g : Nat) (σ : L2.St) (Q : VK) (vs : List V) (H1 : Hp) : Prop := ∃ w1 ds, w1.H = H1 ∧ Rel G w1 ∧ RVs G w1 ds vs ∧ Out G w1 (Wat W σ) (PE1 G Q) (C.call g ds w1.η)
theorem nd_call {g : Nat} {x : Str} {z : Expr} {r' : List Expr} (D : DefOk X C G g) (tk : Takes X W) (hg : Gl X x) (hm : X.mg x = some (.ref (G.fa g))) (hdb : (x == ("__debug__" : Str)) = false) (hn : noStars (z :: r') = true) (ha : PA X (z :: r') (tEs C G W es)) :
    PE X (.Call (.Name x p2) (z :: r') [] pos) (tE C G W (.call g es)) := ⟨fun pins s σ H Q I ⟨env, w, hw, rel, er, h⟩ => by
  subst hw
  unfold evE at h
  refine wpAny_Call_Name_kw (ld_glob I hg hm ?_ hdb)
  have run := ha.run pos pins s σ w.H (Arg1 C G W g σ Q) I ⟨env, w, rfl, rel, er, h.bind.mono fun w1 ds e1 r1 h1 vs q1 => ⟨w1, ds, rfl, r1, q1, h1⟩⟩
  refine PySem.W.callWith_K I.ok.mod.kin D.kp (thn run fun us s1 ⟨vs, H1, I1, r, w1, ds, hH, r1, q1, h1⟩ => ⟨I1.kIn, ?_⟩) (star_head hn) (star_tail hn)
  subst hH
  exact call_def D tk I1 r r1 q1 h1⟩
theorem nd_call0 {g : Nat} {x : Str} (D : DefOk X C G g) (tk : Takes X W) (hg : Gl X x) (hm : X.mg x = some (.ref (G.fa g))) (hdb : (x == ("__debug__" : Str)) = false) :
    PE X (.Call (.Name x p2) [] [] pos) (tE C G W (.call g .nil)) := ⟨fun pins s σ H Q I ⟨env, w, hw, rel, er, h⟩ => by
  subst hw
  unfold evE at h
  refine wpAny_Call_Name_kw (ld_glob I hg hm ?_ hdb)
  refine PySem.W.callWith_K0 I.kIn D.kp (call_def D tk I .nil rel (ds := []) trivial ?_)
  unfold evEs at h
  exact h⟩
/-- a call of a value that a name holds -/
theorem nd_callv {x : Str} {z : Expr} {r' : List Expr} (D : ∀ g, PySem.W.keepIn X.K (.ref (G.fa g)) = true ∧ (DefOk X C G g ∨ ∀ xs η, C.call g xs η = .bad)) (tk : Takes X W) (hf : PE X (.Name x p2) (tE C G W e)) (hn : noStars (z :: r') = true) (ha : PA X (z :: r') (tEs C G W es)) :
    PE X (.Call (.Name x p2) (z :: r') [] pos) (tE C G W (.callv e es)) := ⟨fun pins s σ H Q I ⟨env, w, hw, rel, er, h⟩ => by
  subst hw
  unfold evE at h
  have first := hf.run pins s σ w.H (fun v H1 => ∃ g w1, w1.H = H1 ∧ Rel G w1 ∧ EnvR G w1 env σ ∧ RV G w1 (.fn g) v ∧ Out G w1 (Wat W σ) (PE1 G Q) ((evEs C es env w1.η).bind fun xs η => C.call g xs η)) I ⟨env, w, rfl, rel, er, h.bind.mono fun w1 d1 e1 r1 h1 v1 q1 => by
    split at h1
    · exact ⟨_, w1, rfl, r1, er.mono e1, q1, h1⟩
    · exact h1.elim⟩
  refine wpAny_Call_Name_kw (thn first fun f s0 ⟨v, H0, I0, r0, g, w1, hH, rel1, er1, q1, h1⟩ => ?_)
  subst hH
  have Dg := D g
  cases q1.fn
  cases r0
  have run := ha.run pos pins s0 σ w1.H (Arg1 C G W g σ Q) I0 ⟨env, w1, rfl, rel1, er1, h1.bind.mono fun w2 ds e2 r2 h2 vs q2 => ⟨w2, ds, rfl, r2, q2, h2⟩⟩
  refine PySem.W.callWith_K I0.ok.mod.kin Dg.1 (thn run fun us s1 ⟨vs, H1, I1, r, w2, ds, hH, r2, q2, h2⟩ => ⟨I1.kIn, ?_⟩) (star_head hn) (star_tail hn)
  subst hH
  rcases Dg.2 with k | k
  · exact call_def k tk I1 r r2 q2 h2
  · rw [k] at h2; exact h2.elim⟩
/-- a call of what an expression gives -/
theorem callv_core {fe z : Expr} {r' : List Expr} (D : ∀ g, PySem.W.keepIn X.K (.ref (G.fa g)) = true ∧ (DefOk X C G g ∨ ∀ xs η, C.call g xs η = .bad)) (tk : Takes X W) (hf : PE X fe (tE C G W e)) (hn : noStars (z :: r') = true) (ha : PA X (z :: r') (tEs C G W es))
    (ht : eval (.Call fe (z :: r') [] pos) X.env = (do callWith pos (← eval fe X.env) [] (backTo pos (starEach (z :: r') X.env)) (backToKw pos (keywordEach [] X.env)))) :
    PE X (.Call fe (z :: r') [] pos) (tE C G W (.callv e es)) := ⟨fun pins s σ H Q I ⟨env, w, hw, rel, er, h⟩ => by
  subst hw
  unfold evE at h
  have first := hf.run pins s σ w.H (fun v H1 => ∃ g w1, w1.H = H1 ∧ Rel G w1 ∧ EnvR G w1 env σ ∧ RV G w1 (.fn g) v ∧ Out G w1 (Wat W σ) (PE1 G Q) ((evEs C es env w1.η).bind fun xs η => C.call g xs η)) I ⟨env, w, rfl, rel, er, h.bind.mono fun w1 d1 e1 r1 h1 v1 q1 => by
    split at h1
    · exact ⟨_, w1, rfl, r1, er.mono e1, q1, h1⟩
    · exact h1.elim⟩
  rw [ht]
  refine wpAny_bind (thn first fun f s0 ⟨v, H0, I0, r0, g, w1, hH, rel1, er1, q1, h1⟩ => ?_)
  subst hH
  have Dg := D g
  cases q1.fn
  cases r0
  have run := ha.run pos pins s0 σ w1.H (Arg1 C G W g σ Q) I0 ⟨env, w1, rfl, rel1, er1, h1.bind.mono fun w2 ds e2 r2 h2 vs q2 => ⟨w2, ds, rfl, r2, q2, h2⟩⟩
  refine PySem.W.callWith_K I0.ok.mod.kin Dg.1 (thn run fun us s1 ⟨vs, H1, I1, r, w2, ds, hH, r2, q2, h2⟩ => ⟨I1.kIn, ?_⟩) (star_head hn) (star_tail hn)
  subst hH
  rcases Dg.2 with k | k
  · exact call_def k tk I1 r r2 q2 h2
  · rw [k] at h2; exact h2.elim⟩
theorem callv_nil {fe : Expr} (D : ∀ g, PySem.W.keepIn X.K (.ref (G.fa g)) = true ∧ (DefOk X C G g ∨ ∀ xs η, C.call g xs η = .bad)) (tk : Takes X W) (hf : PE X fe (tE C G W e))
    (ht : eval (.Call fe [] [] pos) X.env = (do callWith pos (← eval fe X.env) [] (backTo pos (starEach [] X.env)) (backToKw pos (keywordEach [] X.env)))) :
    PE X (.Call fe [] [] pos) (tE C G W (.callv e .nil)) := ⟨fun pins s σ H Q I ⟨env, w, hw, rel, er, h⟩ => by
  subst hw
  unfold evE at h
  have first := hf.run pins s σ w.H (fun v H1 => ∃ g w1, w1.H = H1 ∧ Rel G w1 ∧ EnvR G w1 env σ ∧ RV G w1 (.fn g) v ∧ Out G w1 (Wat W σ) (PE1 G Q) ((evEs C .nil env w1.η).bind fun xs η => C.call g xs η)) I ⟨env, w, rfl, rel, er, h.bind.mono fun w1 d1 e1 r1 h1 v1 q1 => by
    split at h1
    · exact ⟨_, w1, rfl, r1, er.mono e1, q1, h1⟩
    · exact h1.elim⟩
  rw [ht]
  refine wpAny_bind (thn first fun f s0 ⟨v, H0, I0, r0, g, w1, hH, rel1, er1, q1, h1⟩ => ?_)
  subst hH
  have Dg := D g
  cases q1.fn
  cases r0
  refine PySem.W.callWith_K0 I0.kIn Dg.1 ?_
  unfold evEs at h1
  rcases Dg.2 with k | k
  · exact call_def k tk I0 (us := []) .nil rel1 (ds := []) trivial h1
  · have h1 : Out G w1 (Wat W σ) (PE1 G Q) (C.call g [] w1.η) := h1
    rw [k] at h1; exact h1.elim⟩
/-! ### built-ins -/
theorem nd_biB {f : Bi} {id : String} {x : Str} {z : Expr} {r' : List Expr} (hc : CallR X (.builtin id) (rBi G c f)) (hg : Gl X x) (hm : X.mg x = none) (hv : bootBuiltins x = some (.builtin id)) (hx : x ≠ "__name__") (hdb : (x == ("__debug__" : Str)) = false) (hn : noStars (z :: r') = true) (ha : PA X (z :: r') (tEs C G W es)) :
    PE X (.Call (.Name x p2) (z :: r') [] pos) (tE C G W (.bi c f es)) :=
  PEimp (pe_callB hc hg hm hv ha hx hdb (star_head hn) (star_tail hn)) fun σ H Q ⟨env, w, hw, rel, er, h⟩ => by
    subst hw
    unfold evE at h
    exact ⟨env, w, rfl, rel, er, h.bind.mono fun w1 ds e1 r1 h1 vs q1 => ⟨w1, ds, rfl, r1, q1, h1.pr⟩⟩
theorem nd_biT {f : Bi} {id : String} {x : Str} {z : Expr} {r' : List Expr} (hc : CallR X (.type id) (rBi G c f)) (hg : Gl X x) (hm : X.mg x = none) (hv : bootBuiltins x = some (.type id)) (hx : x ≠ "__name__") (hdb : (x == ("__debug__" : Str)) = false) (hn : noStars (z :: r') = true) (ha : PA X (z :: r') (tEs C G W es)) :
    PE X (.Call (.Name x p2) (z :: r') [] pos) (tE C G W (.bi c f es)) :=
  PEimp (pe_callTy hc hg hm hv ha hx hdb (star_head hn) (star_tail hn)) fun σ H Q ⟨env, w, hw, rel, er, h⟩ => by
    subst hw
    unfold evE at h
    exact ⟨env, w, rfl, rel, er, h.bind.mono fun w1 ds e1 r1 h1 vs q1 => ⟨w1, ds, rfl, r1, q1, h1.pr⟩⟩
theorem cb_gcd : CallR X (.builtin "math.gcd") (rBi G c .gcd) := by
  intro pins s σ H xs us Q I r h
  obtain ⟨w, ds, rfl, rel, q, h⟩ := h
  unfold bi at h
  split at h <;> try first | contradiction | exact h.elim
  obtain ⟨v1, v2, rfl, q1, q2⟩ := q.two
  cases q1.int
  cases q2.int
  exact cr_gcd pins s σ w.H _ us Q I r ⟨_, _, rfl, Out.int rel h⟩
theorem nd_gcd {x : Str} {z : Expr} {r' : List Expr} (hg : Gl X x) (hm : X.mg x = some (.builtin "math.gcd")) (hdb : (x == ("__debug__" : Str)) = false) (hn : noStars (z :: r') = true) (ha : PA X (z :: r') (tEs C G W es)) :
    PE X (.Call (.Name x p2) (z :: r') [] pos) (tE C G W (.bi c .gcd es)) :=
  PEimp (pe_callBfun cb_gcd hg hm ha hdb (star_head hn) (star_tail hn)) fun σ H Q ⟨env, w, hw, rel, er, h⟩ => by
    subst hw
    unfold evE at h
    exact ⟨env, w, rfl, rel, er, h.bind.mono fun w1 ds e1 r1 h1 vs q1 => ⟨w1, ds, rfl, r1, q1, h1.pr⟩⟩
/-- sorted(set(e)) -/
theorem nd_sset {p3 p4 : Pos} (hc : X.calm = true) (hK : X.K = G.K) (hu : X.A.units + 64 < cLine) (g1 : Gl X "sorted") (m1 : X.mg "sorted" = none) (g2 : Gl X "set") (m2 : X.mg "set" = none) (hn : notStar a' = true) (ha : PE X a' (tE C G W a)) :
    PE X (.Call (.Name "sorted" p2) [.Call (.Name "set" p3) [a'] [] p4] [] pos) (tE C G W (.bi c .sset (.cons a .nil))) := by
  have ns : noStars [a'] = true := by simp only [noStars, hn, Bool.and_self]
  have one : PA X [a'] (tCons (tE C G W a) tNil) := pa_cons ha pa_nil (star_head ns)
  have set := pe_callTy (p := p3) (pos := p4) (cb_set2 (G := G) hc hK hu) g2 m2 PyProof.Rows.boot_set one (by decide) (by decide) (star_head ns) (star_tail ns)
  have two := pa_cons set pa_nil
  refine PEimp (pe_callB (p := p2) (pos := pos) (cb_sorted2 (G := G) hc hK) g1 m1 (by decide +kernel) two (by decide) (by decide) rfl rfl) fun σ H Q ⟨env, w, hw, rel, er, h⟩ => ?_
  subst hw
  unfold evE at h
  refine ⟨env, w, rfl, rel, er, ?_⟩
  unfold evEs at h
  refine h.bind.bind.mono fun w1 d1 e1 r1 h1 v1 q1 => ?_
  unfold evEs at h1
  exact sset2_ok r1 q1 (Out.pr (h1 w1 rfl (Ext.refl w1) r1))
/-! ### tuple(range(..)) -/
theorem pe_tupRgF {te : L2.St → Hp → (Int → Int → Hp → Prop) → Prop} {e : Expr} {p pos : Pos} (hc : X.calm = true) (hg : Gl X "tuple") (hm : X.mg "tuple" = none) (he : PRg X e te) (na : starEach [e] X.env = (false, eval e X.env) :: starEach [] X.env) :
    PE X (.Call (.Name "tuple" p) [e] [] pos) (fun σ H Q => te σ H fun a b H1 => RgOk a b ∧ NewT Q H1 (rgV a b)) := by
  refine ⟨fun pins s σ H Q I h => ?_⟩
  refine Call_ (ld_blt I hg hm boot_tuple (PyProof.Rows.callWith_type1 (args_cons (thn (he pins s σ H _ I h) fun x s1 ⟨r, a, b, t, u, v, H1, ex, hr, I1, ok, q⟩ => args_nil ?_) na) na))
  subst ex
  obtain ⟨b1, b2, b3, b4, b5⟩ := ok
  refine call_tuple_range (n := (b - a).toNat) (I1.ok.hd hc) hr (small_one b1 b2 b3 b4) (rangeSize_nat a b) b5 fun h' tk acc hk hi => ?_
  have I2 : L2.Inv X pins σ H1 { s1 with heap := h', toks := tk } := I1.kept hk
  have fin := NewT.ep q tk I2 (vals_rg hi) (by rw [rgV_length, sizeLine_eq]; omega)
  simpa [tupO] using fin
theorem rp_rng {w : Wd} : ∀ (n : Nat) (a : Int), RPs G w (rngL n a 1) ((List.range n).map fun i => V.int (a + (i : Nat)))
  | 0, a => .nil
  | n + 1, a => by
    rw [rngL, forceI_eq, List.range_succ_eq_map, List.map_cons, List.map_map]
    have ih := rp_rng (w := w) n (a + 1)
    have e : ((List.range n).map ((fun i : Nat => V.int (a + (i : Nat))) ∘ Nat.succ)) = (List.range n).map fun i => V.int (a + 1 + (i : Nat)) := by
      refine List.map_congr_left fun i _ => ?_
      show V.int (a + ((i + 1 : Nat) : Int)) = V.int (a + 1 + (i : Int))
      congr 1
      omega
    rw [e]
    have z : V.int (a + ((0 : Nat) : Int)) = V.int a := by simp
    rw [z]
    exact .cons (.int a) ih
theorem nd_rngT1 {p3 p4 : Pos} (hc : X.calm = true) (g1 : Gl X "tuple") (m1 : X.mg "tuple" = none) (g2 : Gl X "range") (m2 : X.mg "range" = none) (hn : notStar a' = true) (ha : PE X a' (tE C G W a)) :
    PE X (.Call (.Name "tuple" p2) [.Call (.Name "range" p3) [a'] [] p4] [] pos) (tE C G W (.bi c .rngT (.cons a .nil))) := by
  have ns : noStars [a'] = true := by simp only [noStars, hn, Bool.and_self]
  refine PEimp (pe_tupRgF (p := p2) (pos := pos) hc g1 m1 (prg_1 (p := p3) (pos := p4) g2 m2 ha (star_head ns)) rfl) fun σ H Q ⟨env, w, hw, rel, er, h⟩ => ?_
  subst hw
  unfold evE at h
  refine ⟨env, w, rfl, rel, er, ?_⟩
  unfold evEs at h
  refine h.bind.bind.mono fun w1 d1 e1 r1 h1 v1 q1 => ?_
  unfold evEs at h1
  have h2 : Out G w1 W0 (PE1 G Q) (bi c .rngT [d1] w1.η).r := Out.pr (h1 w1 rfl (Ext.refl w1) r1)
  unfold bi at h2
  cases d1 with
  | int n =>
    cases q1.int
    simp only [rngItems] at h2
    split at h2
    · rename_i ys e2
      split at e2
      · rename_i k
        rw [bltN, decide_eq_true_eq] at k
        have e2 := Option.some.inj e2
        subst e2
        refine ⟨n, rfl, ⟨by omega, by omega, by omega, by omega, by omega⟩, ?_⟩
        have rp : RPs G w1 (rngL n.toNat 0 1) (rgV 0 n) := by
          have := rp_rng (G := G) (w := w1) n.toNat 0
          unfold rgV
          rw [Int.sub_zero]
          exact this
        exact Out.newT r1 rp h2
      · cases e2
    · exact h2.elim
  | _ => exact h2.elim
/-! ### methods of lists and tuples -/
/-- what is known of a receiver -/
theorem recv_is {pins : List (Addr × Obj)} {σ : L2.St} {s : Shared} {w : Wd} {dd : Ip.D} {v : V} {u : Value} {m : Mt} (hK : X.K = G.K) (I : Inv X pins σ w.H s) (rel : Rel G w) (q : RV G w dd v) (r : RelV v u) (h : recv m w.η dd = true) :
    (∀ b, u = .ref b → ∃ ob, s.heap.get? b = some ob ∧ ob.dict = none) ∧ ((∃ xs, dd = .tup xs) ∧ s.TypeIs u "tuple" ∧ (m = .index ∨ m = .count) ∨ (¬ ∃ xs, dd = .tup xs) ∧ s.TypeIs u "list") := by
  have lists : ∀ {xs : List Ip.D}, lstAt w.η dd = some xs → (∀ b, u = .ref b → ∃ ob, s.heap.get? b = some ob ∧ ob.dict = none) ∧ s.TypeIs u "list" := fun {xs} e => by
    obtain ⟨p, vs, rfl, l, rs⟩ := lst_of rel q e
    cases r
    have hs : SqL X.K w.H p vs := by rw [hK]; exact l.sq
    obtain ⟨its, r', ⟨ob, n, ho, hc, hd, _⟩, _⟩ := I.list hs
    exact ⟨fun b e => by cases e; exact ⟨ob, ho, hd⟩, ⟨ob, ho, hc⟩⟩
  cases dd with
  | tup xs =>
    obtain ⟨p, vs, rfl, t, rs⟩ := q.tup
    cases r
    have tuple : ∃ ob, s.heap.get? p = some ob ∧ ob.dict = none ∧ ob.cls = .type "tuple" := by
      rcases t with ⟨o, e1, e2, _⟩ | ⟨o, its, n, e1, e2, e3, _⟩
      · have hk := I.hok p _ e1
        obtain ⟨h1, _, _, _, o', h2, h3, _⟩ := (show ObjOk X.prog X.w w.H s.heap p (.frz o (.tup vs)) from hk)
        rw [h1] at h2
        cases h2
        exact ⟨o, h1, e2, h3⟩
      · exact ⟨o, I.kIn p o (by rw [hK]; exact e1), e3, e2⟩
    obtain ⟨ob, ho, hd, hc⟩ := tuple
    refine ⟨fun b e => by cases e; exact ⟨ob, ho, hd⟩, .inl ⟨⟨xs, rfl⟩, ⟨ob, ho, hc⟩, ?_⟩⟩
    cases m <;> first | exact .inl rfl | exact .inr rfl | (simp only [recv, reduceCtorEq] at h)
  | lst xs =>
    obtain ⟨h1, h2⟩ := lists (xs := xs) rfl
    exact ⟨h1, .inr ⟨(fun ⟨_, z⟩ => nomatch z), h2⟩⟩
  | loc i =>
    simp only [recv] at h
    split at h
    · rename_i ys hη
      obtain ⟨h1, h2⟩ := lists (xs := ys) (by simp only [lstAt, hη])
      exact ⟨h1, .inr ⟨(fun ⟨_, z⟩ => nomatch z), h2⟩⟩
    · cases h
  | _ => simp only [recv, reduceCtorEq] at h
theorem base_of {o : Expr} {nm : Str} {env : PySem.Env} (h : plainBase o = true) (whole : Sem Value) : attributeBase o nm env whole = whole := by
  unfold attributeBase
  split
  · simp only [plainBase, reduceCtorEq] at h
  · rfl
/-- where a method is to be had -/
structure MtAt (T : String) (nm : Str) (id : String) : Prop where
  pa : PlainAttrs T
  slot : Slot T nm id
  ty : typeOf (.builtin id) = pure (.type "method_descriptor")
theorem nd_mt {m : Mt} {nm : Str} {idL idT : String} {z : Expr} {r' : List Expr} {apos : Pos} (hK : X.K = G.K) (aL : MtAt "list" nm idL) (aT : (m = .index ∨ m = .count) → MtAt "tuple" nm idT)
    (hL : MtR X idL (rMtL G c m false)) (hT : (m = .index ∨ m = .count) → MtR X idT (rMtL G c m true)) (ho : PE X e' (tE C G W e)) (hbase : plainBase e' = true) (hline : (apos.endLine == pos.line) = true) (hn : noStars (z :: r') = true) (hl : (z :: r').length < 29) (ha : PA X (z :: r') (tEs C G W es)) :
    PE X (.Call (.Attribute e' nm apos) (z :: r') [] pos) (tE C G W (.mt c m e es)) := ⟨fun pins s σ H Q I ⟨env, w, hw, rel, er, h⟩ => by
  subst hw
  unfold evE at h
  have first := ho.run pins s σ w.H (fun v H1 => ∃ dd w1, w1.H = H1 ∧ Rel G w1 ∧ EnvR G w1 env σ ∧ RV G w1 dd v ∧ recv m w1.η dd = true ∧ Out G w1 (Wat W σ) (PE1 G Q) ((evEs C es env w1.η).bind fun xs η => (mt c m dd xs η).r)) I ⟨env, w, rfl, rel, er, h.bind.mono fun w1 d1 e1 r1 h1 v1 q1 => by
    split at h1
    · exact ⟨d1, w1, rfl, r1, er.mono e1, q1, ‹_›, h1⟩
    · exact h1.elim⟩
  have few : ((backTo pos (starEach (z :: r') X.env)).all (fun x => !x.1) && (backToKw pos (keywordEach [] X.env)).all (fun x => x.1.isSome) && decide ((z :: r').length + ([] : List Keyword).length + (if ([] : List Keyword).isEmpty then 0 else 1) < 30)) = true := by
    have k := plain_back (env := X.env) pos hn
    rw [Bool.and_eq_true, Bool.and_eq_true]
    refine ⟨⟨?_, rfl⟩, ?_⟩
    · rw [List.all_eq_true]
      intro x hx
      rw [List.any_eq_false] at k
      simpa using k x hx
    · simp only [List.length_nil, List.isEmpty_nil, if_true, decide_eq_true_eq]; omega
  refine wpAny_Call_method_late (base_of hbase _) few hline rfl (thn first fun v s1 ⟨x, H1, I1, r1, dd, w1, hH, rel1, er1, q1, rc, h1⟩ => ?_)
  subst hH
  obtain ⟨k1, k2⟩ := recv_is hK I1 rel1 q1 r1 rc
  have args : ∀ {id : String} {isT : Bool}, ((∃ ys, dd = .tup ys) ↔ isT = true) → MtR X id (rMtL G c m isT) → wpAny (model X.prog X.w) X.A (callWith pos (.builtin id) [v] (backTo pos (starEach (z :: r') X.env)) []) (EP X pins σ Q) X.xe s1 := fun {id isT} hi hm => by
    have run := ha.run pos pins s1 σ w1.H (fun vs H2 => ∃ w2 ds, w2.H = H2 ∧ Rel G w2 ∧ RVs G w2 ds vs ∧ Ext w1 w2 ∧ Out G w2 (Wat W σ) (PE1 G Q) (mt c m dd ds w2.η).r) I1 ⟨env, w1, rfl, rel1, er1, h1.bind.mono fun w2 ds e2 r2 h2 vs q2 => ⟨w2, ds, rfl, r2, q2, e2, h2⟩⟩
    rw [star_head hn] at run ⊢
    refine Calls.callWith_builtin (by show (false || (backTo pos (starEach r' X.env)).any (·.1)) = false; rw [star_tail hn]; rfl) (Calls.evalArgs_plain ?_)
    exact thn run fun us s2 ⟨vs, H2, I2, r2, w2, ds, hH2, rel2, q2, e2, h2⟩ => by
      subst hH2
      exact hm pins s2 σ w2.H x vs v us Q I2 r1 r2 ⟨w2, dd, ds, rfl, rel2, q1.mono e2, q2, hi, h2.pr⟩
  rcases k2 with ⟨isT, ty, hm⟩ | ⟨isL, ty⟩
  · have a := aT hm
    exact ⟨"tuple", idT, a.pa, a.slot, a.ty, ty, k1, args ⟨fun _ => rfl, fun _ => isT⟩ (hT hm)⟩
  · exact ⟨"list", idL, aL.pa, aL.slot, aL.ty, ty, k1, args ⟨fun h => absurd h isL, fun h => by cases h⟩ hL⟩⟩
theorem mtL_of {id : String} {m : Mt} (h : MtR X id (rMt G c m)) : MtR X id (rMtL G c m false) := fun pins s σ H x xs v us Q I rx rxs ⟨w, d, ds, hw, rel, q1, q2, _, h'⟩ => h pins s σ H x xs v us Q I rx rxs ⟨w, d, ds, hw, rel, q1, q2, h'⟩
/-! ### isinstance -/
def tyN : Ty → Option String
  | .int => some "int" | .bool => some "bool" | .str => some "str" | .list => some "list" | .tuple => some "tuple"
  | _ => none
/-- the type's name of a value that is no error -/
def tyD : Ip.D → String
  | .non => "NoneType" | .bl _ => "bool" | .int _ => "int" | .str _ => "str" | .tup _ => "tuple" | _ => "list"
theorem isTy_kit {dd : Ip.D} {t : Ty} {n : String} {eb : Nat → Ty → Bool} (h : tyN t = some n) (he : ∀ g xs, dd ≠ .exc g xs) (hf : ∀ g, dd ≠ .fn g) : kitB (tyD dd) n = some (isTy eb dd t) := by
  cases t <;> simp only [tyN, Option.some.injEq, reduceCtorEq] at h <;> subst h <;> cases dd <;>
    first
      | (exact absurd rfl (hf _))
      | (exact absurd rfl (he _ _))
      | (simp only [tyD, isTy]; decide +kernel)
theorem tyX_of {w : Wd} {dd : Ip.D} {v : V} {K : PySem.W.Frag} (hK : K = G.K) (rel : Rel G w) (q : RV G w dd v) (h : ∀ i, dd = .loc i → ∃ xs, w.η[i]? = some (.lst xs)) (he : ∀ g xs, dd ≠ .exc g xs) (hf : ∀ g, dd ≠ .fn g) : TyX K w.H v (.type (tyD dd)) := by
  subst hK
  cases dd with
  | non => cases q.non; exact .base .non
  | bl b => cases q.bl; exact .base (.bl b)
  | int b => cases q.int; exact .base (.int b)
  | str b => cases q.str; exact .base (.str b)
  | tup xs =>
    obtain ⟨p, vs, rfl, t, _⟩ := q.tup
    rcases t with ⟨o, e1, _⟩ | ⟨o, its, n, e1, e2, _⟩
    · exact .fTuple e1
    · exact .kTuple e1 e2
  | lst xs =>
    obtain ⟨p, vs, rfl, t, _⟩ := q.lst
    rcases t.1 with e | ⟨o, e⟩
    · exact .base (.lst e)
    · exact .base (.frz e)
  | loc i =>
    obtain ⟨_, rfl⟩ := q.loc
    obtain ⟨xs, hx⟩ := h i rfl
    obtain ⟨vs, e1, _⟩ := cell_of rel hx
    exact .base (.lst e1)
  | fn g => exact absurd rfl (hf g)
  | exc g xs => exact absurd rfl (he g xs)
theorem kitAny_isAny {K : PySem.W.Frag} {dd : Ip.D} {eb : Nat → Ty → Bool} (he : ∀ g xs, dd ≠ .exc g xs) (hf : ∀ g, dd ≠ .fn g) : ∀ {ts : List Ty} {ns : List String}, ts.map tyN = ns.map some → PySem.W.kitAny K (.type (tyD dd)) (ns.map Value.type) = some (isAny eb dd ts)
  | [], [], _ => rfl
  | t :: ts, n :: ns, h => by
    simp only [List.map_cons, List.cons.injEq] at h
    have ih := kitAny_isAny (K := K) (eb := eb) he hf (ts := ts) (ns := ns) h.2
    rw [List.map_cons]
    refine kitAny_cons (kit_ty (isTy_kit (eb := eb) h.1 he hf)) (fun hb => ?_) fun hb => ?_
    · rw [ih, isAny, hb, Bool.false_or]
    · rw [isAny, hb, Bool.true_or]
  | [], _ :: _, h => by simp at h
  | _ :: _, [], h => by simp at h
theorem isi_cases {η : Hs} {dd : Ip.D} (h : isiOk η dd = true) : (∀ i, dd = .loc i → ∃ xs, η[i]? = some (.lst xs)) ∧ ∀ g, dd ≠ .fn g := by
  cases dd with
  | loc i =>
    simp only [isiOk] at h
    split at h
    · rename_i xs e
      exact ⟨(fun j z => by cases z; exact ⟨xs, e⟩), (fun g z => nomatch z)⟩
    · cases h
  | fn g => cases h
  | _ => exact ⟨(fun j z => nomatch z), (fun g z => nomatch z)⟩
/-- the errors that are asked: nothing is known of them here -/
def NoCur (G : Gx) : Prop := G.cur = none
theorem no_exc {w : Wd} {dd : Ip.D} {v : V} (h : NoCur G) (q : RV G w dd v) : ∀ g xs, dd ≠ .exc g xs := fun g xs z => by
  subst z
  rcases q with q | ⟨_, q, _⟩ | ⟨_, _, a, cls, d, _, q, _⟩
  · cases q
  · cases q
  · rw [h] at q; cases q
/-- isinstance(x, T) where no error is held -/
theorem nd_isi1 {t : Ty} {n : String} {x : Str} {p3 : Pos} (hc : NoCur G) (hK : X.K = G.K) (g1 : Gl X "isinstance") (m1 : X.mg "isinstance" = none) (gt : Gl X x) (mt : X.mg x = none) (bt : bootBuiltins x = some (.type n)) (hx : x ≠ "__name__") (hdb : (x == ("__debug__" : Str)) = false) (hn : tyN t = some n)
    (hs : notStar a' = true) (ha : PE X a' (tE C G W a)) : PE X (.Call (.Name "isinstance" p2) [a', .Name x p3] [] pos) (tE C G W (.isi a [t])) := by
  have ns : noStars [a', .Name x p3] = true := by show (notStar a' && (true && true)) = true; rw [hs]; rfl
  have cls : PE X (.Name x p3) (tC (.ty n)) := pe_bltn gt mt bt rfl hx hdb
  have args := pa_cons ha (pa_cons cls pa_nil) (star_head ns)
  refine PEimp (pe_callB (p := p2) (pos := pos) call_isi g1 m1 (by decide +kernel) args (by decide) (by decide) (star_head ns) (star_tail ns)) fun σ H Q ⟨env, w, hw, rel, er, h⟩ => ?_
  subst hw
  unfold evE at h
  refine ⟨env, w, rfl, rel, er, h.bind.mono fun w1 d1 e1 r1 h1 v1 q1 => ?_⟩
  split at h1
  · rename_i ok
    obtain ⟨k1, k2⟩ := isi_cases ok
    have k3 := no_exc hc q1
    refine ⟨v1, .ty n, _, .type n, _, rfl, .ty n, tyX_of hK r1 q1 k1 k3 k2, kit_ty (isTy_kit (eb := C.eb) hn k3 k2), ?_⟩
    have := h1 w1 rfl (Ext.refl w1) r1 _ (.inl (.bl _))
    simp only [isAny, Bool.or_false] at this
    exact this
  · exact h1.elim
/-- the classes that are named, one after the other -/
inductive TyNames (X : L2.Cx) : List Ty → List String → List Expr → Prop
  | nil : TyNames X [] [] []
  | cons {t : Ty} {n : String} {x : Str} {p : Pos} {ts : List Ty} {ns : List String} {es : List Expr} (hn : tyN t = some n) (g : Gl X x) (m : X.mg x = none) (b : bootBuiltins x = some (.type n)) (hx : x ≠ "__name__") (hdb : (x == ("__debug__" : Str)) = false) (r : TyNames X ts ns es) :
    TyNames X (t :: ts) (n :: ns) (.Name x p :: es)
def tNames (ns : List String) : TA := fun _ H Q => Q (ns.map V.ty) H
theorem TyNames.pa {ts : List Ty} {ns : List String} {l : List Expr} (h : TyNames X ts ns l) : PA X l (tNames ns) := by
  induction h with
  | nil => exact PAimp pa_nil fun σ H Q q => q
  | cons hn g m b hx hdb r ih => exact PAimp (pa_cons (pe_bltn (v := .ty _) g m b rfl hx hdb) ih) fun σ H Q q => q
theorem TyNames.len {ts : List Ty} {ns : List String} {l : List Expr} (h : TyNames X ts ns l) : ns.length = ts.length := by
  induction h with
  | nil => rfl
  | cons _ _ _ _ _ _ _ ih => simp [ih]
theorem TyNames.map {ts : List Ty} {ns : List String} {l : List Expr} (h : TyNames X ts ns l) : ts.map tyN = ns.map some := by
  induction h with
  | nil => rfl
  | cons hn _ _ _ _ _ _ ih => simp [ih, hn]
theorem clsVs : ∀ ns : List String, Paired ClsV (ns.map V.ty) (ns.map Value.type)
  | [] => .nil
  | n :: ns => .cons (.ty n) (clsVs ns)
/-- isinstance(x, (T, U, ..)) -/
theorem nd_isiN {ts : List Ty} {ns : List String} {l : List Expr} {k : Nat} {p3 : Pos} (hc : NoCur G) (hK : X.K = G.K) (g1 : Gl X "isinstance") (m1 : X.mg "isinstance" = none) (hT : TyNames X ts ns l) (few : ts.length ≤ 100)
    (hs : notStar a' = true) (ha : PE X a' (tE C G W a)) : PE X (.Call (.Name "isinstance" p2) [a', .Tuple l k p3] [] pos) (tE C G W (.isi a ts)) := by
  have st : noStars [a', .Tuple l k p3] = true := by show (notStar a' && (true && true)) = true; rw [hs]; rfl
  have args := pa_cons ha (pa_cons (pe_tup (x1 := k) (pos := p3) hT.pa) pa_nil) (star_head st)
  refine PEimp (pe_callB (p := p2) (pos := pos) call_isiT g1 m1 (by decide +kernel) args (by decide) (by decide) (star_head st) (star_tail st)) fun σ H Q ⟨env, w, hw, rel, er, h⟩ => ?_
  subst hw
  unfold evE at h
  refine ⟨env, w, rfl, rel, er, h.bind.mono fun w1 d1 e1 r1 h1 v1 q1 => ?_⟩
  split at h1
  · rename_i ok
    obtain ⟨k1, k2⟩ := isi_cases ok
    have k3 := no_exc hc q1
    refine ⟨by rw [List.length_map, hT.len, sizeLine_eq]; omega, fun p hp => ?_⟩
    have e2 := Ext.lay r1 hp (.tup (ns.map V.ty))
    have r2 := r1.lay hp (.tup (ns.map V.ty))
    refine ⟨v1, p, _, _, _, _, rfl, upd_same, clsVs ns, tyX_of hK r2 (q1.mono e2) k1 k3 k2, kitAny_isAny (eb := C.eb) k3 k2 hT.map, ?_⟩
    exact h1 (w1.lay p (.tup (ns.map V.ty))) rfl e2 r2 _ (.inl (.bl _))
  · exact h1.elim
end
end Ip
namespace Ip
open PySem PySem.Spec PyProof.Rows L2
/-- what is no own place is kept -/
structure Sub (w w' : Wd) : Prop where
  len : w.η.length ≤ w'.η.length
  mp : ∀ i, i < w.η.length → w'.mp i = w.mp i
  keep : ∀ a o, w.H a = some o → ¬ w.Live a → w'.H a = some o
  live : ∀ a o, w.H a = some o → ¬ w.Live a → ¬ w'.Live a
section
variable {G : Gx} {w w' w1 w2 : Wd}
theorem Ext.sub (e : Ext w w') : Sub w w' := ⟨e.len, e.mp, fun a o h n => e.keep a o h fun z => n (.inl z), e.live⟩
theorem Sub.trans (a : Sub w w1) (b : Sub w1 w2) : Sub w w2 :=
  ⟨Nat.le_trans a.len b.len, fun i h => (b.mp i (Nat.lt_of_lt_of_le h a.len)).trans (a.mp i h), fun x o h n => b.keep x o (a.keep x o h n) (a.live x o h n), fun x o h n => b.live x o (a.keep x o h n) (a.live x o h n)⟩
theorem TupAt.sub {K : PySem.W.Frag} {a : Addr} {vs : List V} (e : Sub w w') (h : TupAt K w a vs) : TupAt K w' a vs := by
  rcases h with ⟨o, h, d, n⟩ | h
  · exact .inl ⟨o, e.keep _ _ h n, d, e.live _ _ h n⟩
  · exact .inr h
theorem LstAt.sub {a : Addr} {vs : List V} (e : Sub w w') (h : LstAt w a vs) : LstAt w' a vs := by
  obtain ⟨h | ⟨o, h⟩, n⟩ := h
  · exact ⟨.inl (e.keep _ _ h n), e.live _ _ h n⟩
  · exact ⟨.inr ⟨o, e.keep _ _ h n⟩, e.live _ _ h n⟩
mutual
theorem RP.sub (e : Sub w w') : ∀ {d : D} {v : V}, RP G w d v → RP G w' d v
  | _, _, .non => .non
  | _, _, .bl b => .bl b
  | _, _, .int i => .int i
  | _, _, .str i => .str i
  | _, _, .fn i => .fn i
  | _, _, .tup h r => .tup (h.sub e) (RPs.sub e r)
  | _, _, .lst h r => .lst (h.sub e) (RPs.sub e r)
theorem RPs.sub (e : Sub w w') : ∀ {d : List D} {v : List V}, RPs G w d v → RPs G w' d v
  | _, _, .nil => .nil
  | _, _, .cons h r => .cons (RP.sub e h) (RPs.sub e r)
end
theorem ExcK.sub {g : Nat} {xs : List D} {cls : Value} {dd : Option Addr} (e : Sub w w') (h : ExcK G w g xs cls dd) : ExcK G w' g xs cls dd := by
  obtain ⟨h, h' | ⟨x, da, vx, e1, e2, e3, e4, e5⟩⟩ := h
  · exact ⟨h, .inl h'⟩
  · exact ⟨h, .inr ⟨x, da, vx, e1, e2, e.keep _ _ e3 e4, e.live _ _ e3 e4, e5.sub e⟩⟩
theorem RV.sub {d : D} {v : V} (e : Sub w w') (h : RV G w d v) : RV G w' d v := by
  rcases h with h | ⟨i, e1, e2, e3⟩ | ⟨g, xs, a, cls, dd, e1, e2, e3, e4⟩
  · exact .inl (h.sub e)
  · exact .inr (.inl ⟨i, e1, Nat.lt_of_lt_of_le e2 e.len, by rw [e3, e.mp i e2]⟩)
  · exact .inr (.inr ⟨g, xs, a, cls, dd, e1, e2, e3, e4.sub e⟩)
theorem RVs.sub (e : Sub w w') : ∀ {ds : List D} {vs : List V}, RVs G w ds vs → RVs G w' ds vs
  | [], [], _ => trivial
  | _ :: _, _ :: _, ⟨a, b⟩ => ⟨a.sub e, RVs.sub e b⟩
theorem FsR.sub (e : Sub w w') : ∀ {ds : List (Nat × D)} {vs : List (Str × V)}, FsR G w ds vs → FsR G w' ds vs
  | [], [], _ => trivial
  | _ :: _, _ :: _, ⟨a, ⟨b, n⟩, c⟩ => ⟨a, ⟨b.sub e, n⟩, FsR.sub e c⟩
theorem KDs.sub (e : Sub w w') : ∀ {ds : List (D × D)} {vs : List (NestedKey × Addr × Value)}, KDs G w ds vs → KDs G w' ds vs
  | [], [], _ => trivial
  | _ :: _, _ :: _, ⟨⟨a, k, b⟩, ⟨v, r, n⟩, c⟩ => ⟨⟨a, k, b.sub e⟩, ⟨v, r, n.sub e⟩, KDs.sub e c⟩
theorem EnvR.sub {env : Env} {σ : L2.St} (e : Sub w w') (h : EnvR G w env σ) : EnvR G w' env σ :=
  ⟨h.1, fun i d q => let ⟨v, a, b⟩ := h.2 i d q; ⟨v, a, b.sub e⟩⟩
theorem CellOk.sub {a : Addr} {c : Cell} (e : Sub w w') (k : ∀ o, w.H a = some o → w'.H a = some o) (h : CellOk G w a c) : CellOk G w' a c := by
  cases c with
  | lst xs => obtain ⟨vs, h1, h2⟩ := h; exact ⟨vs, k _ h1, h2.sub e⟩
  | dct kvs => obtain ⟨o, xs, h1, h2, h3, h4⟩ := h; exact ⟨o, xs, k _ h1, h2, h3, h4.sub e⟩
  | obj c fs => obtain ⟨dx, vs, h1, h2⟩ := h; exact ⟨dx, vs, k _ h1, h2.sub e⟩
  | lsl xs j => obtain ⟨vs, h1, h2, h3⟩ := h; exact ⟨vs, by rw [e.mp j h3]; exact k _ h1, h2.sub e, Nat.lt_of_lt_of_le h3 e.len⟩
  | dead => trivial
/-! ### a list that is being built: a ghost -/
def Wd.ghost (w : Wd) (p : Addr) (o : HO) : Wd := { w with H := upd w.H p o, gh := fun a => w.gh a ∨ a = p }
structure ExtG (p : Addr) (w u : Wd) : Prop where
  len : w.η.length ≤ u.η.length
  mp : ∀ i, i < w.η.length → u.mp i = w.mp i
  keep : ∀ a o, w.H a = some o → ¬ w.At a → u.H a = some o
  live : ∀ a o, w.H a = some o → ¬ w.Live a → ¬ u.Live a
  gh : ∀ a, u.gh a ↔ (w.gh a ∨ a = p)
  fr : w.H p = none
theorem ExtG.sub {p : Addr} {u : Wd} (e : ExtG p w u) : Sub w u := ⟨e.len, e.mp, fun a o h n => e.keep a o h fun z => n (.inl z), e.live⟩
theorem ExtG.trans {p : Addr} {u u' : Wd} (a : ExtG p w u) (r1 : Rel G u) (b : Ext u u') : ExtG p w u' where
  len := Nat.le_trans a.len b.len
  mp := fun i h => (b.mp i (Nat.lt_of_lt_of_le h a.len)).trans (a.mp i h)
  keep := fun x o h n => by
    by_cases hl : w.gh x
    · refine b.keep x o (a.keep x o h n) fun ⟨i, c, e, nd, q⟩ => r1.ngh i c e nd ?_
      rw [q]; exact (a.gh x).mpr (.inl hl)
    · refine b.keep x o (a.keep x o h n) fun q => ?_
      exact a.live x o h (fun z => z.elim n hl) (.inl q)
  live := fun x o h n => b.live x o (a.keep x o h fun z => n (.inl z)) (a.live x o h n)
  gh := fun x => by rw [b.gh]; exact a.gh x
  fr := a.fr
theorem ghost_ext (r : Rel G w) {p : Addr} (hp : w.H p = none) (o : HO) : ExtG p w (w.ghost p o) where
  len := Nat.le_refl _
  mp := fun _ _ => rfl
  keep := fun a u e _ => by show upd w.H p o a = some u; rw [upd_ne (ne_of_none e hp)]; exact e
  live := fun a u e n l => by
    rcases l with l | l
    · exact n (.inl l)
    · rcases l with l | l
      · exact n (.inr l)
      · rw [l, hp] at e; cases e
  gh := fun a => Iff.rfl
  fr := hp
theorem ghost_rel (r : Rel G w) {p : Addr} (hp : w.H p = none) (o : HO) : Rel G (w.ghost p o) where
  cell := fun i c e => (r.cell i c e).sub (ghost_ext r hp o).sub fun u q => by show upd w.H p o (w.mp i) = some u; rw [upd_ne (ne_of_none (show w.H (w.mp i) = some u from q) hp)]; exact q
  inj := r.inj
  ngh := fun i c e nd g => by
    rcases g with g | g
    · exact r.ngh i c e nd g
    · obtain ⟨o', h⟩ := r.at_some ⟨i, c, e, nd, rfl⟩
      rw [show w.mp i = p from g, hp] at h; cases h
  ghs := fun a g => by
    by_cases z : a = p
    · subst z; exact ⟨o, upd_same⟩
    · rcases g with g | g
      · obtain ⟨u, h⟩ := r.ghs a g
        exact ⟨u, by show upd w.H p o a = some u; rw [upd_ne z]; exact h⟩
      · exact absurd g z
/-- the ghost takes another object -/
def Wd.gput (u : Wd) (p : Addr) (o : HO) : Wd := { u with H := upd u.H p o }
theorem gput_sub {u : Wd} {p : Addr} {o : HO} (g : u.gh p) : Sub u (u.gput p o) :=
  ⟨Nat.le_refl _, fun _ _ => rfl, fun a x h n => by show upd u.H p o a = some x; rw [upd_ne (fun z => n (.inr (by rw [z]; exact g)))]; exact h, fun a x h n => n⟩
theorem gput_rel {u : Wd} {p : Addr} {o : HO} (r : Rel G u) (g : u.gh p) : Rel G (u.gput p o) where
  cell := fun i c e => by
    by_cases nd : c.Dead
    · cases c with
      | dead => trivial
      | _ => exact nd.elim
    · refine (r.cell i c e).sub (gput_sub g) fun x q => ?_
      show upd u.H p o (u.mp i) = some x
      rw [upd_ne (fun z => r.ngh i c e nd (by rw [z]; exact g))]; exact q
  inj := r.inj
  ngh := r.ngh
  ghs := fun a ga => by
    by_cases z : a = p
    · subst z; exact ⟨o, upd_same⟩
    · obtain ⟨x, h⟩ := r.ghs a ga
      exact ⟨x, by show upd u.H p o a = some x; rw [upd_ne z]; exact h⟩
theorem ExtG.gput {p : Addr} {u : Wd} {o : HO} (e : ExtG p w u) : ExtG p w (u.gput p o) where
  len := e.len
  mp := e.mp
  keep := fun a x h n => by show upd u.H p o a = some x; rw [upd_ne (ne_of_none h e.fr)]; exact e.keep a x h n
  live := e.live
  gh := e.gh
  fr := e.fr
/-- the list is done: a frozen one, or an own one -/
theorem ghost_done {p : Addr} {u : Wd} {c : Bool} {xs : List D} {vs : List V} {Q : VK} {W : PX} (rw_ : Rel G w) (e : ExtG p w u) (r : Rel G u) (hp : u.H p = some (.lst vs)) (rs : RPs G u xs vs) (h : Out G w W (PE1 G Q) (mkL c xs u.η).r) : Q (.ref p) u.H := by
  have gp : u.gh p := (e.gh p).mpr (.inr rfl)
  have nat : ¬ u.At p := fun ⟨i, cc, q, nd, m⟩ => r.ngh i cc q nd (by rw [m]; exact gp)
  have ngw : ¬ w.gh p := fun g => by
    obtain ⟨o, ho⟩ := rw_.ghs p g
    rw [e.fr] at ho; cases ho
  -- without the ghost
  let u1 : Wd := { u with gh := w.gh }
  have s1 : Sub u u1 := ⟨Nat.le_refl _, fun _ _ => rfl, fun a o h _ => h, fun a o h n l => n (l.imp id fun g => (e.gh a).mpr (.inl g))⟩
  have r1 : Rel G u1 := ⟨fun i cc q => (r.cell i cc q).sub s1 fun _ z => z, r.inj, fun i cc q nd g => r.ngh i cc q nd ((e.gh _).mpr (.inl g)), fun a g => r.ghs a ((e.gh a).mpr (.inl g))⟩
  have e1 : Ext w u1 := ⟨e.len, e.mp, e.keep, fun a o h n l => e.live a o h n (l.imp id fun g => (e.gh a).mpr (.inl g)), rfl⟩
  have nl : ¬ u1.Live p := fun l => l.elim nat ngw
  cases c with
  | false => exact h u1 rfl e1 r1 _ (.inl (.lst ⟨.inl hp, nl⟩ (rs.sub s1)))
  | true =>
    let u2 : Wd := { u1 with mp := fun i => if i = u1.η.length then p else u1.mp i, η := u1.η ++ [.lst xs] }
    have at2 : ∀ {i : Nat}, i < u1.η.length → u2.mp i = u1.mp i := fun {i} hi => by show (if i = u1.η.length then p else u1.mp i) = u1.mp i; rw [if_neg (Nat.ne_of_lt hi)]
    have new2 : u2.mp u1.η.length = p := by show (if u1.η.length = u1.η.length then p else u1.mp u1.η.length) = p; rw [if_pos rfl]
    have get2 : ∀ {i : Nat} {d : Cell}, u2.η[i]? = some d → (i < u1.η.length ∧ u1.η[i]? = some d) ∨ (i = u1.η.length ∧ d = .lst xs) := fun {i d} q => by
      have q' : (u1.η ++ [Cell.lst xs])[i]? = some d := q
      by_cases hi : i < u1.η.length
      · rw [List.getElem?_append_left hi] at q'; exact .inl ⟨hi, q'⟩
      · rw [List.getElem?_append_right (by omega)] at q'
        by_cases hz : i - u1.η.length = 0
        · rw [hz] at q'; simp at q'; exact .inr ⟨by omega, q'.symm⟩
        · rw [List.getElem?_eq_none (by simp; omega)] at q'; cases q'
    have live2 : ∀ a, a ≠ p → u2.Live a → u1.Live a := fun a na l => by
      rcases l with ⟨i, d, q, nd, m⟩ | g
      · rcases get2 q with ⟨hi, q⟩ | ⟨hi, _⟩
        · exact .inl ⟨i, d, q, nd, by rw [← at2 hi]; exact m⟩
        · subst hi; rw [new2] at m; exact absurd m.symm na
      · exact .inr g
    have lv : ∀ a, u2.Live a → u.Live a := fun a l => by
      by_cases z : a = p
      · rw [z]; exact Or.inr gp
      · rcases live2 a z l with k | k
        · exact Or.inl k
        · exact Or.inr ((e.gh a).mpr (.inl k))
    have e2 : Ext w u2 := ⟨Nat.le_trans e1.len (by show u1.η.length ≤ (u1.η ++ [Cell.lst xs]).length; simp), fun i hi => by rw [at2 (Nat.lt_of_lt_of_le hi e1.len)]; exact e1.mp i hi, e1.keep,
      fun a o h n l => e1.live a o h n (live2 a (ne_of_none h e.fr) l), rfl⟩
    -- p is in no value that was there: it is a ghost of u
    have su : Sub u u2 := ⟨by show u1.η.length ≤ (u1.η ++ [Cell.lst xs]).length; simp, fun i hi => at2 hi, fun a o h _ => h, fun a o h n l => n (lv a l)⟩
    have r2 : Rel G u2 := {
      cell := fun i d q => by
        rcases get2 q with ⟨hi, q⟩ | ⟨hi, ed⟩
        · rw [at2 hi]; exact (r.cell i d q).sub su fun _ z => z
        · subst hi; subst ed; rw [new2]; exact ⟨vs, hp, rs.sub su⟩
      inj := fun i j d d' q q' nd nd' m => by
        rcases get2 q with ⟨hi, q⟩ | ⟨hi, _⟩
        · rcases get2 q' with ⟨hj, q'⟩ | ⟨hj, _⟩
          · rw [at2 hi, at2 hj] at m; exact r1.inj i j d d' q q' nd nd' m
          · subst hj; rw [at2 hi, new2] at m; exact (nat ⟨i, d, q, nd, m⟩).elim
        · rcases get2 q' with ⟨hj, q'⟩ | ⟨hj, _⟩
          · subst hi; rw [at2 hj, new2] at m; exact (nat ⟨j, d', q', nd', m.symm⟩).elim
          · omega
      ngh := fun i d q nd g => by
        rcases get2 q with ⟨hi, q⟩ | ⟨hi, _⟩
        · rw [at2 hi] at g; exact r1.ngh i d q nd g
        · subst hi; rw [new2] at g; exact ngw g
      ghs := r1.ghs }
    refine h u2 rfl e2 r2 _ (.inr (.inl ⟨u1.η.length, rfl, ?_, ?_⟩))
    · show u1.η.length < (u1.η ++ [Cell.lst xs]).length; simp
    · rw [new2]
end
end Ip
namespace Ip
open PySem PySem.Spec PyProof.Rows L2

mutual
theorem same_eq : ∀ (x y : D), same x y = true → x = y
  | x, y, h => by
    cases x with
    | lst xs => cases y <;> simp only [same, reduceCtorEq] at h; rw [sames_eq _ _ h]
    | tup xs => cases y <;> simp only [same, reduceCtorEq] at h; rw [sames_eq _ _ h]
    | non => cases y <;> simp only [same, reduceCtorEq] at h; rfl
    | bl a => cases y <;> simp only [same, reduceCtorEq, beq_iff_eq] at h; rw [h]
    | int a => cases y <;> simp only [same, reduceCtorEq, eqI_eq, decide_eq_true_eq] at h; rw [h]
    | str a => cases y <;> simp only [same, reduceCtorEq, eqStr_eq, beq_iff_eq] at h; rw [h]
    | loc a => cases y <;> simp only [same, reduceCtorEq, beqN, decide_eq_true_eq] at h; rw [h]
    | fn a => cases y <;> simp only [same, reduceCtorEq, beqN, decide_eq_true_eq] at h; rw [h]
    | exc a b => cases y <;> simp only [same, reduceCtorEq] at h
theorem sames_eq : ∀ (xs ys : List D), sames xs ys = true → xs = ys
  | [], [], _ => rfl
  | [], _ :: _, h => by simp only [sames, reduceCtorEq] at h
  | _ :: _, [], h => by simp only [sames, reduceCtorEq] at h
  | x :: xs, y :: ys, h => by
    simp only [sames, Bool.and_eq_true] at h
    rw [same_eq x y h.1, sames_eq xs ys h.2]
end
theorem chk_app {g g' : Guard} {η : Hs} : chk (g ++ g') η = true → chk g η = true ∧ chk g' η = true := by
  induction g with
  | nil => exact fun h => ⟨rfl, h⟩
  | cons x r ih =>
    intro h
    simp only [List.cons_append, chk, Bool.and_eq_true] at h ⊢
    exact ⟨⟨h.1, (ih h.2).1⟩, (ih h.2).2⟩
/-- a list that is walked stands as it was -/
theorem lst_kept {G : Gx} {w w' : Wd} {d : D} {xs : List D} {v : V} (rel : Rel G w) (q : RV G w d v) (h : lstAt w.η d = some xs) (e : Sub w w') (rel' : Rel G w') (hc : chk (guardOf w.η d) w'.η = true) :
    ∃ a vs, v = .ref a ∧ LstR w' a vs ∧ RPs G w' xs vs := by
  have h' : lstAt w'.η d = some xs := by
    cases d with
    | lst ys => exact h
    | loc i =>
      simp only [lstAt] at h
      split at h
      · rename_i ys hη
        cases h
        simp only [guardOf, hη, chk, Bool.and_true] at hc
        split at hc
        · rename_i zs hz
          rw [sames_eq _ _ hc] at hz
          simp only [lstAt, hz]
        · cases hc
      · cases h
    | _ => cases h
  exact lst_of rel' (q.sub e) h'
/-- what an item is: a value; or (loose) a new tuple of values -/
def RI (G : Gx) (loose : Bool) (w : Wd) (d : D) (v : V) : Prop := (loose = false ∧ RV G w d v) ∨ (loose = true ∧ ∃ p vs ds, d = .tup ds ∧ v = .ref p ∧ w.H p = some (.tup vs) ∧ RPs G w ds vs)
/-- J walks xs, as long as the lists stand as they were -/
structure Yields (K : PySem.W.Frag) (G : Gx) (loose : Bool) (w0 : Wd) (J : L2.It) (xs : List D) (g : Guard) : Prop where
  go : ∀ w, Sub w0 w → Rel G w → chk g w.η = true → ∀ i, i < xs.length → J.go i w.H ∧ ∀ x H', J.yld i w.H x H' → ∃ w' d, w'.H = H' ∧ w'.η = w.η ∧ Ext w w' ∧ Rel G w' ∧ xs[i]? = some d ∧ RI G loose w' d x
  stop : ∀ w, Sub w0 w → Rel G w → chk g w.η = true → J.stop xs.length w.H
/-- its readings only look at the heap -/
def tIt (C : Ip.Cx) (G : Gx) (W : L2.WX) (K : PySem.W.Frag) (loose : Bool) (it : It) : TI := fun σ H R => ∃ env w, w.H = H ∧ Rel G w ∧ EnvR G w env σ ∧ Out G w (Wat W σ) (fun w1 r => ∀ J, Yields K G loose w1 J r.1 r.2 → R J w1.H) (evIt C it env w.η)
section
variable {X : L2.Cx} {C : Ip.Cx} {G : Gx} {W : L2.WX} {e a b d : E} {e' a' b' d' : Expr} {es : Es} {es' : List Expr} {pos p2 : Pos} {c : Bool} {tg : Expr}
theorem PIimp {t t' : TI} (h : PI X tg e' t) (k : ∀ σ H R, t' σ H R → t σ H R) : PI X tg e' t' := ⟨fun pins s σ H R I q => h.run pins s σ H R I (k σ H R q)⟩
theorem list_it {pins : List (Addr × Obj)} {σ : L2.St} {H : Hp} {s : Shared} {R : L2.It → Hp → Prop} {p : Addr} {vs : List V} (I : Inv X pins σ H s) (h : SqL X.K H p vs) (q : R (Itl X.K p) H) : wpAny (model X.prog X.w) X.A (pyIter (.ref p)) (PIE X pins σ tg R) X.xe s := by
  obtain ⟨its, rv, pl, hz⟩ := I.list h
  have J := Inv.kept (t' := s.toks) I (h' := s.heap.push { cls := .type "list_iterator", data := .fields #[.ref p, .int 0 0] }) fun b o e => Heap.get?_push_of_some _ e
  have fresh : FpOk X pins H s.heap.objs.size := I.fpOk (Nat.le_refl _) I.fresh
  exact wpAny_pyIter_list pl.isList ⟨s.heap.objs.size, [s.heap.objs.size], _, _, H, rfl, J, turn_list p _, ⟨_, Heap.get?_push_size _ rfl, rfl, rfl⟩, fun b hb => by rw [List.mem_singleton.mp hb]; exact fresh, q⟩
theorem tup_it {pins : List (Addr × Obj)} {σ : L2.St} {H : Hp} {s : Shared} {R : L2.It → Hp → Prop} {p : Addr} {vs : List V} (I : Inv X pins σ H s) (h : SqT X.K H p vs) (q : R (Itt X.K p) H) : wpAny (model X.prog X.w) X.A (pyIter (.ref p)) (PIE X pins σ tg R) X.xe s := by
  obtain ⟨its, rv, pl, hz⟩ := I.tuple h
  have J := Inv.kept (t' := s.toks) I (h' := s.heap.push { cls := .type "tuple_iterator", data := .fields #[.ref p, .int 0 0] }) fun b o e => Heap.get?_push_of_some _ e
  have fresh : FpOk X pins H s.heap.objs.size := I.fpOk (Nat.le_refl _) I.fresh
  exact wpAny_pyIter_tuple (show s.heap.IsTuple p its.toArray from pl) ⟨s.heap.objs.size, [s.heap.objs.size], _, _, H, rfl, J, turn_tuple p _, ⟨_, Heap.get?_push_size _ rfl, rfl, rfl⟩, fun b hb => by rw [List.mem_singleton.mp hb]; exact fresh, q⟩
/-- lists that may be read are one list -/
theorem sqL_one {K : PySem.W.Frag} {w : Wd} {p : Addr} {vs us : List V} (h : LstR w p vs) (k : SqL K w.H p us) (nk : ∀ o, K.lookup p = some o → w.H p = none) : us = vs := by
  rcases k with (k | ⟨o, k⟩) | ⟨o, its, n, e, _⟩
  · rcases h with h | ⟨o', h⟩
    · rw [h] at k; cases k; rfl
    · rw [h] at k; cases k
  · rcases h with h | ⟨o', h⟩
    · rw [h] at k; cases k
    · rw [h] at k; cases k; rfl
  · have := nk o e
    rcases h with h | ⟨o', h⟩ <;> rw [this] at h <;> cases h
theorem yields_lst {K : PySem.W.Frag} {w : Wd} {d : D} {xs : List D} {v : V} (hK : K = G.K) (rel : Rel G w) (q : RV G w d v) (h : lstAt w.η d = some xs) : ∃ a vs, v = .ref a ∧ SqL K w.H a vs ∧ Yields K G false w (Itl K a) xs (guardOf w.η d) := by
  subst hK
  obtain ⟨a, vs, rfl, l, rs⟩ := lst_of rel q h
  have again : ∀ w', Sub w w' → Rel G w' → chk (guardOf w.η d) w'.η = true → ∃ us, SqL G.K w'.H a us ∧ RPs G w' xs us := fun w' e r c => by
    obtain ⟨a', us, ea, l', rs'⟩ := lst_kept rel q h e r c
    cases ea
    exact ⟨us, l'.sq, rs'⟩
  refine ⟨a, vs, rfl, l.sq, ⟨fun w' e r c i hi => ?_, fun w' e r c => ?_⟩⟩
  · obtain ⟨us, sq, rs'⟩ := again w' e r c
    have hu : us[i]? = some (us[i]'(by rw [← rs'.length]; exact hi)) := List.getElem?_eq_getElem _
    refine ⟨⟨us, _, sq, hu⟩, fun x H' y => ?_⟩
    obtain ⟨rfl, hy⟩ := y
    have hx := hy us sq
    obtain ⟨dd, hd, rd⟩ := rs'.get' hx
    exact ⟨w', dd, rfl, rfl, Ext.refl w', r, hd, .inl ⟨rfl, .inl rd⟩⟩
  · obtain ⟨us, sq, rs'⟩ := again w' e r c
    exact ⟨us, sq, by rw [rs'.length]; exact Nat.le_refl _⟩
theorem yields_tup {K : PySem.W.Frag} {w : Wd} {xs : List D} {v : V} {g : Guard} (hK : K = G.K) (rel : Rel G w) (q : RV G w (.tup xs) v) : ∃ a vs, v = .ref a ∧ SqT K w.H a vs ∧ Yields K G false w (Itt K a) xs g := by
  subst hK
  obtain ⟨a, vs, rfl, t, rs⟩ := q.tup
  refine ⟨a, vs, rfl, t.sq, ⟨fun w' e r c i hi => ?_, fun w' e r c => ?_⟩⟩
  · have hu : vs[i]? = some (vs[i]'(by rw [← rs.length]; exact hi)) := List.getElem?_eq_getElem _
    refine ⟨⟨vs, _, (t.sub e).sq, hu⟩, fun x H' y => ?_⟩
    obtain ⟨rfl, hy⟩ := y
    have hx := hy vs (t.sub e).sq
    obtain ⟨dd, hd, rd⟩ := rs.get' hx
    exact ⟨w', dd, rfl, rfl, Ext.refl w', r, hd, .inl ⟨rfl, .inl (rd.sub e)⟩⟩
  · exact ⟨vs, (t.sub e).sq, by rw [rs.length]; exact Nat.le_refl _⟩
theorem nd_itof (hK : X.K = G.K) (ha : PE X a' (tE C G W a)) : PI X tg a' (tIt C G W X.K false (.of a)) := ⟨fun pins s σ H R I ⟨env, w, hw, rel, er, h⟩ => by
  subst hw
  unfold evIt at h
  have run := ha.run pins s σ w.H (fun v H1 => ∃ w1 d1 xs, w1.H = H1 ∧ Rel G w1 ∧ RV G w1 d1 v ∧ walk w1.η d1 = some xs ∧ ∀ J, Yields X.K G false w1 J xs (guardOf w1.η d1) → R J w1.H) I ⟨env, w, rfl, rel, er, h.bind.mono fun w1 d1 e1 r1 h1 v1 q1 => by
    split at h1
    · rename_i xs hx
      exact ⟨w1, d1, xs, rfl, r1, q1, hx, h1 w1 rfl (Ext.refl w1) r1⟩
    · exact h1.elim⟩
  refine thn run fun v s1 ⟨x, H1, I1, rx, w1, d1, xs, hH, r1, q1, hx, k⟩ => ?_
  subst hH
  have lists : lstAt w1.η d1 = some xs → wpAny (model X.prog X.w) X.A (pyIter v) (PIE X pins σ tg R) X.xe s1 := fun hl => by
    obtain ⟨p, vs, rfl, sq, Y⟩ := yields_lst hK r1 q1 hl
    cases rx
    exact list_it I1 sq (k _ Y)
  cases d1 with
  | tup ys =>
    cases hx
    obtain ⟨p, vs, rfl, sq, Y⟩ := yields_tup hK r1 q1
    cases rx
    exact tup_it I1 sq (k _ Y)
  | _ => exact lists hx⟩
/-! range -/
theorem rngL_get : ∀ (n : Nat) (i st : Int) (k : Nat), k < n → (rngL n i st)[k]? = some (.int (i + k * st))
  | n + 1, i, st, 0, _ => by simp [rngL, forceI_eq]
  | n + 1, i, st, k + 1, h => by
    rw [rngL, forceI_eq, List.getElem?_cons_succ, rngL_get n (i + st) st k (by omega)]
    congr 2
    push_cast
    rw [Int.add_mul]; omega
theorem rngL_len : ∀ (n : Nat) (i st : Int), (rngL n i st).length = n
  | 0, _, _ => rfl
  | n + 1, i, st => by rw [rngL, forceI_eq, List.length_cons, rngL_len n]
theorem yields_rng {K : PySem.W.Frag} {w : Wd} {n : Nat} {lo : Int} {g : Guard} : Yields K G false w (Itr lo n) (rngL n lo 1) g where
  go := fun w' e r c i hi => by
    rw [rngL_len] at hi
    refine ⟨hi, fun x H' y => ?_⟩
    obtain ⟨rfl, rfl⟩ := y
    refine ⟨w', .int (lo + i), rfl, rfl, Ext.refl w', r, ?_, .inl ⟨rfl, .inl (.int _)⟩⟩
    rw [rngL_get n lo 1 i hi, Int.mul_one]
  stop := fun w' e r c => by rw [rngL_len]; exact Nat.le_refl n
theorem nd_rng1 {p3 : Pos} (hg : Gl X "range") (hm : X.mg "range" = none) (hn : notStar a' = true) (ha : PE X a' (tE C G W a)) : PI X tg (.Call (.Name "range" p2) [a'] [] pos) (tIt C G W X.K false (.rng (.cons a .nil))) := by
  have ns : noStars [a'] = true := by show (notStar a' && true) = true; rw [hn]; rfl
  refine PIimp (pi_range1 hg hm (pa_cons ha pa_nil (star_head ns)) (star_head ns)) fun σ H R ⟨env, w, hw, rel, er, h⟩ => ?_
  subst hw
  unfold evIt at h
  unfold evEs at h
  refine ⟨env, w, rfl, rel, er, h.bind.bind.mono fun w1 d1 e1 r1 h1 v1 q1 => ?_⟩
  unfold evEs at h1
  have h2 := h1 w1 rfl (Ext.refl w1) r1
  dsimp only at h2
  split at h2
  · rename_i ys hy
    unfold rngItems at hy
    split at hy
    · rename_i j hj
      cases hj
      split at hy
      · rename_i k
        cases hy
        rw [bltN, decide_eq_true_eq] at k
        cases q1.int
        exact ⟨j, rfl, by omega, by omega, h2 w1 rfl (Ext.refl w1) r1 _ yields_rng⟩
      · cases hy
    · rename_i hj
      cases hj
    · rename_i hj
      cases hj
    · cases hy
  · exact h2.elim
theorem nd_rng2 {p3 : Pos} (hg : Gl X "range") (hm : X.mg "range" = none) (hn : notStar a' = true) (hn2 : notStar b' = true) (ha : PE X a' (tE C G W a)) (hb : PE X b' (tE C G W b)) : PI X tg (.Call (.Name "range" p2) [a', b'] [] pos) (tIt C G W X.K false (.rng (.cons a (.cons b .nil)))) := by
  have ns2 : noStars [b'] = true := by show (notStar b' && true) = true; rw [hn2]; rfl
  have ns : noStars [a', b'] = true := by show (notStar a' && (notStar b' && true)) = true; rw [hn, hn2]; rfl
  have s1 : starEach [b'] X.env = [(false, eval b' X.env)] := star_head ns2
  have s2 : starEach [a', b'] X.env = [(false, eval a' X.env), (false, eval b' X.env)] := by rw [star_head ns, s1]
  refine PIimp (pi_range2 hg hm (pa_cons ha (pa_cons hb pa_nil (star_head ns2)) (star_head ns)) s2 s1) fun σ H R ⟨env, w, hw, rel, er, h⟩ => ?_
  subst hw
  unfold evIt at h
  unfold evEs at h
  refine ⟨env, w, rfl, rel, er, h.bind.bind.mono fun w1 d1 e1 r1 h1 v1 q1 => ?_⟩
  unfold evEs at h1
  refine ⟨env, w1, rfl, r1, er.mono e1, h1.bind.bind.mono fun w2 d2 e2 r2 h2 v2 q2 => ?_⟩
  unfold evEs at h2
  have h3 := (h2 w2 rfl (Ext.refl w2) r2) w2 rfl (Ext.refl w2) r2
  dsimp only at h3
  split at h3
  · rename_i ys hy
    unfold rngItems at hy
    split at hy
    · rename_i hj
      cases hj
    · rename_i i j hj
      cases hj
      split at hy
      · rename_i k
        cases hy
        simp only [bltN, Bool.and_eq_true, decide_eq_true_eq] at k
        cases q1.int; cases q2.int
        exact ⟨i, j, rfl, by omega, h3 w2 rfl (Ext.refl w2) r2 _ yields_rng⟩
      · cases hy
    · rename_i hj
      cases hj
    · cases hy
  · exact h3.elim
theorem rgc_of {i j c : Int} (hi : i.natAbs < 1073741824) (hj : j.natAbs < 1073741824) (h0 : 0 < c) (hc : c.natAbs < 1073741824) : RgC i j c (rng3n i j c) := by
  have q0 : i < j → 0 ≤ (j - i - 1) / c := fun h => Int.ediv_nonneg (by omega) (by omega)
  have q1 : i < j → (j - i - 1) / c ≤ j - i - 1 := fun h => Int.ediv_le_self _ (by omega)
  have rs : Builtin.Range.rangeSize i j c = (rng3n i j c : Int) := by
    unfold Builtin.Range.rangeSize rng3n
    rw [if_pos h0, ltI_eq]
    by_cases h : i < j
    · rw [if_pos h, decide_eq_true h]
      have := q0 h
      show _ = (((j - i - 1) / c + 1).toNat : Int)
      omega
    · rw [if_neg h, decide_eq_false h]; rfl
  refine ⟨by omega, hc, ?_, rs⟩
  unfold Builtin.Range.small
  rw [rs]
  have n1 : rng3n i j c < 4294967296 := by
    unfold rng3n
    rw [ltI_eq]
    by_cases h : i < j
    · rw [decide_eq_true h]
      have := q0 h; have := q1 h
      show ((j - i - 1) / c + 1).toNat < _
      omega
    · rw [decide_eq_false h]; show 0 < _; omega
  have n2 : i < j → (rng3n i j c : Int) ≤ j - i := fun h => by
    unfold rng3n
    rw [ltI_eq, decide_eq_true h]
    have := q0 h; have := q1 h
    show (((j - i - 1) / c + 1).toNat : Int) ≤ _
    omega
  generalize rng3n i j c = m at n1 n2 ⊢
  rw [if_pos (show c > 0 from h0)]
  simp only [Builtin.Range.rangeFitsLong, Bool.and_eq_true, Bool.or_eq_true, decide_eq_true_eq, beq_iff_eq]
  omega
theorem yields_rngC {K : PySem.W.Frag} {w : Wd} {n : Nat} {lo c : Int} {g : Guard} : Yields K G false w (Itc lo c n) (rngL n lo c) g where
  go := fun w' e r c' i hi => by
    rw [rngL_len] at hi
    refine ⟨hi, fun x H' y => ?_⟩
    obtain ⟨rfl, rfl⟩ := y
    exact ⟨w', .int (lo + i * c), rfl, rfl, Ext.refl w', r, rngL_get n lo c i hi, .inl ⟨rfl, .inl (.int _)⟩⟩
  stop := fun w' e r c' => by rw [rngL_len]; exact Nat.le_refl n
theorem nd_rng3 {c : E} {c' : Expr} {p3 : Pos} (hg : Gl X "range") (hm : X.mg "range" = none) (hn : notStar a' = true) (hn2 : notStar b' = true) (hn3 : notStar c' = true) (ha : PE X a' (tE C G W a)) (hb : PE X b' (tE C G W b)) (hc : PE X c' (tE C G W c)) :
    PI X tg (.Call (.Name "range" p2) [a', b', c'] [] pos) (tIt C G W X.K false (.rng (.cons a (.cons b (.cons c .nil))))) := by
  have ns3 : noStars [c'] = true := by show (notStar c' && true) = true; rw [hn3]; rfl
  have ns2 : noStars [b', c'] = true := by show (notStar b' && (notStar c' && true)) = true; rw [hn2, hn3]; rfl
  have ns : noStars [a', b', c'] = true := by show (notStar a' && (notStar b' && (notStar c' && true))) = true; rw [hn, hn2, hn3]; rfl
  refine PIimp (pi_range3 hg hm (pa_cons ha (pa_cons hb (pa_cons hc pa_nil (star_head ns3)) (star_head ns2)) (star_head ns)) (star_head ns) (star_tail ns)) fun σ H R ⟨env, w, hw, rel, er, h⟩ => ?_
  subst hw
  unfold evIt at h
  unfold evEs at h
  refine ⟨env, w, rfl, rel, er, h.bind.bind.mono fun w1 d1 e1 r1 h1 v1 q1 => ?_⟩
  unfold evEs at h1
  refine ⟨env, w1, rfl, r1, er.mono e1, h1.bind.bind.mono fun w2 d2 e2 r2 h2 v2 q2 => ?_⟩
  unfold evEs at h2
  refine ⟨env, w2, rfl, r2, (er.mono e1).mono e2, h2.bind.bind.mono fun w3 d3 e3 r3 h3 v3 q3 => ?_⟩
  unfold evEs at h3
  have h4 := ((h3 w3 rfl (Ext.refl w3) r3) w3 rfl (Ext.refl w3) r3) w3 rfl (Ext.refl w3) r3
  dsimp only at h4
  split at h4
  · rename_i ys hy
    unfold rngItems at hy
    split at hy
    · rename_i hj
      cases hj
    · rename_i hj
      cases hj
    · rename_i i j k hj
      cases hj
      split at hy
      · rename_i kk
        cases hy
        rw [Bool.and_eq_true, Bool.and_eq_true, Bool.and_eq_true, bltN, bltN, bltN, ltI_eq, decide_eq_true_eq, decide_eq_true_eq, decide_eq_true_eq, decide_eq_true_eq] at kk
        obtain ⟨⟨⟨k1, k2⟩, k3⟩, k4⟩ := kk
        cases q1.int; cases q2.int; cases q3.int
        exact ⟨i, j, k, _, rfl, rgc_of k1 k2 k3 k4, h4 w3 rfl (Ext.refl w3) r3 _ yields_rngC⟩
      · cases hy
    · cases hy
  · exact h4.elim
/-! zip, enumerate -/
theorem zipD_len : ∀ xs ys : List D, (zipD xs ys).length = min xs.length ys.length
  | [], ys => by simp [zipD]
  | _ :: _, [] => by simp [zipD]
  | x :: xs, y :: ys => by rw [zipD, List.length_cons, zipD_len xs ys]; simp only [List.length_cons]; omega
theorem zipD_get : ∀ (xs ys : List D) (i : Nat) (x y : D), xs[i]? = some x → ys[i]? = some y → (zipD xs ys)[i]? = some (.tup [x, y])
  | [], _, _, _, _, h, _ => by simp at h
  | _ :: _, [], _, _, _, _, h => by simp at h
  | x :: xs, y :: ys, 0, a, b, h, k => by simp at h k; subst h; subst k; simp [zipD]
  | x :: xs, y :: ys, i + 1, a, b, h, k => by simp at h k; rw [zipD, List.getElem?_cons_succ]; exact zipD_get xs ys i a b h k
theorem enumD_len : ∀ (n : Nat) (xs : List D), (enumD n xs).length = xs.length
  | _, [] => rfl
  | n, x :: xs => by rw [enumD, List.length_cons, enumD_len (n + 1) xs, List.length_cons]
theorem enumD_get : ∀ (n : Nat) (xs : List D) (i : Nat) (x : D), xs[i]? = some x → (enumD n xs)[i]? = some (.tup [.int (.ofNat (n + i)), x])
  | _, [], _, _, h => by simp at h
  | n, x :: xs, 0, a, h => by simp at h; subst h; simp [enumD]
  | n, x :: xs, i + 1, a, h => by
    simp at h
    rw [enumD, List.getElem?_cons_succ, enumD_get (n + 1) xs i a h]
    rw [Nat.add_right_comm, Nat.add_assoc]
theorem loose_item {w : Wd} {p : Addr} {x y : D} {vx vy : V} (rel : Rel G w) (hp : w.H p = none) (rx : RP G w x vx) (ry : RP G w y vy) : ∃ w', w'.H = upd w.H p (.tup [vx, vy]) ∧ w'.η = w.η ∧ Ext w w' ∧ Rel G w' ∧ RI G true w' (.tup [x, y]) (.ref p) :=
  ⟨w.lay p (.tup [vx, vy]), rfl, rfl, Ext.lay rel hp _, rel.lay hp _, .inr ⟨rfl, p, [vx, vy], [x, y], rfl, rfl, upd_same, .cons (rx.mono (Ext.lay rel hp _)) (.cons (ry.mono (Ext.lay rel hp _)) .nil)⟩⟩
theorem yields_zip {K : PySem.W.Frag} {w : Wd} {x y : D} {xs ys : List D} {v u : V} (hK : K = G.K) (rel : Rel G w) (q : RV G w x v) (q' : RV G w y u) (h : lstAt w.η x = some xs) (h' : lstAt w.η y = some ys) :
    ∃ a b vs us, v = .ref a ∧ u = .ref b ∧ SqL K w.H a vs ∧ SqL K w.H b us ∧ Yields K G true w (Itz K a b) (zipD xs ys) (guardOf w.η x ++ guardOf w.η y) := by
  subst hK
  obtain ⟨a, vs, rfl, l, rs⟩ := lst_of rel q h
  obtain ⟨b, us, rfl, l', rs'⟩ := lst_of rel q' h'
  have again : ∀ w', Sub w w' → Rel G w' → chk (guardOf w.η x ++ guardOf w.η y) w'.η = true → ∃ zs ts, SqL G.K w'.H a zs ∧ SqL G.K w'.H b ts ∧ RPs G w' xs zs ∧ RPs G w' ys ts := fun w' e r c => by
    obtain ⟨c1, c2⟩ := chk_app c
    obtain ⟨a', zs, ea, k1, k2⟩ := lst_kept rel q h e r c1
    obtain ⟨b', ts, eb, k3, k4⟩ := lst_kept rel q' h' e r c2
    cases ea; cases eb
    exact ⟨zs, ts, k1.sq, k3.sq, k2, k4⟩
  refine ⟨a, b, vs, us, rfl, rfl, l.sq, l'.sq, ⟨fun w' e r c i hi => ?_, fun w' e r c => ?_⟩⟩
  · obtain ⟨zs, ts, k1, k2, k3, k4⟩ := again w' e r c
    rw [zipD_len] at hi
    have hz : zs[i]? = some (zs[i]'(by rw [← k3.length]; omega)) := List.getElem?_eq_getElem _
    have ht : ts[i]? = some (ts[i]'(by rw [← k4.length]; omega)) := List.getElem?_eq_getElem _
    refine ⟨⟨zs, ts, _, _, k1, k2, hz, ht⟩, fun o H' yy => ?_⟩
    obtain ⟨T, vx, vy, rfl, hT, rfl, f1, f2⟩ := yy
    obtain ⟨dx, hdx, rx⟩ := k3.get' (f1 zs k1)
    obtain ⟨dy, hdy, ry⟩ := k4.get' (f2 ts k2)
    obtain ⟨w2, e1, e2, e3, e4, e5⟩ := loose_item r hT rx ry
    exact ⟨w2, _, e1, e2, e3, e4, zipD_get xs ys i dx dy hdx hdy, e5⟩
  · obtain ⟨zs, ts, k1, k2, k3, k4⟩ := again w' e r c
    exact ⟨zs, ts, k1, k2, by rw [zipD_len, k3.length, k4.length]; omega⟩
theorem yields_zipT {K : PySem.W.Frag} {w : Wd} {xs ys : List D} {v u : V} {g : Guard} (hK : K = G.K) (rel : Rel G w) (q : RV G w (.tup xs) v) (q' : RV G w (.tup ys) u) :
    ∃ a b vs us, v = .ref a ∧ u = .ref b ∧ SqT K w.H a vs ∧ SqT K w.H b us ∧ Yields K G true w (RZ.ItzT K a b) (zipD xs ys) g := by
  subst hK
  obtain ⟨a, vs, rfl, l, k3⟩ := q.tup
  obtain ⟨b, us, rfl, l', k4⟩ := q'.tup
  refine ⟨a, b, vs, us, rfl, rfl, l.sq, l'.sq, ⟨fun w' e r c i hi => ?_, fun w' e r c => ?_⟩⟩
  · rw [zipD_len] at hi
    have hz : vs[i]? = some (vs[i]'(by rw [← k3.length]; omega)) := List.getElem?_eq_getElem _
    have ht : us[i]? = some (us[i]'(by rw [← k4.length]; omega)) := List.getElem?_eq_getElem _
    refine ⟨⟨vs, us, _, _, (l.sub e).sq, (l'.sub e).sq, hz, ht⟩, fun o H' yy => ?_⟩
    obtain ⟨T, vx, vy, rfl, hT, rfl, f1, f2⟩ := yy
    obtain ⟨dx, hdx, rx⟩ := k3.get' (f1 vs (l.sub e).sq)
    obtain ⟨dy, hdy, ry⟩ := k4.get' (f2 us (l'.sub e).sq)
    obtain ⟨w2, e1, e2, e3, e4, e5⟩ := loose_item r hT (rx.sub e) (ry.sub e)
    exact ⟨w2, _, e1, e2, e3, e4, zipD_get xs ys i dx dy hdx hdy, e5⟩
  · exact ⟨vs, us, (l.sub e).sq, (l'.sub e).sq, by rw [zipD_len, k3.length, k4.length]; omega⟩
end
end Ip
/-! zip of a list with a tuple, of a tuple with a list; enumerate of a tuple -/
namespace Ip
open PySem PySem.Spec PyProof.Rows L2
def SqB (c : Bool) (K : PySem.W.Frag) (H : Hp) (a : Addr) (xs : List V) : Prop := match c with
  | true => SqT K H a xs
  | false => SqL K H a xs
def ItB (c : Bool) (h : Heap) (it l : Addr) (i : Nat) : Prop := match c with
  | true => h.IsTupleIter it l i
  | false => h.IsListIter it l i
def HsB (c : Bool) (h : Heap) (l : Addr) (items : Array Value) : Prop := match c with
  | true => h.IsTuple l items
  | false => h.IsList l items
theorem ItB.obj {c : Bool} {h : Heap} {it l : Addr} {i : Nat} (x : ItB c h it l i) : ∃ o, h.get? it = some o ∧ ∀ v, o.data ≠ .cell v := by
  cases c with
  | true => obtain ⟨o, e, _, d⟩ := (show h.IsTupleIter it l i from x); exact ⟨o, e, fun v q => by rw [d] at q; cases q⟩
  | false => obtain ⟨o, e, _, d⟩ := (show h.IsListIter it l i from x); exact ⟨o, e, fun v q => by rw [d] at q; cases q⟩
theorem ItB.at {c : Bool} {h h' : Heap} {it l : Addr} {i : Nat} (x : ItB c h it l i) (k : ∀ o, h.get? it = some o → h'.get? it = some o) : ItB c h' it l i := by
  cases c with
  | true => exact Heap.IsTupleIter.at (show h.IsTupleIter it l i from x) k
  | false => exact Heap.IsListIter.at (show h.IsListIter it l i from x) k
theorem drawsB {prog : Program} {w : World} {A : Around} (c : Bool) (hh : A.handled = none) (it l : Addr) (hne : l ≠ it) (items : Array Value) :
    Draws prog w A it [it, l] items.size (fun i v => items[i]? = some v) (fun i h => ItB c h it l i ∧ HsB c h l items) := by
  cases c with
  | true => exact Draws.tuple hh it l hne items
  | false => exact Draws.list hh it l hne items
theorem sqB_at {X : L2.Cx} {pins : List (Addr × Obj)} {σ : L2.St} {H : Hp} {s : Shared} {c : Bool} {l : Addr} {xs : List V} (I : Inv X pins σ H s) (h : SqB c X.K H l xs) : ∃ its : List Value, Vals xs its ∧ HsB c s.heap l its.toArray := by
  cases c with
  | true => obtain ⟨its, r, p, _⟩ := I.tuple (show SqT X.K H l xs from h); exact ⟨its, r, p⟩
  | false => obtain ⟨its, r, p, _⟩ := I.list (show SqL X.K H l xs from h); exact ⟨its, r, p.isList⟩
theorem sqB_inj {X : L2.Cx} {pins : List (Addr × Obj)} {σ : L2.St} {H : Hp} {s : Shared} {c : Bool} {l : Addr} {xs ys : List V} (I : Inv X pins σ H s) (h : SqB c X.K H l xs) (h' : SqB c X.K H l ys) : xs = ys := by
  cases c with
  | true => exact I.tuple_inj h h'
  | false => exact I.list_inj h h'
theorem HsB.lt {c : Bool} {h : Heap} {l : Addr} {items : Array Value} (x : HsB c h l items) : l < h.objs.size := by
  cases c with
  | true => obtain ⟨o, e, _⟩ := (show h.IsTuple l items from x); exact Heap.lt_size e
  | false => obtain ⟨o, e, _⟩ := (show h.IsList l items from x); exact Heap.lt_size e
/-- what is at a and at b, at each turn, the items in new pairs -/
def ItzM (c d : Bool) (K : PySem.W.Frag) (a b : Addr) : L2.It :=
  ⟨fun i H => ∃ (xs ys : List V) (x y : V), SqB c K H a xs ∧ SqB d K H b ys ∧ xs[i]? = some x ∧ ys[i]? = some y,
    fun i H v H' => ∃ T x y, v = .ref T ∧ H T = none ∧ H' = upd H T (.tup [x, y]) ∧ (∀ xs, SqB c K H a xs → xs[i]? = some x) ∧ ∀ ys, SqB d K H b ys → ys[i]? = some y,
    fun i H => ∃ xs ys : List V, SqB c K H a xs ∧ SqB d K H b ys ∧ i = min xs.length ys.length⟩
theorem turn_zipM {P : Program} {w : World} {K : PySem.W.Frag} {elts : List Expr} {kk : Nat} {tpos : Pos} {c d : Bool} {a b z TI TO i1 i2 : Addr} (S : ZipSep2 z TI TO i1 i2 [i1, a] [i2, b]) (ne1 : a ≠ i1) (ne2 : b ≠ i2) :
    Turn P w K (.Tuple elts kk tpos) (ItzM c d K a b) [z, TI, TO, i1, i2] z (fun i h => IsZip h z TI TO .none ∧ IsPair h TI (.ref i1) (.ref i2) ∧ (∃ x y, IsPair h TO x y) ∧ ItB c h i1 a i ∧ ItB d h i2 b i) where
  mem := by simp
  obj := fun i h st c hc => by
    obtain ⟨hz, hTI, ⟨x, y, hTO⟩, h1, h2⟩ := st
    have e' : c = z ∨ c = TI ∨ c = TO ∨ c = i1 ∨ c = i2 := by simpa using hc
    rcases e' with q | q | q | q | q
    · rw [q]; exact ⟨_, hz, fun v q => nomatch q⟩
    · rw [q]; exact ⟨_, hTI, fun v q => nomatch q⟩
    · rw [q]; exact ⟨_, hTO, fun v q => nomatch q⟩
    · rw [q]; exact h1.obj
    · rw [q]; exact h2.obj
  keep := fun i h h' st k => by
    obtain ⟨hz, hTI, ⟨x, y, hTO⟩, h1, h2⟩ := st
    exact ⟨k z (by simp) _ hz, k TI (by simp) _ hTI, ⟨x, y, k TO (by simp) _ hTO⟩, h1.at fun o q => k i1 (by simp) o q, h2.at fun o q => k i2 (by simp) o q⟩
  item := by
    intro X hP hw hK hc i pins s σ H E I hf st hg
    subst hP hw hK
    obtain ⟨hz, hTI, ⟨x0, y0, hTO⟩, h1, h2⟩ := st
    obtain ⟨xs, ys, x, y, hqx, hqy, hx, hy⟩ := hg
    obtain ⟨its, rv, p⟩ := sqB_at I hqx
    obtain ⟨its2, rv2, p2⟩ := sqB_at I hqy
    obtain ⟨u, hu, ru⟩ := rv.get hx
    obtain ⟨u2, hu2, ru2⟩ := rv2.get hy
    have hh : X.A.in1.handled = none := I.ok.hd hc
    have hzl : z < s.heap.objs.size := Heap.lt_size hz
    have l1 : i < its.toArray.size := by rw [List.size_toArray]; exact (List.getElem?_eq_some_iff.mp hu).1
    have l2 : i < its2.toArray.size := by rw [List.size_toArray]; exact (List.getElem?_eq_some_iff.mp hu2).1
    refine wpAny_pyNext_zipD2_item S (drawsB c hh i1 a ne1 its.toArray) (drawsB d hh i2 b ne2 its2.toArray) hz hTI hTO ⟨h1, p⟩ ⟨h2, p2⟩ l1 l2 fun x1 x2 h' tk e1 e2 z' TO' h1' h2' hT hsz hk => ?_
    have e1 : its[i]? = some x1 := by simpa using e1
    have e2 : its2[i]? = some x2 := by simpa using e2
    rw [hu] at e1
    rw [hu2] at e2
    cases e1; cases e2
    refine ⟨_, rfl, wpAny_letOwnedTupleGo_zip (s := { s with heap := h', toks := tk }) z' fun h'' z'' sb => ?_⟩
    have hT2 : h''.get? s.heap.objs.size = some { cls := .type "tuple", data := .seq #[u, u2] } := (sb.2 _ (Nat.ne_of_gt hzl)).trans hT
    have new : ObjOk X.prog X.w (upd H s.heap.objs.size (.tup [x, y])) h'' s.heap.objs.size (.tup [x, y]) :=
      ⟨by show 2 ≤ sizeLine; decide, [u, u2], .cons ru (.cons ru2 .nil), ⟨_, hT2, rfl, _, rfl⟩⟩
    have I1 : Inv X pins σ (upd H s.heap.objs.size (.tup [x, y])) { s with heap := h'', toks := tk } :=
      I.turnedNew (t' := tk) (ch := [z, TI, TO, i1, i2]) (fun c o hb q => (sb.2 c (fun q' => hb (by simp [q']))).trans (hk c o (fun q' => hb (by simp [q'])) (fun q' => hb (by simp [q'])) (fun q' => hb (by simp [q'])) (fun q' => hb (by simp [q'])) q)) hf (Nat.le_refl _) new
    refine ⟨.ref s.heap.objs.size, _, I1, rfl, ⟨_, x, y, rfl, I.hok.fresh (Nat.le_refl _), rfl, fun l hl => by rw [sqB_inj I hl hqx]; exact hx, fun l hl => by rw [sqB_inj I hl hqy]; exact hy⟩, ⟨z'', ?_, ⟨u, u2, ?_⟩, ?_, ?_⟩, fun c hcm => ?_⟩
    · exact (sb.2 _ S.TIz).trans (hk _ _ S.TIz S.TITO S.TIi1 S.TIi2 hTI)
    · exact (sb.2 _ S.TOz).trans TO'
    · exact h1'.1.at fun o q => (sb.2 _ S.zi1.symm).trans q
    · exact h2'.1.at fun o q => (sb.2 _ S.zi2.symm).trans q
    · have hlt : c < s.heap.objs.size := by
        have e' : c = z ∨ c = TI ∨ c = TO ∨ c = i1 ∨ c = i2 := by simpa using hcm
        rcases e' with q | q | q | q | q
        · rw [q]; exact hzl
        · rw [q]; exact Heap.lt_size hTI
        · rw [q]; exact Heap.lt_size hTO
        · rw [q]; obtain ⟨_, e1, _⟩ := h1.obj; exact Heap.lt_size e1
        · rw [q]; obtain ⟨_, e2, _⟩ := h2.obj; exact Heap.lt_size e2
      rw [upd_ne (Nat.ne_of_lt hlt)]
      exact (hf c hcm).1
  done := by
    intro X hP hw hK hc i pins s σ H E I hf st hg
    subst hP hw hK
    obtain ⟨hz, hTI, ⟨x0, y0, hTO⟩, h1, h2⟩ := st
    obtain ⟨xs, ys, hqx, hqy, hend⟩ := hg
    obtain ⟨its, rv, p⟩ := sqB_at I hqx
    obtain ⟨its2, rv2, p2⟩ := sqB_at I hqy
    have hh : X.A.in1.handled = none := I.ok.hd hc
    have l1 : its.toArray.size = xs.length := by rw [List.size_toArray, rv.length]
    have l2 : its2.toArray.size = ys.length := by rw [List.size_toArray, rv2.length]
    exact wpAny_pyNext_zipD2_end S (drawsB c hh i1 a ne1 its.toArray) (drawsB d hh i2 b ne2 its2.toArray) hz hTI hTO ⟨h1, p⟩ ⟨h2, p2⟩ (by omega) (by omega) (by omega) fun h' tk hk => ⟨rfl, I.turnedL (t' := tk) (ch := [z, TI, TO, i1, i2]) (fun c o hb q =>
      hk c o (fun q' => hb (by simp [q'])) (fun q' => hb (by simp [q'])) (fun q' => hb (by simp [q'])) (fun q' => hb (by simp [q'])) q) hf⟩
  self := fun A i s Q E st h => wpAny_pyIter_zip st.1 h
theorem begB {c : Bool} {l : Addr} {items : Array Value} : ∃ o : Obj, Begins (.ref l) o (fun h => HsB c h l items) ∧ ∀ (h : Heap) (it : Addr), h.get? it = some o → ItB c h it l 0 := by
  cases c with
  | true => exact ⟨_, begins_tuple l items, fun h it e => ⟨_, e, rfl, rfl⟩⟩
  | false => exact ⟨_, begins_list l items, fun h it e => ⟨_, e, rfl, rfl⟩⟩
def iZipM (c d : Bool) (K : PySem.W.Frag) (ta : TA) : TI := fun σ H R => ta σ H fun vs H1 => ∃ a b xs ys, vs = [.ref a, .ref b] ∧ SqB c K H1 a xs ∧ SqB d K H1 b ys ∧ R (ItzM c d K a b) H1
/-- the zip's cells laid -/
theorem zipM_run {X : L2.Cx} {c d : Bool} {elts : List Expr} {kk : Nat} {tpos : Pos} {pins : List (Addr × Obj)} {s1 : Shared} {σ : L2.St} {H1 : Hp} {R : L2.It → Hp → Prop} {a b : Addr} {xs ys : List V} (I1 : Inv X pins σ H1 s1) (hqx : SqB c X.K H1 a xs) (hqy : SqB d X.K H1 b ys) (q : R (ItzM c d X.K a b) H1) :
    wpAny (model X.prog X.w) X.A (call (.type "zip") [.ref a, .ref b]) (fun v s2 => wpAny (model X.prog X.w) X.A (pyIter v) (PIE X pins σ (.Tuple elts kk tpos) R) X.xe s2) X.xe s1 := by
  have fresh5 : ∀ c, c ∈ [s1.heap.objs.size + 4, s1.heap.objs.size + 2, s1.heap.objs.size + 3, s1.heap.objs.size, s1.heap.objs.size + 1] → FpOk X pins H1 c := fun c hcm => by
    have e' : c = s1.heap.objs.size + 4 ∨ c = s1.heap.objs.size + 2 ∨ c = s1.heap.objs.size + 3 ∨ c = s1.heap.objs.size ∨ c = s1.heap.objs.size + 1 := by simpa using hcm
    have hle : s1.heap.objs.size ≤ c := by
      rcases e' with z | z | z | z | z
      · rw [z]; exact Nat.le_add_right _ _
      · rw [z]; exact Nat.le_add_right _ _
      · rw [z]; exact Nat.le_add_right _ _
      · rw [z]; exact Nat.le_refl _
      · rw [z]; exact Nat.le_add_right _ _
    exact I1.fpOk hle (I1.hok.fresh hle)
  obtain ⟨its, rv, p⟩ := sqB_at I1 hqx
  obtain ⟨its2, rv2, p2⟩ := sqB_at I1 hqy
  obtain ⟨o1, B1, k1⟩ := begB (c := c) (l := a) (items := its.toArray)
  obtain ⟨o2, B2, k2⟩ := begB (c := d) (l := b) (items := its2.toArray)
  refine zip_begins2 B1 B2 p p2 fun h' hz hTI hTO h1 h2 hsz hk => wpAny_pyIter_zip hz ?_
  have I2 : Inv X pins σ H1 { s1 with heap := h' } := I1.kept (t' := s1.toks) hk
  have la := p.lt
  have lb := p2.lt
  exact ⟨s1.heap.objs.size + 4, [s1.heap.objs.size + 4, s1.heap.objs.size + 2, s1.heap.objs.size + 3, s1.heap.objs.size, s1.heap.objs.size + 1], _, _, H1, rfl, I2,
    turn_zipM (zip_sep2 (fun x hx => by rw [List.mem_singleton.mp hx]; exact la) (fun x hx => by rw [List.mem_singleton.mp hx]; exact lb)) (Nat.ne_of_lt la) (Nat.ne_of_lt (Nat.lt_succ_of_lt lb)), ⟨hz, hTI, ⟨_, _, hTO⟩, k1 _ _ h1, k2 _ _ h2⟩, fresh5, q⟩
section
variable {G : Gx}
theorem seq_kept {w : Wd} {d : D} {xs : List D} {v : V} (rel : Rel G w) (q : RV G w d v) (h : seqAt w.η d = some xs) :
    ∃ c a vs, v = .ref a ∧ SqB c G.K w.H a vs ∧ ∀ w', Sub w w' → Rel G w' → chk (guardOf w.η d) w'.η = true → ∃ us, SqB c G.K w'.H a us ∧ RPs G w' xs us := by
  have lists : lstAt w.η d = some xs → ∃ c a vs, v = .ref a ∧ SqB c G.K w.H a vs ∧ ∀ w', Sub w w' → Rel G w' → chk (guardOf w.η d) w'.η = true → ∃ us, SqB c G.K w'.H a us ∧ RPs G w' xs us := fun h => by
    obtain ⟨a, vs, rfl, l, rs⟩ := lst_of rel q h
    refine ⟨false, a, vs, rfl, l.sq, fun w' e r c => ?_⟩
    obtain ⟨a', zs, ea, k1, k2⟩ := lst_kept rel q h e r c
    cases ea
    exact ⟨zs, k1.sq, k2⟩
  cases d with
  | tup ys =>
    simp only [seqAt, Option.some.injEq] at h
    subst h
    obtain ⟨a, vs, rfl, t, rs⟩ := q.tup
    exact ⟨true, a, vs, rfl, t.sq, fun w' e r _ => ⟨vs, (t.sub e).sq, rs.sub e⟩⟩
  | _ => exact lists (by simpa only [seqAt] using h)
theorem yields_zipM {w : Wd} {x y : D} {xs ys : List D} {v u : V} (rel : Rel G w) (q : RV G w x v) (q' : RV G w y u) (h : seqAt w.η x = some xs) (h' : seqAt w.η y = some ys) :
    ∃ c d a b vs us, v = .ref a ∧ u = .ref b ∧ SqB c G.K w.H a vs ∧ SqB d G.K w.H b us ∧ Yields G.K G true w (ItzM c d G.K a b) (zipD xs ys) (guardOf w.η x ++ guardOf w.η y) := by
  obtain ⟨c, a, vs, rfl, l, k1⟩ := seq_kept rel q h
  obtain ⟨d, b, us, rfl, l', k2⟩ := seq_kept rel q' h'
  refine ⟨c, d, a, b, vs, us, rfl, rfl, l, l', ⟨fun w' e r cc i hi => ?_, fun w' e r cc => ?_⟩⟩
  · obtain ⟨c1, c2⟩ := chk_app cc
    obtain ⟨zs, s1, k3⟩ := k1 w' e r c1
    obtain ⟨ts, s2, k4⟩ := k2 w' e r c2
    rw [zipD_len] at hi
    have hz : zs[i]? = some (zs[i]'(by rw [← k3.length]; omega)) := List.getElem?_eq_getElem _
    have ht : ts[i]? = some (ts[i]'(by rw [← k4.length]; omega)) := List.getElem?_eq_getElem _
    refine ⟨⟨zs, ts, _, _, s1, s2, hz, ht⟩, fun o H' yy => ?_⟩
    obtain ⟨T, vx, vy, rfl, hT, rfl, f1, f2⟩ := yy
    obtain ⟨dx, hdx, rx⟩ := k3.get' (f1 zs s1)
    obtain ⟨dy, hdy, ry⟩ := k4.get' (f2 ts s2)
    obtain ⟨w2, e1, e2, e3, e4, e5⟩ := loose_item r hT rx ry
    exact ⟨w2, _, e1, e2, e3, e4, zipD_get xs ys i dx dy hdx hdy, e5⟩
  · obtain ⟨c1, c2⟩ := chk_app cc
    obtain ⟨zs, s1, k3⟩ := k1 w' e r c1
    obtain ⟨ts, s2, k4⟩ := k2 w' e r c2
    exact ⟨zs, ts, s1, s2, by rw [zipD_len, k3.length, k4.length]⟩
variable {X : L2.Cx} {C : Ip.Cx} {W : L2.WX} {a b : E} {a' b' : Expr} {pos p2 : Pos}
theorem nd_zip {elts : List Expr} {kk : Nat} {p3 : Pos} (hK : X.K = G.K) (hg : Gl X "zip") (hm : X.mg "zip" = none) (hn : notStar a' = true) (hn2 : notStar b' = true) (ha : PE X a' (tE C G W a)) (hb : PE X b' (tE C G W b)) : PI X (.Tuple elts kk p3) (.Call (.Name "zip" p2) [a', b'] [] pos) (tIt C G W X.K true (.zip a b)) := ⟨fun pins s σ H R I ⟨env, w, hw, rel, er, h⟩ => by
  have ns2 : noStars [b'] = true := by show (notStar b' && true) = true; rw [hn2]; rfl
  have ns : noStars [a', b'] = true := by show (notStar a' && (notStar b' && true)) = true; rw [hn, hn2]; rfl
  subst hw
  unfold evIt at h
  have ha2 : PA X [a', b'] _ := pa_cons ha (pa_cons hb pa_nil (star_head ns2)) (star_head ns)
  refine Call_ (ld_blt I hg hm PyProof.Rows.boot_zip (PyProof.Rows.callWith_type1 (thn (ha2.run pos pins s σ w.H (fun vs H1 => ∃ c d a b xs ys, vs = [.ref a, .ref b] ∧ SqB c X.K H1 a xs ∧ SqB d X.K H1 b ys ∧ R (ItzM c d X.K a b) H1) I ?_) fun us s1 ⟨vs, H1, I1, r1, q1⟩ => ?_) (star_head ns) (star_tail ns)))
  · refine ⟨env, w, rfl, rel, er, h.bind.mono fun w1 d1 e1 r1 h1 v1 q1 => ?_⟩
    refine ⟨env, w1, rfl, r1, er.mono e1, h1.bind.mono fun w2 d2 e2 r2 h2 v2 q2 => ?_⟩
    have q1 := q1.mono e2
    split at h2
    · rename_i pr hpr
      have fin := h2 w2 rfl (Ext.refl w2) r2
      unfold two at hpr
      split at hpr
      · rename_i xs ys hx hy
        cases hpr
        obtain ⟨c, d, a, b, vs, us, rfl, rfl, s1, s2, Y⟩ := yields_zipM r2 q1 q2 hx hy
        rw [← hK] at s1 s2 Y
        exact ⟨c, d, a, b, vs, us, rfl, s1, s2, fin _ Y⟩
      · cases hpr
    · exact h2.elim
  · obtain ⟨c, d, a, b, xs, ys, ex, hqx, hqy, q⟩ := q1
    subst ex
    cases r1 with
    | cons r rr =>
      cases rr with
      | cons r' rr =>
        cases rr
        cases r
        cases r'
        exact zipM_run I1 hqx hqy q⟩
end
end Ip
/-! enumerate of lists, of tuples -/
namespace Ip
open PySem PySem.Spec PyProof.Rows L2
theorem meets_enumT (l : Addr) (items : Array Value) (n : Nat) (cl : Obj) (hc : cl.cls = .type "tuple") (hd : cl.data = .seq items n) :
    Meets (Builtin.«enumerate.__new__» ⟨[.type "enumerate", .ref l], []⟩) (fun _ R s => s.heap.get? l = some cl ∧
      R (.ok (.ret (.ref (s.heap.push { cls := .type "tuple_iterator", data := .fields #[.ref l, .int 0 0] }).objs.size)))
        { s with heap := (s.heap.push { cls := .type "tuple_iterator", data := .fields #[.ref l, .int 0 0] }).push { cls := .type "enumerate", data := .fields #[.none, .bool false, .ref s.heap.objs.size, rawInt 0, .none, .none] } }) :=
  .of_wp fun prog w A R s h => by
    obtain ⟨hp, g, d, tk, os⟩ := s; obtain ⟨hl, h⟩ := h
    obtain ⟨c, dct, dt, sl⟩ := cl
    simp only at hc hd
    subst hc hd
    have hsub := sub_enumerate
    have hL : Heap.IsTuple (Shared.heap ⟨hp, g, d, tk, os⟩) l items := ⟨_, hl, rfl, n, rfl⟩
    wp_walk using AutoSeq1.wpAny_loadPart' hl
    refine wpAny_stack_any fun st => wpAny_pure ?_
    split
    · rename_i c _ _ _ _ _
      cases (c == Value.type "enumerate")
      · wp_walk using AutoSeq1.wpAny_loadPart' hl, wpAny_pyIter_tuple hL
        exact ⟨_, rfl, h⟩
      · wp_walk using AutoSeq1.wpAny_loadPart' hl, wpAny_pyIter_tuple hL
        exact ⟨_, rfl, h⟩
    · wp_walk using AutoSeq1.wpAny_loadPart' hl, wpAny_pyIter_tuple hL
      exact ⟨_, rfl, h⟩
theorem call_enumT {prog : Program} {w : World} {A : Around} {E : Value → Shared → Prop} {s : Shared} {l : Addr} {items : Array Value} {Q : Value → Shared → Prop} (hL : s.heap.IsTuple l items)
    (h : ∀ h', IsEnum h' (s.heap.objs.size + 1) s.heap.objs.size 0 .none → h'.IsTupleIter s.heap.objs.size l 0 → h'.objs.size = s.heap.objs.size + 2 →
      (∀ b o, s.heap.get? b = some o → h'.get? b = some o) → Q (.ref (s.heap.objs.size + 1)) { s with heap := h' }) :
    wpAny (model prog w) A (call (.type "enumerate") [.ref l]) Q E s := by
  obtain ⟨cl, hl, hc, n, hd⟩ := hL
  refine callType_new F.called_enumerate (by decide) (F.typeCall_enumerate_1 _) (F.newCall_enumerate_1 _) (fun obj => F.args_object_init_2 obj _) F.entry_enumerate_new
    (meets_enumT l items n cl hc hd) ⟨hl, ?_⟩
  have hz : (s.heap.push { cls := .type "tuple_iterator", data := .fields #[.ref l, .int 0 0] }).objs.size = s.heap.objs.size + 1 := Heap.size_push ..
  show _ ∧ _
  rw [hz]
  have he : IsEnum ((s.heap.push { cls := .type "tuple_iterator", data := .fields #[.ref l, .int 0 0] }).push
      { cls := .type "enumerate", data := .fields #[.none, .bool false, .ref s.heap.objs.size, rawInt 0, .none, .none] }) (s.heap.objs.size + 1) s.heap.objs.size 0 .none := by
    have := Heap.get?_push_size (s.heap.push { cls := .type "tuple_iterator", data := .fields #[.ref l, .int 0 0] })
      (o := { cls := .type "enumerate", data := .fields #[.none, .bool false, .ref s.heap.objs.size, rawInt 0, .none, .none] }) rfl
    rw [hz] at this; exact this
  refine ⟨⟨_, he, rfl⟩, h _ he ⟨_, Heap.get?_push_of_some _ (Heap.get?_push_size _ rfl), rfl, rfl⟩ (by rw [Heap.size_push, hz]) fun b o x => Heap.get?_push_of_some _ (Heap.get?_push_of_some _ x)⟩
theorem call_enumB {prog : Program} {w : World} {A : Around} {E : Value → Shared → Prop} {s : Shared} {c : Bool} {l : Addr} {items : Array Value} {Q : Value → Shared → Prop} (hL : HsB c s.heap l items)
    (h : ∀ h', IsEnum h' (s.heap.objs.size + 1) s.heap.objs.size 0 .none → ItB c h' s.heap.objs.size l 0 → h'.objs.size = s.heap.objs.size + 2 →
      (∀ b o, s.heap.get? b = some o → h'.get? b = some o) → Q (.ref (s.heap.objs.size + 1)) { s with heap := h' }) :
    wpAny (model prog w) A (call (.type "enumerate") [.ref l]) Q E s := by
  cases c with
  | true => exact call_enumT hL h
  | false => exact call_enumerate_list hL h
/-- what is at a, at each turn, each item in a new pair with its number -/
def IteM (c : Bool) (K : PySem.W.Frag) (a : Addr) : L2.It :=
  ⟨fun i H => ∃ (xs : List V) (x : V), SqB c K H a xs ∧ xs[i]? = some x, fun i H v H' => ∃ T x, v = .ref T ∧ H T = none ∧ H' = upd H T (.tup [.int (i : Nat), x]) ∧ ∀ xs, SqB c K H a xs → xs[i]? = some x, fun i H => ∃ xs : List V, SqB c K H a xs ∧ xs.length = i⟩
theorem turn_enumM {P : Program} {w : World} {K : PySem.W.Frag} {elts : List Expr} {kk : Nat} {tpos : Pos} {c : Bool} {a e it : Addr} (hai : a ≠ it) (hae : a ≠ e) (hne : e ≠ it) :
    Turn P w K (.Tuple elts kk tpos) (IteM c K a) [e, it] e (fun i h => (∃ old, IsEnum h e it ((i : Nat) : Int) old) ∧ ItB c h it a i) where
  mem := by simp
  obj := fun i h st b hb => by
    obtain ⟨⟨old, he⟩, h1⟩ := st
    have e' : b = e ∨ b = it := by simpa using hb
    rcases e' with z | z
    · rw [z]; exact ⟨_, he, fun v q => nomatch q⟩
    · rw [z]; exact h1.obj
  keep := fun i h h' st k => let ⟨⟨old, he⟩, hi⟩ := st; ⟨⟨old, k e (by simp) _ he⟩, hi.at fun o q => k it (by simp) o q⟩
  item := by
    intro X hP hw hK hc i pins s σ H E I hf st hg
    subst hP hw hK
    obtain ⟨⟨old, he⟩, hit⟩ := st
    obtain ⟨xs, x, hq, hx⟩ := hg
    obtain ⟨its, rv, p⟩ := sqB_at I hq
    obtain ⟨u, hu, ru⟩ := rv.get hx
    have hh : X.A.in1.handled = none := I.ok.hd hc
    have hel : e < s.heap.objs.size := Heap.lt_size he
    have hil : it < s.heap.objs.size := by obtain ⟨_, q, _⟩ := hit.obj; exact Heap.lt_size q
    have l1 : i < its.toArray.size := by rw [List.size_toArray]; exact (List.getElem?_eq_some_iff.mp hu).1
    refine wpAny_pyNext_enum_itemC (drawsB c hh it a hai its.toArray) he ⟨hit, p⟩ l1 hne (by simp [hne, hae.symm]) fun x1 h' tk e1 ho st' hT hsz hk => ?_
    have e1 : its[i]? = some x1 := by simpa using e1
    rw [hu] at e1
    cases e1
    refine ⟨_, rfl, wpAny_letOwnedTupleGo_enum (s := { s with heap := h', toks := tk + 1 }) ho fun h'' he' sb => ?_⟩
    have hT2 : h''.get? s.heap.objs.size = some { cls := .type "tuple", data := .seq #[.int i tk, u] } := (sb.2 _ (Nat.ne_of_gt hel)).trans hT
    have new : ObjOk X.prog X.w (upd H s.heap.objs.size (.tup [.int (i : Nat), x])) h'' s.heap.objs.size (.tup [.int (i : Nat), x]) :=
      ⟨by show 2 ≤ sizeLine; decide, [.int i tk, u], .cons ⟨_, rfl⟩ (.cons ru .nil), ⟨_, hT2, rfl, _, rfl⟩⟩
    have I1 : Inv X pins σ (upd H s.heap.objs.size (.tup [.int (i : Nat), x])) { s with heap := h'', toks := tk + 1 } :=
      I.turnedNew (ch := [e, it]) (fun b ob hb q => (sb.2 b (fun z => hb (by simp [z]))).trans (hk b ob (fun z => hb (by simp [z])) (fun z => hb (by simp [z])) q)) hf (Nat.le_refl _) new
    refine ⟨.ref s.heap.objs.size, _, I1, rfl, ⟨_, x, rfl, I.hok.fresh (Nat.le_refl _), rfl, fun ys hy => by rw [sqB_inj I hy hq]; exact hx⟩, ⟨⟨u, ?_⟩, st'.1.at fun o q => (sb.2 it (Ne.symm hne)).trans q⟩, fun b hb => ?_⟩
    · have e1 : ((i + 1 : Nat) : Int) = (i : Int) + 1 := by omega
      rw [e1]; exact he'
    · have hb' : b < s.heap.objs.size := by
        have e' : b = e ∨ b = it := by simpa using hb
        rcases e' with z | z
        · rw [z]; exact hel
        · rw [z]; exact hil
      rw [upd_ne (Nat.ne_of_lt hb')]
      exact (hf b hb).1
  done := by
    intro X hP hw hK hc i pins s σ H E I hf st hg
    subst hP hw hK
    obtain ⟨⟨old, he⟩, hit⟩ := st
    obtain ⟨xs, hq, hx⟩ := hg
    obtain ⟨its, rv, p⟩ := sqB_at I hq
    have hh : X.A.in1.handled = none := I.ok.hd hc
    obtain ⟨f0, f1, f2, f3, f4, f5⟩ := hf it (by simp)
    have l1 : its.toArray.size = i := by rw [List.size_toArray, ← rv.length]; exact hx
    exact wpAny_pyNext_enum_endD (drawsB c hh it a hai its.toArray) he (by rw [l1]; exact ⟨hit, p⟩) fun h' eb => ⟨rfl, I.turned (t' := s.toks) (fun b o hb q => eb b o hb q) f0 f1 f3 f4 f5⟩
  self := fun A i s Q E st h => let ⟨⟨_, he⟩, _⟩ := st; wpAny_pyIter_enum he h
section
variable {G : Gx} {X : L2.Cx} {C : Ip.Cx} {W : L2.WX} {a : E} {a' : Expr} {pos p2 : Pos}
theorem yields_enum {w : Wd} {x : D} {xs : List D} {v : V} (rel : Rel G w) (q : RV G w x v) (h : seqAt w.η x = some xs) :
    ∃ c a vs, v = .ref a ∧ SqB c G.K w.H a vs ∧ Yields G.K G true w (IteM c G.K a) (enumD 0 xs) (guardOf w.η x) := by
  obtain ⟨c, a, vs, rfl, l, k1⟩ := seq_kept rel q h
  refine ⟨c, a, vs, rfl, l, ⟨fun w' e r cc i hi => ?_, fun w' e r cc => ?_⟩⟩
  · obtain ⟨us, sq, rs'⟩ := k1 w' e r cc
    rw [enumD_len] at hi
    have hu : us[i]? = some (us[i]'(by rw [← rs'.length]; exact hi)) := List.getElem?_eq_getElem _
    refine ⟨⟨us, _, sq, hu⟩, fun o H' yy => ?_⟩
    obtain ⟨T, vx, rfl, hT, rfl, f1⟩ := yy
    obtain ⟨dx, hdx, rx⟩ := rs'.get' (f1 us sq)
    obtain ⟨w2, e1, e2, e3, e4, e5⟩ := loose_item (x := .int (.ofNat (0 + i))) (vx := .int (i : Nat)) r hT (by rw [Nat.zero_add]; exact .int _) rx
    exact ⟨w2, _, e1, e2, e3, e4, enumD_get 0 xs i dx hdx, e5⟩
  · obtain ⟨us, sq, rs'⟩ := k1 w' e r cc
    exact ⟨us, sq, by rw [enumD_len, rs'.length]⟩
theorem nd_enum {elts : List Expr} {kk : Nat} {p3 : Pos} (hK : X.K = G.K) (hg : Gl X "enumerate") (hm : X.mg "enumerate" = none) (hn : notStar a' = true) (ha : PE X a' (tE C G W a)) : PI X (.Tuple elts kk p3) (.Call (.Name "enumerate" p2) [a'] [] pos) (tIt C G W X.K true (.enum a)) := ⟨fun pins s σ H R I ⟨env, w, hw, rel, er, h⟩ => by
  have ns : noStars [a'] = true := by show (notStar a' && true) = true; rw [hn]; rfl
  subst hw
  unfold evIt at h
  have ha2 : PA X [a'] _ := pa_cons ha pa_nil (star_head ns)
  refine Call_ (ld_blt I hg hm boot_enumerate (PyProof.Rows.callWith_type1 (thn (ha2.run pos pins s σ w.H (fun vs H1 => ∃ c a xs, vs = [.ref a] ∧ SqB c X.K H1 a xs ∧ R (IteM c X.K a) H1) I ?_) fun us s1 ⟨vs, H1, I1, r1, q1⟩ => ?_) (star_head ns) rfl))
  · refine ⟨env, w, rfl, rel, er, h.bind.mono fun w1 d1 e1 r1 h1 v1 q1 => ?_⟩
    split at h1
    · rename_i xs hx
      obtain ⟨c, p, vs, rfl, sq, Y⟩ := yields_enum r1 q1 hx
      rw [← hK] at sq Y
      exact ⟨c, p, vs, rfl, sq, h1 w1 rfl (Ext.refl w1) r1 _ Y⟩
    · exact h1.elim
  · obtain ⟨c, a, xs, ex, hq, q⟩ := q1
    subst ex
    cases r1 with
    | cons r rr =>
      cases rr
      cases r
      obtain ⟨its, rv, p'⟩ := sqB_at I1 hq
      have la := p'.lt
      refine call_enumB p' fun h' he hit hsz hk => wpAny_pyIter_enum he ?_
      have I2 : Inv X pins σ H1 { s1 with heap := h' } := I1.kept (t' := s1.toks) hk
      refine ⟨s1.heap.objs.size + 1, [s1.heap.objs.size + 1, s1.heap.objs.size], _, _, H1, rfl, I2, turn_enumM (Nat.ne_of_lt la) (Nat.ne_of_lt (Nat.lt_succ_of_lt la)) (Nat.succ_ne_self _), ⟨⟨.none, he⟩, hit⟩, fun b hb => ?_, q⟩
      have e' : b = s1.heap.objs.size + 1 ∨ b = s1.heap.objs.size := by simpa using hb
      have hle : s1.heap.objs.size ≤ b := by
        rcases e' with z | z
        · rw [z]; exact Nat.le_add_right _ _
        · rw [z]; exact Nat.le_refl _
      exact I1.fpOk hle (I1.hok.fresh hle)⟩
end
end Ip
namespace Ip
open PySem PySem.Spec PyProof.Rows L2

/-! ### slots -/
mutual
def tgN : T → List Nat
  | .name i => [i]
  | .tup ts => tgNs ts
  | _ => []
def tgNs : Ts → List Nat
  | .nil => []
  | .cons t r => tgN t ++ tgNs r
end
/-- nothing but the slots at ns has changed -/
def Off (ns : List Nat) (σ σ1 : L2.St) : Prop := σ1.length = σ.length ∧ ∀ j, j ∉ ns → σ1[j]? = σ[j]?
theorem Off.refl (ns : List Nat) (σ : L2.St) : Off ns σ σ := ⟨rfl, fun _ _ => rfl⟩
theorem Off.trans {ns ms : List Nat} {σ σ1 σ2 : L2.St} (a : Off ns σ σ1) (b : Off ms σ1 σ2) : Off (ns ++ ms) σ σ2 :=
  ⟨b.1.trans a.1, fun j h => by
    rw [List.mem_append, not_or] at h
    exact (b.2 j h.2).trans (a.2 j h.1)⟩
theorem EnvR.set {G : Gx} {w : Wd} {env : Env} {σ : L2.St} {i : Nat} {d : D} {v : V} (h : EnvR G w env σ) (q : RV G w d v) : EnvR G w (env.set i (some d)) (σ.set i (some v)) := by
  refine ⟨by rw [List.length_set, List.length_set]; exact h.1, fun j x e => ?_⟩
  rw [List.getElem?_set] at e
  rw [List.getElem?_set]
  by_cases z : i = j
  · subst z
    rw [if_pos rfl] at e ⊢
    split at e
    · rename_i lt
      cases e
      rw [if_pos (by rw [← h.1]; exact lt)]
      exact ⟨v, rfl, q⟩
    · cases e
  · rw [if_neg z] at e ⊢
    exact h.2 j x e
theorem EnvR.unset {G : Gx} {w : Wd} {env : Env} {σ : L2.St} {i : Nat} (h : EnvR G w env σ) : EnvR G w (env.set i none) (σ.set i none) := by
  refine ⟨by rw [List.length_set, List.length_set]; exact h.1, fun j x e => ?_⟩
  rw [List.getElem?_set] at e
  rw [List.getElem?_set]
  by_cases z : i = j
  · subst z
    rw [if_pos rfl] at e
    split at e <;> cases e
  · rw [if_neg z] at e ⊢
    exact h.2 j x e
theorem EnvR.wipe {G : Gx} {w : Wd} {env : Env} {σ : L2.St} (h : EnvR G w env σ) : ∀ vs : List Nat, EnvR G w (Ip.wipe env vs) (L2.wipe σ vs)
  | [] => h
  | v :: vs => (EnvR.wipe h vs).unset
theorem Off.set {σ : L2.St} {i : Nat} {v : Option V} : Off [i] σ (σ.set i v) := ⟨List.length_set .., fun j h => by
  rw [List.getElem?_set, if_neg (fun z => h (by rw [z]; exact List.mem_singleton.mpr rfl))]⟩
theorem wipe_none {σ : L2.St} {i : Nat} : ∀ {vs : List Nat}, i ∈ vs → i < σ.length → (L2.wipe σ vs)[i]? = some none
  | v :: vs, h, lt => by
    rw [L2.wipe, List.getElem?_set]
    by_cases z : v = i
    · rw [if_pos z, if_pos (by rw [wipe_length]; rw [z]; exact lt)]
    · rw [if_neg z]
      rcases List.mem_cons.mp h with e | e
      · exact absurd e.symm z
      · exact wipe_none e lt
theorem Off.wipe {ns vs : List Nat} {σ σ1 : L2.St} (h : Off ns σ σ1) (hs : ∀ j ∈ ns, j ∈ vs) : L2.wipe σ1 vs = L2.wipe σ vs := by
  refine List.ext_getElem? fun j => ?_
  by_cases z : j ∈ vs
  · by_cases lt : j < σ.length
    · rw [wipe_none z lt, wipe_none z (by rw [h.1]; exact lt)]
    · have n1 : (L2.wipe σ1 vs)[j]? = none := List.getElem?_eq_none (by rw [wipe_length, h.1]; omega)
      have n2 : (L2.wipe σ vs)[j]? = none := List.getElem?_eq_none (by rw [wipe_length]; omega)
      rw [n1, n2]
  · rw [wipe_out z, wipe_out z]
    exact h.2 j fun y => z (hs j y)
theorem wipe_wipe {σ : L2.St} {vs : List Nat} : L2.wipe (L2.wipe σ vs) vs = L2.wipe σ vs :=
  Off.wipe (ns := vs) ⟨wipe_length _ _, fun j h => wipe_out h⟩ fun j h => h
/-- the wish does not look at the slots -/
def WFree (W : L2.WX) : Prop := ∀ c d σ σ' H, W c d σ H → W c d σ' H
/-- the wish does not look at the slots ns -/
def WOf (W : L2.WX) (ns : List Nat) : Prop := ∀ c d σ σ' H, Off ns σ σ' → W c d σ H → W c d σ' H
theorem WOf.mono {W : L2.WX} {ns ms : List Nat} (h : WOf W ns) (k : ∀ j ∈ ms, j ∈ ns) : WOf W ms := fun c d σ σ' H o => h c d σ σ' H ⟨o.1, fun j n => o.2 j fun z => n (k j z)⟩
theorem WFree.of {W : L2.WX} (h : WFree W) (ns : List Nat) : WOf W ns := fun c d σ σ' H _ => h c d σ σ' H
theorem Out.wish {α : Type} {G : Gx} {w : Wd} {W W' : PX} {P : Wd → α → Prop} {r : R α} (h : Out G w W P r) (k : ∀ c d H, W c d H → W' c d H) : Out G w W' P r := by
  cases r with
  | ok d η' => exact h
  | ex x η' => exact fun w' c d a b e f => k _ _ _ (h w' c d a b e f)
  | bad => exact h
/-! ### targets -/
def tG (C : Ip.Cx) (G : Gx) (W : L2.WX) (loose : Bool) (t : T) : TG := fun v σ H Q => ∃ env w d, w.H = H ∧ Rel G w ∧ EnvR G w env σ ∧ RI G loose w d v ∧
  Out G w (Wat W σ) (fun w1 env1 => ∀ σ1, EnvR G w1 env1 σ1 → Off (tgN t) σ σ1 → Q σ1 w1.H) (asT C t d env w.η)
def tGs (C : Ip.Cx) (G : Gx) (W : L2.WX) (ts : Ts) : TGs := fun vs σ H Q => ∃ env w ds, w.H = H ∧ Rel G w ∧ EnvR G w env σ ∧ RVs G w ds vs ∧
  Out G w (Wat W σ) (fun w1 env1 => ∀ σ1, EnvR G w1 env1 σ1 → Off (tgNs ts) σ σ1 → Q σ1 w1.H) (asTs C ts ds env w.η)
section
variable {X : L2.Cx} {C : Ip.Cx} {G : Gx} {W : L2.WX} {a b : E} {a' b' : Expr} {t : T} {t' : Expr} {ts : Ts} {ts' : List Expr} {pos p2 : Pos}
theorem PGimp {g g' : TG} (h : PG X t' g) (k : ∀ v σ H Q, g' v σ H Q → g v σ H Q) : PG X t' g' := ⟨fun pins s σ H v u Q I r q => h.run pins s σ H v u Q I r (k v σ H Q q)⟩
theorem PGsimp {g g' : TGs} (h : PGs X ts' g) (k : ∀ v σ H Q, g' v σ H Q → g v σ H Q) : PGs X ts' g' := ⟨fun pins s σ H v u Q I r q => h.run pins s σ H v u Q I r (k v σ H Q q)⟩
theorem nd_tname {i : Nat} {x : Str} (hN : X.N.Nodup) (hi : X.N[i]? = some x) (hx : Loc X.env.scope x) (hf : X.fn x = true ∨ X.env.scope.names.lookup x = some .local) : PG X (.Name x pos) (tG C G W false (.name i)) :=
  PGimp (pg_name hN hi hx hf) fun v σ H Q ⟨env, w, d, hw, rel, er, ri, h⟩ => by
    subst hw
    unfold asT at h
    rcases ri with ⟨_, q⟩ | ⟨z, _⟩
    · exact h w rfl (Ext.refl w) rel _ (er.set q) (by unfold tgN; exact Off.set)
    · cases z
theorem nd_tnil : PGs X [] (tGs C G W .nil) :=
  PGsimp pgs_nil fun vs σ H Q ⟨env, w, ds, hw, rel, er, q, h⟩ => by
    subst hw
    cases ds with
    | nil =>
      unfold asTs at h
      exact ⟨q.none, h w rfl (Ext.refl w) rel σ er (Off.refl _ _)⟩
    | cons d ds => unfold asTs at h; exact h.elim
theorem assign_cons {env : PySem.Env} {x : Expr} {r : List Expr} (h : notStar x = true) : assignEach (x :: r) env = (false, assign x env) :: assignEach r env := by
  cases x <;> first | rfl | cases h
theorem nd_tcons {r : Ts} {r' : List Expr} (hW : WOf W (tgN t)) (hn : notStar t' = true) (h1 : PG X t' (tG C G W false t)) (h2 : PGs X r' (tGs C G W r)) : PGs X (t' :: r') (tGs C G W (.cons t r)) :=
  PGsimp (pgs_cons h1 h2 (by rw [assign_cons hn]; rfl)) fun vs σ H Q ⟨env, w, ds, hw, rel, er, q, h⟩ => by
    subst hw
    cases ds with
    | nil => unfold asTs at h; exact h.elim
    | cons d ds =>
      cases vs with
      | nil => exact q.elim
      | cons v vs =>
        unfold asTs at h
        refine ⟨v, vs, rfl, env, w, d, rfl, rel, er, .inl ⟨rfl, q.1⟩, h.bind.mono fun w1 env1 e1 r1 hh σ1 er1 off1 => ?_⟩
        refine ⟨env1, w1, ds, rfl, r1, er1, q.2.mono e1, Out.wish (hh.mono fun w2 env2 e2 r2 k σ2 er2 off2 => k σ2 er2 ?_) fun c d H => hW c d σ σ1 H off1⟩
        unfold tgNs
        exact off1.trans off2
theorem assign_len {env : PySem.Env} : ∀ {l : List Expr}, noStars l = true → (assignEach l env).length = l.length ∧ (assignEach l env).findIdx? (·.1) = none
  | [], _ => ⟨rfl, rfl⟩
  | x :: r, h => by
    simp only [noStars, Bool.and_eq_true] at h
    obtain ⟨e1, e2⟩ := assign_len (env := env) h.2
    rw [assign_cons h.1]
    exact ⟨by rw [List.length_cons, e1, List.length_cons], by rw [List.findIdx?_cons, e2]; rfl⟩
theorem nd_ttup {k : Nat} {loose : Bool} (hK : X.K = G.K) (hc : X.calm = true) (hn : noStars ts' = true) (hl : ts.len = ts'.length) (h : PGs X ts' (tGs C G W ts)) : PG X (.Tuple ts' k pos) (tG C G W loose (.tup ts)) :=
  PGimp (pg_tup hc h (assign_len hn).1 (assign_len hn).2) fun v σ H Q ⟨env, w, d, hw, rel, er, ri, h⟩ => by
    subst hw
    unfold asT at h
    have rest : ∀ {xs : List D} {vs : List V} {p : Addr}, d = .tup xs → SqT G.K w.H p vs → RPs G w xs vs → v = .ref p → gTup X.K ts'.length (tGs C G W ts) v σ w.H Q := fun {xs vs p} ed sq rs ev => by
      subst ed
      subst ev
      cases hb : Nat.beq xs.length ts.len with
      | false => simp only [hb] at h; exact h.elim
      | true =>
        simp only [hb] at h
        rw [beqN, decide_eq_true_eq, hl] at hb
        exact ⟨p, vs, rfl, by rw [hK]; exact sq, by rw [← rs.length]; exact hb, env, w, _, rfl, rel, er, rs.rvs, h.mono fun w1 env1 e1 r1 kk σ1 er1 off => kk σ1 er1 (by unfold tgN; exact off)⟩
    rcases ri with ⟨_, q⟩ | ⟨_, p, vs, xs, ed, ev, hp, rs⟩
    · cases d with
      | tup xs =>
        obtain ⟨p, vs, ev, t, rs⟩ := q.tup
        exact rest rfl t.sq rs ev
      | _ => exact h.elim
    · exact rest ed (SqT.of hp) rs ev
theorem nd_tsub (hH : ∀ k, G.hs k = k.hash X.w) (hK : X.K = G.K) (hu : X.A.units + 64 < cLine) (ha : PE X a' (tE C G W a)) (hb : PE X b' (tE C G W b)) (has : ∀ v, assign (.Subscript a' b' pos) X.env v = (do
      let ov ← holding [v] (eval a' X.env)
      let iv ← holding [v, ov] (eval b' X.env)
      standAt pos
      holding [v, ov, iv] (setItem ov iv v)
      release [v, ov, iv] [])) : PG X (.Subscript a' b' pos) (tG C G W false (.sub a b)) :=
  PGimp (pg_sub ha hb (set_x (G := G) hH hK hu) has) fun v σ H Q ⟨env, w, d, hw, rel, er, ri, h⟩ => by
    subst hw
    unfold asT at h
    rcases ri with ⟨_, q⟩ | ⟨z, _⟩
    · refine ⟨env, w, rfl, rel, er, h.bind.mono fun w1 d1 e1 r1 h1 v1 q1 => ?_⟩
      refine ⟨env, w1, rfl, r1, er.mono e1, h1.bind.mono fun w2 d2 e2 r2 h2 v2 q2 => ?_⟩
      split at h2
      · rename_i η' he
        refine ⟨w2, d1, d2, d, η', rfl, r2, q1.mono e2, q2, (q.mono e1).mono e2, he, fun w3 a b c => ?_⟩
        exact h2 w3 a b c σ (((er.mono e1).mono e2).mono b) (Off.refl _ _)
      · exact h2.elim
    · cases z
end
end Ip
namespace Ip
open PySem PySem.Spec PyProof.Rows L2
/-- nothing is raised -/
abbrev Wno : L2.WX := fun _ _ _ _ => False
theorem takes_no (X : L2.Cx) : Takes X Wno := fun u s' h => by
  obtain ⟨_, _, _, _, _, _, _, _, _, _, _, _, _, _, _, _, h⟩ := h
  exact h.elim
def NX {α : Type} (r : R α) : Prop := ∀ x h, r ≠ .ex x h
theorem calm_nx {α : Type} (r : R α) : NX r.calm := by
  intro x h e
  cases r <;> cases e
theorem calm_ok {α : Type} {r : R α} {a : α} {h : Hs} (e : r.calm = .ok a h) : r = .ok a h := by
  cases r with
  | ok b k => exact e
  | ex x k => cases e
  | bad => cases e
theorem bind_ok {α β : Type} {r : R α} {k : α → Hs → R β} {b : β} {h : Hs} (e : r.bind k = .ok b h) : ∃ a h1, r = .ok a h1 ∧ k a h1 = .ok b h := by
  cases r with
  | ok a h1 => exact ⟨a, h1, rfl, e⟩
  | ex x k => cases e
  | bad => cases e
theorem bind_nx {α β : Type} {r : R α} {k : α → Hs → R β} (h : NX r) (hk : ∀ a η, NX (k a η)) : NX (r.bind k) := by
  cases r with
  | ok a η => exact hk a η
  | ex x η => exact absurd rfl (h x η)
  | bad => intro x h e; cases e
theorem cloop_nx {g : Guard} {asg : D → Hs → R Env} {test : Env → Hs → R Bool} {elt : Env → Hs → R D} (h1 : ∀ x η, NX (asg x η)) (h2 : ∀ x η, NX (test x η)) (h3 : ∀ x η, NX (elt x η)) : ∀ xs η acc, NX (cloop g asg test elt xs η acc)
  | [], η, acc => by
    rw [cloop]
    split <;> (intro x h e; cases e)
  | x :: xs, η, acc => by
    rw [cloop]
    split
    · refine bind_nx (h1 _ _) fun env η => bind_nx (h2 _ _) fun b η => ?_
      cases b with
      | true =>
        refine bind_nx (h3 _ _) fun d η => ?_
        split
        · exact cloop_nx h1 h2 h3 xs _ _
        · intro x h e; cases e
      | false => exact cloop_nx h1 h2 h3 xs _ _
    · intro x h e; cases e
def tIfs (C : Ip.Cx) (G : Gx) (W : L2.WX) (es : Es) : TT := fun σ H Q => ∃ env w, w.H = H ∧ Rel G w ∧ EnvR G w env σ ∧ Out G w (Wat W σ) (fun w1 b => Q b w1.H) (evIfs C es env w.η)
section
variable {X : L2.Cx} {C : Ip.Cx} {G : Gx} {W : L2.WX} {a b : E} {a' b' : Expr} {es : Es} {es' : List Expr} {t : T} {t' : Expr} {pos p2 : Pos} {c loose : Bool}
theorem PTsimp {t t' : TT} (h : PTs X es' t) (k : ∀ σ H Q, t' σ H Q → t σ H Q) : PTs X es' t' := ⟨fun pins s σ H Q I q => h.run pins s σ H Q I (k σ H Q q)⟩
theorem nd_ifs0 : PTs X [] (tIfs C G W .nil) :=
  PTsimp pts_nil fun σ H Q ⟨env, w, hw, rel, er, h⟩ => by
    subst hw
    unfold evIfs at h
    exact h w rfl (Ext.refl w) rel
theorem nd_ifs1 (ha : PT X a' (tT C G W a)) : PTs X [a'] (tIfs C G W (.cons a .nil)) :=
  PTsimp (pts_one ha) fun σ H Q ⟨env, w, hw, rel, er, h⟩ => by
    subst hw
    unfold evIfs at h
    refine ⟨env, w, rfl, rel, er, h.bind.mono fun w1 d1 e1 r1 h1 => ?_⟩
    split at h1
    · rename_i k hk
      exact ⟨k, hk, h1 w1 rfl (Ext.refl w1) r1⟩
    · exact h1.elim
/-- at a turn of a comprehension -/
structure St0 (G : Gx) (p : Addr) (wb wy : Wd) (acc : List D) (H : Hp) (u : Wd) : Prop where
  hH : u.H = H
  rel : Rel G u
  eg : ExtG p wb u
  sb : Sub wy u
  hp : ∃ vs, u.H p = some (.lst vs) ∧ RPs G u acc vs
theorem St0.nat {p : Addr} {wb wy : Wd} {acc : List D} {H : Hp} {u : Wd} (s : St0 G p wb wy acc H u) : ¬ u.At p := fun ⟨i, cc, q, nd, m⟩ => s.rel.ngh i cc q nd (by rw [m]; exact (s.eg.gh p).mpr (.inr rfl))
theorem St0.step {p : Addr} {wb wy : Wd} {acc : List D} {H : Hp} {u u' : Wd} (s : St0 G p wb wy acc H u) (e : Ext u u') (r : Rel G u') : St0 G p wb wy acc u'.H u' :=
  ⟨rfl, r, s.eg.trans s.rel e, s.sb.trans e.sub, let ⟨vs, h1, h2⟩ := s.hp; ⟨vs, e.keep p _ h1 s.nat, h2.mono e⟩⟩
/-- the walk of one clause: what is reached at its end -/
theorem turns {K : PySem.W.Frag} {p : Addr} {wb wy u0 : Wd} {J : L2.It} {xs acc0 ds : List D} {gd : Guard} {env : Env} {σ : L2.St} {vs : List Nat} {H0 : Hp} {ηe : Hs} {End : Hp → Prop} (Y : Yields K G loose wy J xs gd) (er : EnvR G wy env σ) (hns : ∀ j ∈ tgN t, j ∈ vs)
    (hl : cloop gd (fun x η => (asT C t x (Ip.wipe env vs) η).calm) (fun env η => (evIfs C es env η).calm) (fun env η => (evE C a env η).calm) xs u0.η acc0.reverse = .ok ds ηe) (s0 : St0 G p wb wy acc0 H0 u0) (hEnd : ∀ u H, u.η = ηe → St0 G p wb wy ds H u → End H) :
    ∃ W : Nat → Nat → Hp → Prop, (∃ m, W 0 m H0) ∧ ∀ i m H, W i m H → (J.stop i H ∧ End H) ∨ (J.go i H ∧ ∃ Nx : Hp → Prop, (∀ H', Nx H' → ∃ m', m' < m ∧ W (i + 1) m' H') ∧ ∀ x H', J.yld i H x H' →
      tG C G Wno loose t x (L2.wipe σ vs) H' fun σ2 H2 => L2.wipe σ2 vs = L2.wipe σ vs ∧ tIfs C G Wno es σ2 H2 fun b H3 =>
        if b = true then tE C G Wno a σ2 H3 fun y H4 => ∃ acc, H4 p = some (.lst acc) ∧ acc.length < sizeLine ∧ Nx (upd H4 p (.lst (acc ++ [y]))) else Nx H3) := by
  let Pv : Nat → Hp → Prop := fun i H => ∃ u acc, St0 G p wb wy acc H u ∧ i ≤ xs.length ∧ cloop gd (fun x η => (asT C t x (Ip.wipe env vs) η).calm) (fun env η => (evIfs C es env η).calm) (fun env η => (evE C a env η).calm) (xs.drop i) u.η acc.reverse = .ok ds ηe
  refine ⟨fun i m H => m = xs.length - i ∧ Pv i H, ⟨_, rfl, u0, acc0, s0, Nat.zero_le _, hl⟩, fun i m H ⟨hm, u, acc, st, hi, hc⟩ => ?_⟩
  have hH := st.hH
  subst hH
  by_cases lt : i < xs.length
  · right
    rw [List.drop_eq_getElem_cons lt, cloop] at hc
    split at hc
    · rename_i ck
      obtain ⟨g1, g2⟩ := Y.go u st.sb st.rel ck i lt
      obtain ⟨env1, η1, c1, hc⟩ := bind_ok hc
      obtain ⟨bb, η2, c2, hc⟩ := bind_ok hc
      have c1 := calm_ok c1
      have c2 := calm_ok c2
      refine ⟨g1, Pv (i + 1), fun H' h' => ⟨xs.length - (i + 1), by omega, rfl, h'⟩, fun x H' y => ?_⟩
      obtain ⟨w', dd, e1, e2, e3, r', e4, ri⟩ := g2 x H' y
      have ed : dd = xs[i] := by rw [List.getElem?_eq_getElem lt] at e4; exact (Option.some.inj e4).symm
      subst ed
      subst e1
      refine ⟨Ip.wipe env vs, w', _, rfl, r', ((er.sub st.sb).mono e3).wipe vs, ri, ?_⟩
      rw [e2, c1]
      intro w2 h2 x2 r2 σ1 er1 off
      have st2 := (st.step e3 r').step x2 r2
      refine ⟨(off.wipe hns).trans wipe_wipe, env1, w2, rfl, r2, er1, ?_⟩
      rw [h2, c2]
      intro w3 h3 x3 r3
      have st3 := st2.step x3 r3
      cases bb with
      | false =>
        show (if false = true then _ else _)
        rw [if_neg (by decide)]
        exact ⟨w3, acc, st3, lt, by rw [h3]; exact hc⟩
      | true =>
        show (if true = true then _ else _)
        rw [if_pos rfl]
        obtain ⟨d, η3, c3, hc⟩ := bind_ok hc
        have c3 := calm_ok c3
        refine ⟨env1, w3, rfl, r3, er1.mono x3, ?_⟩
        rw [h3, c3]
        intro w4 h4 x4 r4 v qv
        have st4 := st3.step x4 r4
        split at hc
        · rename_i hk
          rw [Bool.and_eq_true, bltN, decide_eq_true_eq, sizeMax_eq, List.length_reverse] at hk
          obtain ⟨us, hp, rs⟩ := st4.hp
          have gp : w4.gh p := (st4.eg.gh p).mpr (.inr rfl)
          have sp := gput_sub (o := .lst (us ++ [v])) gp
          refine ⟨us, hp, by rw [← rs.length]; exact hk.2, w4.gput p (.lst (us ++ [v])), acc ++ [d], ⟨rfl, gput_rel r4 gp, st4.eg.gput, st4.sb.trans sp, _, upd_same, (rs.sub sp).append (.cons ((qv.rp hk.1).sub sp) .nil)⟩, lt, ?_⟩
          rw [List.reverse_append]
          show cloop gd _ _ _ (xs.drop (i + 1)) w4.η (d :: acc.reverse) = _
          rw [h4]
          exact hc
        · cases hc
    · cases hc
  · left
    have ei : i = xs.length := by omega
    subst ei
    rw [List.drop_length, cloop] at hc
    split at hc
    · rename_i ck
      simp only [List.reverse_reverse, R.ok.injEq] at hc
      obtain ⟨rfl, rfl⟩ := hc
      exact ⟨Y.stop u st.sb st.rel ck, hEnd u u.H rfl st⟩
    · cases hc
theorem ghost_st {p : Addr} {w1 : Wd} (r1 : Rel G w1) (hp : w1.H p = none) : St0 G p w1 w1 [] (upd w1.H p (.lst [])) (w1.ghost p (.lst [])) :=
  ⟨rfl, ghost_rel r1 hp _, ghost_ext r1 hp _, (ghost_ext r1 hp _).sub, [], upd_same, .nil⟩
theorem comp_read {K : PySem.W.Frag} {it : It} {vs : List Nat} {σ : L2.St} {H : Hp} {Q : VK} {env : Env} {w : Wd} (hns : ∀ j ∈ tgN t, j ∈ vs) (hw : w.H = H) (rel : Rel G w) (er : EnvR G w env σ) (h : Out G w (Wat W σ) (PE1 G Q) (evE C (.comp c a t vs it es) env w.η)) :
    tLc (tIt C G W K loose it) (tG C G Wno loose t) (tIfs C G Wno es) (tE C G Wno a) vs σ H Q := by
  subst hw
  unfold evE at h
  refine ⟨env, w, rfl, rel, er, h.bind.mono fun w1 r e1 r1 h1 J Y D hD => ?_⟩
  have nx := cloop_nx (g := r.2) (fun x η => calm_nx (asT C t x (Ip.wipe env vs) η)) (fun env η => calm_nx (evIfs C es env η)) (fun env η => calm_nx (evE C a env η)) r.1 w1.η []
  cases hr : cloop r.2 (fun x η => (asT C t x (Ip.wipe env vs) η).calm) (fun env η => (evIfs C es env η).calm) (fun env η => (evE C a env η).calm) r.1 w1.η [] with
  | bad => rw [hr] at h1; exact h1.elim
  | ex x η => exact absurd hr (nx x η)
  | ok ds ηe =>
    rw [hr] at h1
    refine turns (u0 := w1.ghost D (.lst [])) (acc0 := []) Y (er.mono e1) hns hr (ghost_st r1 hD) fun u H hu st => ?_
    obtain ⟨us, hp, rs⟩ := st.hp
    have hH := st.hH
    subst hH
    exact ghost_done r1 st.eg st.rel hp rs (by rw [hu]; exact h1)
theorem nd_comp {elt tg iter : Expr} {ifs : List Expr} {it : It} {scope : Scope} {own : List (Str × Nat)} (hc : X.calm = true) (hN : X.N.Nodup) (hi : PI X tg iter (tIt C G W X.K loose it)) (ok : BlkOk X.N X.env.scope scope own) (hns : ∀ j ∈ tgN t, j ∈ own.map (·.2))
    (hg : ∀ (s : Shared) (H : Hp) (D : Addr) (cl : List (Str × Addr)) (fp : List Addr), PG (X.blk s H scope (compEnvC scope cl D X.env) fp) tg (tG C G Wno loose t)) (ht : ∀ (s : Shared) (H : Hp) (D : Addr) (cl : List (Str × Addr)) (fp : List Addr), PTs (X.blk s H scope (compEnvC scope cl D X.env) fp) ifs (tIfs C G Wno es))
    (he : ∀ (s : Shared) (H : Hp) (D : Addr) (cl : List (Str × Addr)) (fp : List Addr), PE (X.blk s H scope (compEnvC scope cl D X.env) fp) elt (tE C G Wno a)) (hs : ∀ x, foldedSetIterable iter X.env x = pure x) :
    PE X (.ListComp elt [⟨tg, iter, ifs, 0⟩] scope pos) (tE C G W (.comp c a t (own.map (·.2)) it es)) :=
  PEimp (pe_lc hc hN hi ok hg ht he hs) fun σ H Q ⟨env, w, hw, rel, er, h⟩ => comp_read hns hw rel er h
theorem cloop2_nx {g : Guard} {asg : D → Hs → R Env} {it2 : Env → Hs → R (List D × Guard)} {inner : Env → List D × Guard → Hs → List D → R (List D)} (h1 : ∀ x η, NX (asg x η)) (h2 : ∀ x η, NX (it2 x η)) (h3 : ∀ x y η z, NX (inner x y η z)) : ∀ xs η acc, NX (cloop2 g asg it2 inner xs η acc)
  | [], η, acc => by
    rw [cloop2]
    split <;> (intro x h e; cases e)
  | x :: xs, η, acc => by
    rw [cloop2]
    split
    · exact bind_nx (h1 _ _) fun env η => bind_nx (h2 _ _) fun b η => bind_nx (h3 _ _ _ _) fun ds η => cloop2_nx h1 h2 h3 xs _ _
    · intro x h e; cases e
/-- the walk of the first of two clauses -/
theorem turns2 {t2 : T} {it2 : It} {loose2 : Bool} {K : PySem.W.Frag} {p : Addr} {wb wy u0 : Wd} {J : L2.It} {xs acc0 ds : List D} {gd : Guard} {env : Env} {σ : L2.St} {vs vs1 : List Nat} {H0 : Hp} {ηe : Hs} {End : Hp → Prop} (Y : Yields K G loose wy J xs gd) (er : EnvR G wy env σ) (hns : ∀ j ∈ tgN t, j ∈ vs) (hns1 : ∀ j ∈ tgN t2, j ∈ vs1)
    (hl : cloop2 gd (fun x η => (asT C t x (Ip.wipe env vs) η).calm) (fun env η => (evIt C it2 env η).calm) (fun env ys η acc => cloop ys.2 (fun y η => (asT C t2 y (Ip.wipe env vs1) η).calm) (fun env η => (evIfs C es env η).calm) (fun env η => (evE C a env η).calm) ys.1 η acc) xs u0.η acc0.reverse = .ok ds ηe)
    (s0 : St0 G p wb wy acc0 H0 u0) (hEnd : ∀ u H, u.η = ηe → St0 G p wb wy ds H u → End H) :
    ∃ W : Nat → Nat → Hp → Prop, (∃ m, W 0 m H0) ∧ ∀ i m H, W i m H → (J.stop i H ∧ End H) ∨ (J.go i H ∧ ∃ Nx : Hp → Prop, (∀ H', Nx H' → ∃ m', m' < m ∧ W (i + 1) m' H') ∧ ∀ x H', J.yld i H x H' →
      tG C G Wno loose t x (L2.wipe σ vs) H' fun σ2 H2 => L2.wipe σ2 vs = L2.wipe σ vs ∧ tIfs C G Wno .nil σ2 H2 fun b H3 =>
        if b = true then tIt C G Wno K loose2 it2 σ2 H3 fun J1 H4 => ∃ W1 : Nat → Nat → Hp → Prop, (∃ m, W1 0 m H4) ∧ ∀ j k H, W1 j k H → (J1.stop j H ∧ Nx H) ∨ (J1.go j H ∧ ∃ Nx1 : Hp → Prop, (∀ H', Nx1 H' → ∃ k', k' < k ∧ W1 (j + 1) k' H') ∧ ∀ x H', J1.yld j H x H' →
          tG C G Wno loose2 t2 x (L2.wipe σ2 vs1) H' fun σ3 H5 => L2.wipe σ3 vs1 = L2.wipe σ2 vs1 ∧ tIfs C G Wno es σ3 H5 fun b H6 =>
            if b = true then tE C G Wno a σ3 H6 fun y H7 => ∃ acc, H7 p = some (.lst acc) ∧ acc.length < sizeLine ∧ Nx1 (upd H7 p (.lst (acc ++ [y]))) else Nx1 H6)
        else Nx H3) := by
  let loop := cloop2 gd (fun x η => (asT C t x (Ip.wipe env vs) η).calm) (fun env η => (evIt C it2 env η).calm) (fun env ys η acc => cloop ys.2 (fun y η => (asT C t2 y (Ip.wipe env vs1) η).calm) (fun env η => (evIfs C es env η).calm) (fun env η => (evE C a env η).calm) ys.1 η acc)
  let Pv : Nat → Hp → Prop := fun i H => ∃ u acc, St0 G p wb wy acc H u ∧ i ≤ xs.length ∧ loop (xs.drop i) u.η acc.reverse = .ok ds ηe
  refine ⟨fun i m H => m = xs.length - i ∧ Pv i H, ⟨_, rfl, u0, acc0, s0, Nat.zero_le _, hl⟩, fun i m H ⟨hm, u, acc, st, hi, hc⟩ => ?_⟩
  have hH := st.hH
  subst hH
  have hc : cloop2 gd (fun x η => (asT C t x (Ip.wipe env vs) η).calm) (fun env η => (evIt C it2 env η).calm) (fun env ys η acc => cloop ys.2 (fun y η => (asT C t2 y (Ip.wipe env vs1) η).calm) (fun env η => (evIfs C es env η).calm) (fun env η => (evE C a env η).calm) ys.1 η acc) (xs.drop i) u.η acc.reverse = .ok ds ηe := hc
  by_cases lt : i < xs.length
  · right
    rw [List.drop_eq_getElem_cons lt, cloop2] at hc
    split at hc
    · rename_i ck
      obtain ⟨g1, g2⟩ := Y.go u st.sb st.rel ck i lt
      obtain ⟨env1, η1, c1, hc⟩ := bind_ok hc
      obtain ⟨ys, η2, c2, hc⟩ := bind_ok hc
      obtain ⟨ds1, η3, c3, hc⟩ := bind_ok hc
      have c1 := calm_ok c1
      have c2 := calm_ok c2
      refine ⟨g1, Pv (i + 1), fun H' h' => ⟨xs.length - (i + 1), by omega, rfl, h'⟩, fun x H' y => ?_⟩
      obtain ⟨w', dd, e1, e2, e3, r', e4, ri⟩ := g2 x H' y
      have ed : dd = xs[i] := by rw [List.getElem?_eq_getElem lt] at e4; exact (Option.some.inj e4).symm
      subst ed
      subst e1
      refine ⟨Ip.wipe env vs, w', _, rfl, r', ((er.sub st.sb).mono e3).wipe vs, ri, ?_⟩
      rw [e2, c1]
      intro w2 h2 x2 r2 σ1 er1 off
      have st2 := (st.step e3 r').step x2 r2
      refine ⟨(off.wipe hns).trans wipe_wipe, env1, w2, rfl, r2, er1, ?_⟩
      unfold evIfs
      intro w3 h3 x3 r3
      have st3 := st2.step x3 r3
      show (if true = true then _ else _)
      rw [if_pos rfl]
      refine ⟨env1, w3, rfl, r3, er1.mono x3, ?_⟩
      rw [h3, h2, c2]
      intro w4 h4 x4 r4 J1 Y1
      have st4 := st3.step x4 r4
      have st5 : St0 G p wb w4 acc w4.H w4 := ⟨rfl, r4, st4.eg, (Ext.refl w4).sub, st4.hp⟩
      rw [← h4] at c3
      refine turns (vs := vs1) Y1 ((er1.mono x3).mono x4) hns1 c3 st5 fun u' H hu st' => ?_
      exact ⟨u', ds1, ⟨st'.hH, st'.rel, st'.eg, st4.sb.trans st'.sb, st'.hp⟩, lt, by rw [hu]; exact hc⟩
    · cases hc
  · left
    have ei : i = xs.length := by omega
    subst ei
    rw [List.drop_length, cloop2] at hc
    split at hc
    · rename_i ck
      simp only [List.reverse_reverse, R.ok.injEq] at hc
      obtain ⟨rfl, rfl⟩ := hc
      exact ⟨Y.stop u st.sb st.rel ck, hEnd u u.H rfl st⟩
    · cases hc
theorem comp2_read {t2 : T} {it2 : It} {loose2 : Bool} {K : PySem.W.Frag} {it : It} {vs vs1 : List Nat} {σ : L2.St} {H : Hp} {Q : VK} {env : Env} {w : Wd} (hns : ∀ j ∈ tgN t, j ∈ vs ++ vs1) (hns1 : ∀ j ∈ tgN t2, j ∈ vs1) (hw : w.H = H) (rel : Rel G w) (er : EnvR G w env σ) (h : Out G w (Wat W σ) (PE1 G Q) (evE C (.comp2 c a t vs it t2 vs1 it2 es) env w.η)) :
    tLc2 (tIt C G W K loose it) (tG C G Wno loose t) (tIfs C G Wno .nil) (tIt C G Wno K loose2 it2) (tG C G Wno loose2 t2) (tIfs C G Wno es) (tE C G Wno a) (vs ++ vs1) vs1 σ H Q := by
  subst hw
  unfold evE at h
  refine ⟨env, w, rfl, rel, er, h.bind.mono fun w1 r e1 r1 h1 J Y D hD => ?_⟩
  have nx := cloop2_nx (g := r.2) (fun x η => calm_nx (asT C t x (Ip.wipe env (vs ++ vs1)) η)) (fun env η => calm_nx (evIt C it2 env η)) (fun env (ys : List Ip.D × Guard) η acc => cloop_nx (g := ys.2) (fun y η => calm_nx (asT C t2 y (Ip.wipe env vs1) η)) (fun env η => calm_nx (evIfs C es env η)) (fun env η => calm_nx (evE C a env η)) ys.1 η acc) r.1 w1.η []
  cases hr : cloop2 r.2 (fun x η => (asT C t x (Ip.wipe env (vs ++ vs1)) η).calm) (fun env η => (evIt C it2 env η).calm) (fun env ys η acc => cloop ys.2 (fun y η => (asT C t2 y (Ip.wipe env vs1) η).calm) (fun env η => (evIfs C es env η).calm) (fun env η => (evE C a env η).calm) ys.1 η acc) r.1 w1.η [] with
  | bad => rw [hr] at h1; exact h1.elim
  | ex x η => exact absurd hr (nx x η)
  | ok ds ηe =>
    rw [hr] at h1
    refine turns2 (u0 := w1.ghost D (.lst [])) (acc0 := []) (vs := vs ++ vs1) Y (er.mono e1) hns hns1 hr (ghost_st r1 hD) fun u H hu st => ?_
    obtain ⟨us, hp, rs⟩ := st.hp
    have hH := st.hH
    subst hH
    exact ghost_done r1 st.eg st.rel hp rs (by rw [hu]; exact h1)
end
end Ip
namespace Ip
open PySem PySem.Spec PyProof.Rows L2

/-! ### statements -/
theorem Off.trans' {A : List Nat} {σ σ1 σ2 : L2.St} (a : Off A σ σ1) (b : Off A σ1 σ2) : Off A σ σ2 := ⟨b.1.trans a.1, fun j h => (b.2 j h).trans (a.2 j h)⟩
theorem Off.mono {A B : List Nat} {σ σ1 : L2.St} (a : Off A σ σ1) (h : ∀ j ∈ A, j ∈ B) : Off B σ σ1 := ⟨a.1, fun j n => a.2 j fun z => n (h j z)⟩
theorem off_set {A : List Nat} {σ : L2.St} {i : Nat} {v : Option V} (h : i ∈ A) : Off A σ (σ.set i v) := Off.set.mono fun j hj => by rw [List.mem_singleton.mp hj]; exact h
theorem Off.nil {σ σ1 : L2.St} (a : Off [] σ σ1) : σ1 = σ := List.ext_getElem? fun j => a.2 j (List.not_mem_nil)
/-- the wish is kept where the slots at A change -/
def WA (W : L2.WX) (A : List Nat) : Prop := WOf W A
theorem Off.symm {A : List Nat} {σ σ1 : L2.St} (a : Off A σ σ1) : Off A σ1 σ := ⟨a.1.symm, fun j h => (a.2 j h).symm⟩
theorem WA.at {W : L2.WX} {A : List Nat} (h : WA W A) {σ σ1 : L2.St} (o : Off A σ σ1) : ∀ c d H, Wat W σ c d H ↔ Wat W σ1 c d H := fun c d H => ⟨h c d σ σ1 H o, h c d σ1 σ H o.symm⟩
def FEnd (G : Gx) (A : List Nat) (D : Ends) (σ : L2.St) : Wd → F → Prop := fun w f => match f with
  | .nx env => ∀ σ1, EnvR G w env σ1 → Off A σ σ1 → D.nx σ1 w.H
  | .rt d => ∀ v, RV G w d v → D.rt v w.H
  | .bk env => ∀ σ1, EnvR G w env σ1 → Off A σ σ1 → D.bk σ1 w.H
  | .ct env => ∀ σ1, EnvR G w env σ1 → Off A σ σ1 → D.ct σ1 w.H
def tS (C : Ip.Cx) (G : Gx) (W : L2.WX) (A : List Nat) (s : S) : TS := fun D σ H => ∃ env w, w.H = H ∧ Rel G w ∧ EnvR G w env σ ∧ Out G w (Wat W σ) (FEnd G A D σ) (evS C s env w.η)
def tSs (C : Ip.Cx) (G : Gx) (W : L2.WX) (A : List Nat) (s : Ss) : TS := fun D σ H => ∃ env w, w.H = H ∧ Rel G w ∧ EnvR G w env σ ∧ Out G w (Wat W σ) (FEnd G A D σ) (evSs C s env w.η)
section
variable {X : L2.Cx} {C : Ip.Cx} {G : Gx} {W : L2.WX} {A : List Nat} {a b e : E} {a' b' e' : Expr} {es : Es} {es' : List Expr} {t : T} {t' : Expr} {s : S} {s' : Stmt} {r : Ss} {r' : List Stmt} {pos p2 p3 : Pos} {c loose : Bool}
theorem PSimp {t t' : TS} (h : PS X s' t) (k : ∀ D σ H, t' D σ H → t D σ H) : PS X s' t' := ⟨fun pins s σ H D I q => h.run pins s σ H D I (k D σ H q)⟩
theorem PSsimp {t t' : TS} (h : PSs X r' t) (k : ∀ D σ H, t' D σ H → t D σ H) : PSs X r' t' := ⟨fun pins s σ H D I q => h.run pins s σ H D I (k D σ H q)⟩
theorem nd_snil : PSs X [] (tSs C G W A .nil) :=
  PSsimp pss_nil fun D σ H ⟨env, w, hw, rel, er, h⟩ => by
    subst hw
    unfold evSs at h
    exact h w rfl (Ext.refl w) rel σ er (Off.refl _ _)
theorem nd_scons (hW : WA W A) (h1 : PS X s' (tS C G W A s)) (h2 : PSs X r' (tSs C G W A r)) : PSs X (s' :: r') (tSs C G W A (.cons s r)) :=
  PSsimp (pss_cons h1 h2) fun D σ H ⟨env, w, hw, rel, er, h⟩ => by
    subst hw
    unfold evSs at h
    refine ⟨env, w, rfl, rel, er, h.bind.mono fun w1 f e1 r1 h1 => ?_⟩
    cases f with
    | nx env1 =>
      intro σ1 er1 off
      refine ⟨env1, w1, rfl, r1, er1, Out.wish (h1.mono fun w2 f e2 r2 k => ?_) fun c d H q => (hW.at off c d H).mp q⟩
      cases f with
      | nx env2 => exact fun σ2 er2 off2 => k σ2 er2 (off.trans' off2)
      | rt d => exact k
      | bk env2 => exact fun σ2 er2 off2 => k σ2 er2 (off.trans' off2)
      | ct env2 => exact fun σ2 er2 off2 => k σ2 er2 (off.trans' off2)
    | rt d => exact h1 w1 rfl (Ext.refl w1) r1
    | bk env1 => exact h1 w1 rfl (Ext.refl w1) r1
    | ct env1 => exact h1 w1 rfl (Ext.refl w1) r1
theorem EnvR.at {w : Wd} {env : Env} {σ : L2.St} {i : Nat} {d : D} {v : V} (h : EnvR G w env σ) (e : σ[i]? = some (some v)) (q : RV G w d v) : EnvR G w (env.set i (some d)) σ := by
  refine ⟨by rw [List.length_set]; exact h.1, fun j x ej => ?_⟩
  rw [List.getElem?_set] at ej
  by_cases z : i = j
  · subst z
    rw [if_pos rfl] at ej
    split at ej
    · cases ej; exact ⟨v, e, q⟩
    · cases ej
  · rw [if_neg z] at ej
    exact h.2 j x ej
theorem nd_frz {i : Nat} (h : PSs X r' (tSs C G W A r)) : PSs X r' (tSs C G W A (.frz i r)) :=
  PSsimp h fun D σ H ⟨env, w, hw, rel, er, h⟩ => by
    subst hw
    unfold evSs at h
    split at h
    · rename_i env1 η1 hf
      unfold freeze at hf
      split at hf
      · rename_i l hl
        split at hf
        · rename_i xs hη
          cases hf
          obtain ⟨v, hv, q⟩ := er.2 i _ hl
          obtain ⟨_, rfl⟩ := q.loc
          obtain ⟨vs, e1, rp⟩ := rel.frozen hη
          exact ⟨_, w.kill l, rfl, rel.kill, (er.mono Ext.kill).at hv (.inl rp), Out.of rel.kill Ext.kill h⟩
        · cases hf
      · cases hf
        exact ⟨env, w, rfl, rel, er, h⟩
      · cases hf
    · exact h.elim
theorem nd_frzL {i : Nat} (h : PSs X r' (tSs C G W A r)) : PSs X r' (tSs C G W A (.frzL i r)) :=
  PSsimp h fun D σ H ⟨env, w, hw, rel, er, h⟩ => by
    subst hw
    unfold evSs at h
    split at h
    · rename_i η1 hf
      unfold freezeL at hf
      split at hf
      · rename_i l hl
        split at hf
        · rename_i xs j hη
          split at hf
          · rename_i ys hj
            cases hf
            obtain ⟨vs, h1, h2, h3⟩ := rel.cell l _ hη
            obtain ⟨us, e1, rp⟩ := rel.frozen hj
            have ne : j ≠ l := fun z => by subst z; rw [hj] at hη; cases hη
            have hη1 : (w.kill j).η[l]? = some (.lsl xs j) := by
              show (w.η.set j .dead)[l]? = _
              rw [List.getElem?_set, if_neg ne]; exact hη
            have r1 : Rel G (w.kill j) := rel.kill
            have x1 : Ext w (w.kill j) := Ext.kill
            have x2 : Ext (w.kill j) ((w.kill j).put l (.lst (xs ++ [.lst ys])) (.lst (vs ++ [.ref (w.mp j)]))) := Ext.put hη1 id
            have r2 : Rel G ((w.kill j).put l (.lst (xs ++ [.lst ys])) (.lst (vs ++ [.ref (w.mp j)]))) := r1.put hη1 id ⟨_, upd_same, ((h2.mono x1).append (.cons rp .nil)).mono x2⟩
            have sameH : ((w.kill j).put l (.lst (xs ++ [.lst ys])) (.lst (vs ++ [.ref (w.mp j)]))).H = w.H := by
              funext b
              show upd w.H (w.mp l) (.lst (vs ++ [.ref (w.mp j)])) b = w.H b
              by_cases z : b = w.mp l
              · rw [z, upd_same]; exact h1.symm
              · exact upd_ne z
            exact ⟨env, _, sameH, r2, (er.mono x1).mono x2, Out.of r2 (x1.trans r1 x2) h⟩
          · cases hf
        · cases hf
      · cases hf
    · exact h.elim
theorem swaps_none {tg : Option Expr} {l : Nat} {env : PySem.Env} (h : notComp e' = true) : swapsWith e' tg l env = pure false := by
  cases e' <;> first | rfl | cases h
theorem stores_none {env : PySem.Env} (h : (isTupE t' && isTupV e') = false) : swappedStores [t'] e' env = pure none := by
  cases t' <;> first | rfl | (cases e' <;> first | rfl | cases h)
theorem assign_one {env : PySem.Env} (h : notStar t' = true) : (assignEach [t'] env).map (·.2) = [assign t' env] := by rw [assign_cons h]; rfl
theorem nd_asg (hW : WA W A) (hA : ∀ j ∈ tgN t, j ∈ A) (hn : notStar t' = true) (hv : notComp e' = true) (ht : (isTupE t' && isTupV e') = false) (he : PE X e' (tE C G W e)) (hg : PG X t' (tG C G W false t)) : PS X (.Assign [t'] e' pos) (tS C G W A (.asg t e)) :=
  PSimp (ps_asg he hg (swaps_none hv) (stores_none ht) (assign_one hn)) fun D σ H ⟨env, w, hw, rel, er, h⟩ => by
    subst hw
    unfold evS at h
    refine ⟨env, w, rfl, rel, er, h.bind.mono fun w1 d e1 r1 h1 v qv => ?_⟩
    exact ⟨env, w1, d, rfl, r1, er.mono e1, .inl ⟨rfl, qv⟩, h1.bind.mono fun w2 env2 e2 r2 h2 σ2 er2 off => h2 w2 rfl (Ext.refl w2) r2 σ2 er2 (off.mono hA)⟩
/-- the same, whatever W asks: a store at the end -/
theorem nd_asg0 (hA : ∀ j ∈ tgN t, j ∈ A) (hn : notStar t' = true) (hv : notComp e' = true) (ht : (isTupE t' && isTupV e') = false) (he : PE X e' (tE C G W e)) (hg : PG X t' (tG C G W false t)) : PS X (.Assign [t'] e' pos) (tS C G W A (.asg t e)) :=
  PSimp (ps_asg he hg (swaps_none hv) (stores_none ht) (assign_one hn)) fun D σ H ⟨env, w, hw, rel, er, h⟩ => by
    subst hw
    unfold evS at h
    refine ⟨env, w, rfl, rel, er, h.bind.mono fun w1 d e1 r1 h1 v qv => ?_⟩
    exact ⟨env, w1, d, rfl, r1, er.mono e1, .inl ⟨rfl, qv⟩, h1.bind.mono fun w2 env2 e2 r2 h2 σ2 er2 off => h2 w2 rfl (Ext.refl w2) r2 σ2 er2 (off.mono hA)⟩
theorem nd_sone (h1 : PS X s' (tS C G W A s)) : PSs X [s'] (tSs C G W A (.cons s .nil)) :=
  PSsimp (pss_cons h1 pss_nil) fun D σ H ⟨env, w, hw, rel, er, h⟩ => by
    subst hw
    unfold evSs at h
    refine ⟨env, w, rfl, rel, er, h.bind.mono fun w1 f e1 r1 h1 => ?_⟩
    cases f with
    | nx env1 =>
      intro σ1 er1 off
      unfold evSs at h1
      exact h1 w1 rfl (Ext.refl w1) r1 σ1 er1 off
    | rt d => exact h1 w1 rfl (Ext.refl w1) r1
    | bk env1 => exact h1 w1 rfl (Ext.refl w1) r1
    | ct env1 => exact h1 w1 rfl (Ext.refl w1) r1
/-- name = [..] -/
theorem nd_asgc {i : Nat} {te : TE} {x : Str} {py : Pos} (hW : WA W A) (hA : i ∈ A) (h : PS X (.Assign [.Name x py] e' pos) (tAsg te (gName i))) (hr : ∀ σ H Q, tE C G W e σ H Q → te σ H Q) : PS X (.Assign [.Name x py] e' pos) (tS C G W A (.asg (.name i) e)) :=
  PSimp h fun D σ H ⟨env, w, hw, rel, er, h⟩ => by
    subst hw
    unfold evS at h
    refine hr _ _ _ ⟨env, w, rfl, rel, er, h.bind.mono fun w1 d e1 r1 h1 v qv => ?_⟩
    unfold asT at h1
    exact h1 w1 rfl (Ext.refl w1) r1 _ ((er.mono e1).set qv) (Off.set.mono fun j hj => by rw [List.mem_singleton.mp hj]; exact hA)
theorem nd_par {ts : Ts} {ts' : List Expr} {k k2 : Nat} (hK : X.K = G.K) (hW : WA W A) (hA : ∀ j ∈ tgNs ts, j ∈ A) (hc : X.calm = true) (hn : noStars ts' = true) (hl : ts.len = ts'.length) (hsw : swappedStores [.Tuple ts' k p2] (.Tuple es' k2 p3) X.env = pure none)
    (he : PA X es' (tEs C G W es)) (hg : PGs X ts' (tGs C G W ts)) : PS X (.Assign [.Tuple ts' k p2] (.Tuple es' k2 p3) pos) (tS C G W A (.par ts es)) :=
  PSimp (ps_asg (pe_tup (x1 := k2) (pos := p3) he) (pg_tup (k := k) (pos := p2) hc hg (assign_len hn).1 (assign_len hn).2) rfl hsw rfl) fun D σ H ⟨env, w, hw, rel, er, h⟩ => by
    subst hw
    unfold evS at h
    refine ⟨env, w, rfl, rel, er, h.bind.mono fun w1 ds e1 r1 h1 vs qv => ?_⟩
    split at h1
    · rename_i kk
      rw [Bool.and_eq_true, beqN, bleN, decide_eq_true_eq, decide_eq_true_eq, hl] at kk
      have len := qv.length
      refine ⟨by rw [sizeLine_eq]; omega, fun p hp => ?_⟩
      have e2 := Ext.lay r1 hp (.tup vs)
      have r2 := r1.lay hp (.tup vs)
      refine ⟨p, vs, rfl, SqT.of upd_same, by omega, env, w1.lay p (.tup vs), ds, rfl, r2, (er.mono e1).mono e2, qv.mono e2, ?_⟩
      exact (Out.of r2 e2 h1).bind.mono fun w2 env2 e3 r3 h2 σ2 er2 off => h2 w2 rfl (Ext.refl w2) r3 σ2 er2 (off.mono hA)
    · exact h1.elim
/-- two stores, swapped -/
theorem nd_swp2 {i j : Nat} {x y : Str} {a1 b1 : Expr} {px py : Pos} {kt k2 : Nat} (hA : i ∈ A ∧ j ∈ A) (hc : X.calm = true) (hN : X.N.Nodup) (hi : X.N[i]? = some x) (hj : X.N[j]? = some y) (hij : i ≠ j) (hx : X.env.scope.names.lookup x = some .local) (hy : X.env.scope.names.lookup y = some .local)
    (ha : PA X [a1, b1] (tEs C G W es)) (hsw : swappedStores [.Tuple [.Name x px, .Name y py] kt p2] (.Tuple [a1, b1] k2 p3) X.env = pure (some [x, y])) :
    PS X (.Assign [.Tuple [.Name x px, .Name y py] kt p2] (.Tuple [a1, b1] k2 p3) pos) (tS C G W A (.swp [i, j] es)) :=
  PSimp (ps_par hc hN hi hj hij hx hy ha hsw) fun D σ H ⟨env, w, hw, rel, er, h⟩ => by
    subst hw
    unfold evS at h
    refine ⟨env, w, rfl, rel, er, h.bind.mono fun w1 ds e1 r1 h1 vs qv => ?_⟩
    have er := er.mono e1
    match ds, qv with
    | [d1, d2], qv =>
      obtain ⟨v1, v2, rfl, q1, q2⟩ := RVs.two qv
      simp only [setAll] at h1
      refine ⟨v1, v2, rfl, h1 w1 rfl (Ext.refl w1) r1 _ ((er.set q1).set q2) ?_⟩
      exact (off_set hA.1).trans' (off_set hA.2)
    | [], _ => simp only [setAll] at h1; exact h1.elim
    | [_], _ => simp only [setAll] at h1; exact h1.elim
    | _ :: _ :: _ :: _, _ => simp only [setAll] at h1; exact h1.elim
/-- three stores, swapped -/
theorem nd_swp3 {i j l : Nat} {x y z : Str} {a1 b1 c1 : Expr} {px py pz : Pos} {kt k2 : Nat} (hA : i ∈ A ∧ j ∈ A ∧ l ∈ A) (hc : X.calm = true) (hN : X.N.Nodup) (hi : X.N[i]? = some x) (hj : X.N[j]? = some y) (hl : X.N[l]? = some z) (hij : i ≠ j) (hil : i ≠ l) (hjl : j ≠ l) (hx : X.env.scope.names.lookup x = some .local) (hy : X.env.scope.names.lookup y = some .local) (hz : X.env.scope.names.lookup z = some .local)
    (ha : PA X [a1, b1, c1] (tEs C G W es)) (hsw : swappedStores [.Tuple [.Name x px, .Name y py, .Name z pz] kt p2] (.Tuple [a1, b1, c1] k2 p3) X.env = pure (some [x, y, z])) :
    PS X (.Assign [.Tuple [.Name x px, .Name y py, .Name z pz] kt p2] (.Tuple [a1, b1, c1] k2 p3) pos) (tS C G W A (.swp [i, j, l] es)) :=
  PSimp (ps_par3 hc hN hi hj hl hij hil hjl hx hy hz ha hsw) fun D σ H ⟨env, w, hw, rel, er, h⟩ => by
    subst hw
    unfold evS at h
    refine ⟨env, w, rfl, rel, er, h.bind.mono fun w1 ds e1 r1 h1 vs qv => ?_⟩
    have er := er.mono e1
    match ds, qv with
    | [d1, d2, d3], qv =>
      cases vs with
      | nil => exact qv.elim
      | cons v1 vs =>
        obtain ⟨v2, v3, rfl, q2, q3⟩ := RVs.two qv.2
        simp only [setAll] at h1
        exact ⟨v1, v2, v3, rfl, h1 w1 rfl (Ext.refl w1) r1 _ (((er.set qv.1).set q2).set q3) (((off_set hA.1).trans' (off_set hA.2.1)).trans' (off_set hA.2.2))⟩
    | [], _ => simp only [setAll] at h1; exact h1.elim
    | [_], _ => simp only [setAll] at h1; exact h1.elim
    | [_, _], _ => simp only [setAll] at h1; exact h1.elim
    | _ :: _ :: _ :: _ :: _, _ => simp only [setAll] at h1; exact h1.elim
def opA : Op2 → Operator := opOf
/-- n op= k of ints -/
def ipA (o : Op2) : TIp := fun x y H Q => ∃ i d j z, x = .int i ∧ y = .int j ∧ d = D.int j ∧ augI o i d = some z ∧ Q (.int z) H
theorem ip_aug (o : Op2) : PIp X (opOf o) (ipA o) := by
  intro pins s σ H x y v u Q I rx ry h
  obtain ⟨i, d, j, z, rfl, rfl, rfl, e, q⟩ := h
  cases o with
  | add => cases e; exact iop_add pins s σ H _ _ v u Q I rx ry ⟨i, j, rfl, rfl, q⟩
  | sub => cases e; exact iop_sub pins s σ H _ _ v u Q I rx ry ⟨i, j, rfl, rfl, q⟩
  | mul =>
    simp only [augI] at e
    split at e
    · rename_i k
      cases e
      rw [Bool.or_eq_true] at k
      exact iop_mul pins s σ H _ _ v u Q I rx ry ⟨i, j, rfl, rfl, k.imp small64_ok small64_ok, q⟩
    · cases e
  | _ => cases e
theorem augI_int {o : Op2} {i z : Int} {d : D} (h : augI o i d = some z) : ∃ j, d = .int j := by
  cases o <;> cases d <;> first | exact ⟨_, rfl⟩ | cases h
theorem nd_aug {i : Nat} {x : Str} {o : Op2} (hA : i ∈ A) (hN : X.N.Nodup) (hi : X.N[i]? = some x) (hx : Loc X.env.scope x) (hf : X.fn x = true ∨ X.env.scope.names.lookup x = some .local) (he : PE X e' (tE C G W e)) : PS X (.AugAssign (.Name x p2) (opOf o) e' pos) (tS C G W A (.aug i o e)) :=
  PSimp (ps_aug hN hi hx he (ip_aug o) hf) fun D σ H ⟨env, w, hw, rel, er, h⟩ => by
    subst hw
    unfold evS at h
    split at h
    · rename_i n hn
      obtain ⟨v, hv, q⟩ := er.2 i _ hn
      cases q.int
      refine ⟨_, hv, env, w, rfl, rel, er, h.bind.mono fun w1 d e1 r1 h1 u qu => ?_⟩
      split at h1
      · rename_i z hz
        obtain ⟨j, rfl⟩ := augI_int hz
        cases qu.int
        rw [forceI_eq] at h1
        exact ⟨n, _, j, z, rfl, rfl, rfl, hz, h1 w1 rfl (Ext.refl w1) r1 _ ((er.mono e1).set (.inl (.int z))) (off_set hA)⟩
      · exact h1.elim
    · exact h.elim
theorem nd_expr (hv : notComp e' = true) (he : PE X e' (tE C G W e)) : PS X (.Expr e' pos) (tS C G W A (.expr e)) :=
  PSimp (ps_expr he (swaps_none hv)) fun D σ H ⟨env, w, hw, rel, er, h⟩ => by
    subst hw
    unfold evS at h
    exact ⟨env, w, rfl, rel, er, h.bind.mono fun w1 d e1 r1 h1 v qv => h1 w1 rfl (Ext.refl w1) r1 σ (er.mono e1) (Off.refl _ _)⟩
theorem nd_ret (he : PE X e' (tE C G W e)) : PS X (.Return (some e') pos) (tS C G W A (.ret e)) :=
  PSimp (ps_ret he) fun D σ H ⟨env, w, hw, rel, er, h⟩ => by
    subst hw
    unfold evS at h
    exact ⟨env, w, rfl, rel, er, h.bind.mono fun w1 d e1 r1 h1 v qv => h1 w1 rfl (Ext.refl w1) r1 v qv⟩
theorem nd_retN : PS X (.Return none pos) (tS C G W A .retN) :=
  PSimp ps_retN fun D σ H ⟨env, w, hw, rel, er, h⟩ => by
    subst hw
    unfold evS at h
    exact h w rfl (Ext.refl w) rel .non (.inl .non)
theorem nd_pass : PS X (.Pass pos) (tS C G W A .pass) :=
  PSimp ps_pass fun D σ H ⟨env, w, hw, rel, er, h⟩ => by
    subst hw
    unfold evS at h
    exact h w rfl (Ext.refl w) rel σ er (Off.refl _ _)
theorem nd_brk : PS X (.Break pos) (tS C G W A .brk) :=
  PSimp ps_break fun D σ H ⟨env, w, hw, rel, er, h⟩ => by
    subst hw
    unfold evS at h
    exact h w rfl (Ext.refl w) rel σ er (Off.refl _ _)
theorem nd_cont : PS X (.Continue pos) (tS C G W A .cont) :=
  PSimp ps_continue fun D σ H ⟨env, w, hw, rel, er, h⟩ => by
    subst hw
    unfold evS at h
    exact h w rfl (Ext.refl w) rel σ er (Off.refl _ _)
theorem nd_doc {x : Str} {j : Nat} : PS X (.Expr (.Constant (.str x) j p2) pos) (tS C G W A .pass) :=
  PSimp ps_doc fun D σ H ⟨env, w, hw, rel, er, h⟩ => by
    subst hw
    unfold evS at h
    exact h w rfl (Ext.refl w) rel σ er (Off.refl _ _)
theorem nd_ite {p q : Ss} {p' q' : List Stmt} (hc : PT X e' (tT C G W e)) (ha : PSs X p' (tSs C G W A p)) (hb : PSs X q' (tSs C G W A q)) : PS X (.If e' p' q' pos) (tS C G W A (.ite e p q)) :=
  PSimp (ps_if hc ha hb) fun D σ H ⟨env, w, hw, rel, er, h⟩ => by
    subst hw
    unfold evS at h
    refine ⟨env, w, rfl, rel, er, h.bind.mono fun w1 d e1 r1 h1 => ?_⟩
    split at h1
    · rename_i ht
      exact ⟨true, ht, by show (if true = true then _ else _); rw [if_pos rfl]; exact ⟨env, w1, rfl, r1, er.mono e1, h1⟩⟩
    · rename_i ht
      exact ⟨false, ht, by show (if false = true then _ else _); rw [if_neg (by decide)]; exact ⟨env, w1, rfl, r1, er.mono e1, h1⟩⟩
    · exact h1.elim
/-! loops -/
theorem nd_whl {p : Ss} {p' : List Stmt} (hW : WA W A) (hp : PassesOwn (model X.prog X.w) X.A X.env X.xe) (hc : PT X e' (tT C G W e)) (hb : PSs X p' (tSs C G W A p)) : PS X (.While e' p' [] pos) (tS C G W A (.whl e p)) :=
  PSimp (ps_while hp hc hb) fun D σ H ⟨env, w, hw, rel, er, h⟩ => by
    subst hw
    unfold evS at h
    refine ⟨fun n σ1 H1 => Off A σ σ1 ∧ ∃ env1 w1, w1.H = H1 ∧ Rel G w1 ∧ EnvR G w1 env1 σ1 ∧ Out G w1 (Wat W σ) (FEnd G A D σ) (wloop (fun env η => (evE C e env η).bind fun x η => match tru η x with
      | some t => .ok t η
      | none => .bad) (fun env η => evSs C p env η) n env1 w1.η), ⟨C.W, Off.refl _ _, env, w, rfl, rel, er, h⟩, fun n σ1 H1 ⟨off, env1, w1, hw1, r1, er1, h1⟩ => ?_⟩
    subst hw1
    cases n with
    | zero => simp only [wloop] at h1; exact h1.elim
    | succ n =>
      simp only [wloop] at h1
      refine ⟨env1, w1, rfl, r1, er1, Out.wish (h1.bind.bind.mono fun w2 d e2 r2 h2 => ?_) fun c d H q => (hW.at off c d H).mp q⟩
      cases ht : tru w2.η d with
      | none => simp only [ht] at h2; exact h2.elim
      | some k =>
        simp only [ht] at h2
        have h3 := h2 w2 rfl (Ext.refl w2) r2
        refine ⟨k, ht, ?_⟩
        cases k with
        | false =>
          show (if false = true then _ else _)
          rw [if_neg (by decide)]
          exact h3 w2 rfl (Ext.refl w2) r2 σ1 (er1.mono e2) off
        | true =>
          show (if true = true then _ else _)
          rw [if_pos rfl]
          refine ⟨fun σ2 H2 => Off A σ σ2 ∧ ∃ env2 w3, w3.H = H2 ∧ Rel G w3 ∧ EnvR G w3 env2 σ2 ∧ Out G w3 (Wat W σ) (FEnd G A D σ) (wloop (fun env η => (evE C e env η).bind fun x η => match tru η x with
            | some t => .ok t η
            | none => .bad) (fun env η => evSs C p env η) n env2 w3.η), fun σ' H' q => ⟨n, Nat.lt_succ_self n, q⟩, env1, w2, rfl, r2, er1.mono e2, Out.wish ((Out.bind h3).mono fun w3 f e3 r3 h4 => ?_) fun c d H q => (hW.at off c d H).mp q⟩
          cases f with
          | nx env2 => exact fun σ2 er2 off2 => ⟨off.trans' off2, env2, w3, rfl, r3, er2, h4⟩
          | ct env2 => exact fun σ2 er2 off2 => ⟨off.trans' off2, env2, w3, rfl, r3, er2, h4⟩
          | bk env2 => exact fun σ2 er2 off2 => h4 w3 rfl (Ext.refl w3) r3 σ2 er2 (off.trans' off2)
          | rt d2 => exact fun v q => h4 w3 rfl (Ext.refl w3) r3 v q
theorem nd_for {p : Ss} {p' : List Stmt} {tg iter : Expr} {it : It} (hW : WA W A) (hA : ∀ j ∈ tgN t, j ∈ A) (hp : PassesOwn (model X.prog X.w) X.A X.env X.xe) (hc : X.calm = true) (hi : PI X tg iter (tIt C G W X.K loose it)) (hg : PG X tg (tG C G W loose t)) (hb : PSs X p' (tSs C G W A p))
    (hs : ∀ x, foldedSetIterable iter X.env x = pure x) : PS X (.For tg iter p' [] pos) (tS C G W A (.for t it p)) :=
  PSimp (ps_for hp hc hi hg hb hs) fun D σ H ⟨env, w, hw, rel, er, h⟩ => by
    subst hw
    unfold evS at h
    refine ⟨env, w, rfl, rel, er, h.bind.mono fun w1 r e1 r1 h1 J Y => ?_⟩
    obtain ⟨xs, gd⟩ := r
    let loop := floop gd (fun d env η => asT C t d env η) (fun env η => evSs C p env η)
    let Pv : Nat → L2.St → Hp → Prop := fun i σ1 H1 => Off A σ σ1 ∧ i ≤ xs.length ∧ ∃ u env1, u.H = H1 ∧ Rel G u ∧ Sub w1 u ∧ EnvR G u env1 σ1 ∧ Out G u (Wat W σ) (FEnd G A D σ) (floop gd (fun d env η => asT C t d env η) (fun env η => evSs C p env η) (xs.drop i) env1 u.η)
    refine ⟨fun i m σ1 H1 => m = xs.length - i ∧ Pv i σ1 H1, ⟨_, rfl, Off.refl _ _, Nat.zero_le _, w1, env, rfl, r1, (Ext.refl w1).sub, er.mono e1, h1⟩, fun i m σ1 H1 ⟨hm, off, hle, u, env1, hu, ru, su, eru, ho⟩ => ?_⟩
    subst hu
    by_cases lt : i < xs.length
    · right
      rw [List.drop_eq_getElem_cons lt, floop] at ho
      split at ho
      · rename_i ck
        obtain ⟨g1, g2⟩ := Y.go u su ru ck i lt
        refine ⟨g1, Pv (i + 1), fun σ' H' h' => ⟨xs.length - (i + 1), by omega, rfl, h'⟩, fun x H' y => ?_⟩
        obtain ⟨w', dd, q1, q2, q3, r', q4, ri⟩ := g2 x H' y
        have ed : dd = xs[i] := by rw [List.getElem?_eq_getElem lt] at q4; exact (Option.some.inj q4).symm
        subst ed
        subst q1
        have ho' := Out.of r' q3 ho
        rw [← q2] at ho'
        refine ⟨env1, w', _, rfl, r', eru.mono q3, ri, Out.wish (ho'.bind.mono fun w2 env2 x2 r2 h2 σ2 er2 off2 => ?_) fun c d H q => (hW.at off c d H).mp q⟩
        have off2' : Off A σ1 σ2 := off2.mono hA
        refine ⟨env2, w2, rfl, r2, er2, Out.wish (h2.bind.mono fun w3 f x3 r3 h3 => ?_) fun c d H q => (hW.at (off.trans' off2') c d H).mp q⟩
        have s3 : Sub w1 w3 := ((su.trans q3.sub).trans x2.sub).trans x3.sub
        cases f with
        | nx env3 => exact fun σ3 er3 off3 => ⟨(off.trans' off2').trans' off3, lt, w3, env3, rfl, r3, s3, er3, h3⟩
        | ct env3 => exact fun σ3 er3 off3 => ⟨(off.trans' off2').trans' off3, lt, w3, env3, rfl, r3, s3, er3, h3⟩
        | bk env3 => exact fun σ3 er3 off3 => h3 w3 rfl (Ext.refl w3) r3 σ3 er3 ((off.trans' off2').trans' off3)
        | rt d => exact fun v q => h3 w3 rfl (Ext.refl w3) r3 v q
      · exact ho.elim
    · left
      have ei : i = xs.length := by omega
      subst ei
      rw [List.drop_length, floop] at ho
      split at ho
      · rename_i ck
        exact ⟨Y.stop u su ru ck, ho u rfl (Ext.refl u) ru σ1 eru off⟩
      · exact ho.elim
/-! raise -/
/-- an expression that makes the error g -/
def tMk (C : Ip.Cx) (G : Gx) (W : L2.WX) (g : Nat) (es : Es) : L2.St → Hp → XK → Prop := fun σ H Q => ∃ env w, w.H = H ∧ Rel G w ∧ EnvR G w env σ ∧
  Out G w (Wat W σ) (fun w1 ds => noneLoc ds = true ∧ ∀ w2 cls dd, w2.η = w1.η → Ext w1 w2 → Rel G w2 → ExcK G w2 g ds cls dd → Q cls dd w2.H) (evEs C es env w.η)
theorem nd_raise {g : Nat} (hc : X.calm = true) (tk : Takes X W) (he : PMk X e' (tMk C G W g es)) : PS X (.Raise (some e') none pos) (tS C G W A (.raise g es)) :=
  PSimp (ps_raise hc tk he) fun D σ H ⟨env, w, hw, rel, er, h⟩ => by
    subst hw
    unfold evS at h
    refine ⟨env, w, rfl, rel, er, h.bind.mono fun w1 ds e1 r1 h1 => ?_⟩
    split at h1
    · rename_i nl
      exact ⟨nl, fun w2 cls dd hη e2 r2 k => h1 w2 cls dd hη e2 r2 ⟨g, ds, rfl, k⟩⟩
    · exact h1.elim
end
end Ip
/-! the class of an error that may have a dict -/
namespace Ip
open PySem PySem.Spec PySem.Calls PyProof.Rows PySem.W L2
section
variable {prog : Program} {w : World} {A : Around} {E : Value → Shared → Prop} {K : PySem.W.Frag} {x D : Addr} {ox : Obj} {od : Option Obj}
theorem find_cls (C : ExcC K D) : findObj K D od "__class__" = some (.bind (.builtin "getset_descriptor.__get__") (.builtin "object.__class__")) := by
  have some_ : (clsIn K D).isSome = true := by
    obtain ⟨cd, hc, _⟩ := any_some C.hd
    rw [hc]; rfl
  cases od with
  | none => exact findObj_dataN some_ C.ha C.hn C.ht
  | some o => exact findObj_data some_ C.ha C.hn C.ht
theorem class_of {s : Shared} {Q : Option Value → Shared → Prop} (C : ExcC K D) (X : K.In s.heap) (I : PySem.W.InstAt s.heap x ox D od) (h : Q (some (.ref D)) { s with toks := s.toks + 1 }) : wpAny (model prog w) A (getAttr? (.ref x) "__class__") Q E s := by
  obtain ⟨hp, g, dr, t, os⟩ := s
  have own := I.type (M := model prog w)
  have ga := looks_findIn (M := model prog w) X C.hg
  have gt := looks_findIn (M := model prog w) X C.hk
  have at_ := looks_find (M := model prog w) X I (find_cls C)
  have inst : Looks (model prog w) hp (isInstance (.ref x) (.type "BaseException")) true := own.andThen (looks_subIn X C.hs)
  have n0 : (false && onTheHeap (Value.builtin "BaseException.__getattribute__")) = false := rfl
  have n2 : (Value.builtin "BaseException.__getattribute__" == Value.builtin "object.__getattribute__") = false := by decide +kernel
  have n1 : (onTheHeap (Value.ref D) && Value.builtin "BaseException.__getattribute__" == Value.builtin "object.__getattribute__") = false := by rw [n2]; rfl
  have heap : onTheHeap (Value.ref D) = true := rfl
  unfold getAttr? getAttrBy? getAttrBy
  refine wpAny_bind (wpAny_mkText (wpAny_bind (wpAny_attempt (wpAny_holding (wpAny_bind (own.at (wpAny_bind (ga.at ?_))))))))
  show wpAny _ _ (if (onTheHeap (Value.ref D) && Value.builtin "BaseException.__getattribute__" == Value.builtin "object.__getattribute__") = true then _ else _) _ _ _
  rw [n1, if_neg Bool.false_ne_true]
  unfold getAttrByItsOwn hookBefore
  refine wpAny_bind ?_
  rw [if_pos heap]
  refine gt.at (wpAny_bind (wpAny_attempt (wpAny_holding ?_)))
  unfold callGetattribute
  rw [n0, if_neg Bool.false_ne_true]
  unfold boundAndCalled
  rw [PySem.F.excAttr_ValueError.ga.bind (.ref x)]
  refine wpAny_bind (wpAny_pure ?_)
  show wpAny _ _ (call (.builtin "BaseException.__getattribute__") [.ref x, .str "__class__" t]) _ _ _
  have args := PySem.F.args_bexc_ga (.ref x) (.str "__class__" t)
  refine wpAny_call (codeAny_call_builtin PySem.F.excAttr_ValueError.ga.plain PySem.F.entry_bexc_ga ?_)
  refine @check_slot (model prog w) _ _ ⟨hp, g, dr, t + 1, os⟩ "BaseException.__getattribute__" "BaseException" "__getattribute__" (.ref x) [.str "__class__" t] [] _ (by decide +kernel) (by decide +kernel) inst args ?_
  unfold Builtin.«object.__getattribute__»
  refine wpAny_bind (wpAny_of_eq (a := ((Value.ref x : Value), [Value.str "__class__" t])) (by first | rfl | (simp only [slotArgs]; rfl)) ?_)
  refine wpAny_bind (wpAny_pure (wpAny_bind (own.at (wpAny_bind (at_.at ?_)))))
  show wpAny _ _ (holding [Value.builtin "object.__class__"] (call (.builtin "getset_descriptor.__get__") [.builtin "object.__class__", .ref x, .ref D]) >>= ret) _ _ _
  refine wpAny_bind (wpAny_holding (wpAny_call (class_get (s := ⟨hp, g, dr, t + 1, os⟩) (ox := ox) (od := od) X I C.hm ?_)))
  refine wpAny_pure ?_
  show wpAny _ _ (handedOut (.ref D)) _ _ _
  rw [handedOut_of (v := .ref D) rfl]
  first
    | exact wpAny_pure (wpAny_pure h)
    | exact wpAny_pure h
    | exact wpAny_pure (wpAny_bind (wpAny_pure (wpAny_pure h)))
theorem kit_exc (C : ExcC K D) : KitX K (.ref x) (.ref D) (fun h => PySem.W.InstAt h x ox D od) where
  ty := fun _ _ _ I => I.type
  it := fun _ _ X _ => by
    obtain ⟨cd, hc, _⟩ := any_some C.hd
    unfold clsIn at hc
    split at hc
    · rename_i ho
      intro A' Q' E' s' k q
      unfold isType loadHead
      exact wpAny_bind (wpAny_loadPart (k _ _ (X _ _ ho)) (wpAny_pure q))
    · cases hc
  ne := fun h tp dd its n sl X htp => by
    obtain ⟨cd, hc, _⟩ := any_some C.hd
    refine Bool.eq_false_iff.mpr fun q => ?_
    have same : D = tp := Value.ref.inj (beq_iff_eq.mp q)
    subst same
    unfold clsIn at hc
    split at hc
    · rename_i ho
      cases (X _ _ ho).symm.trans htp
    · cases hc
  ca := fun X I k => class_of C X I k
end
end Ip
/-! isinstance of a value that may be the error that is handled; its field -/
namespace Ip
open PySem PySem.Spec PyProof.Rows L2
def tyNE : Ty → Option String
  | .vErr => some "ValueError"
  | .lErr => some "LookupError"
  | t => tyN t
theorem isTy_kitE {d : Ip.D} {t : Ty} {n : String} {eb : Nat → Ty → Bool} (h : tyNE t = some n) (he : ∀ g xs, d ≠ .exc g xs) (hf : ∀ g, d ≠ .fn g) : kitB (tyD d) n = some (isTy eb d t) := by
  cases t <;> first
    | exact isTy_kit (t := .int) h he hf
    | exact isTy_kit (t := .bool) h he hf
    | exact isTy_kit (t := .str) h he hf
    | exact isTy_kit (t := .list) h he hf
    | exact isTy_kit (t := .tuple) h he hf
    | (simp only [tyNE, tyN, Option.some.injEq, reduceCtorEq] at h
       subst h
       cases d <;> first
         | exact absurd rfl (hf _)
         | exact absurd rfl (he _ _)
         | (simp only [tyD, isTy]; decide +kernel))
    | (simp only [tyNE, tyN, reduceCtorEq] at h)
/-- what is known of the handled error's class -/
structure XcOk (X : L2.Cx) (G : Gx) (eb : Nat → Ty → Bool) : Prop where
  pin : ∀ a cls d, G.cur = some (a, cls, d) → ∃ oe, (a, oe) ∈ X.pn ∧ Zc cls d oe ∧ ∃ vs, oe.data = .fields vs
  cls : ∀ g a d, G.cur = some (a, .ref (G.ca g), d) → ExcC X.K (G.ca g) ∧ ∀ t n, tyNE t = some n → PySem.W.kitOne X.K (.ref (G.ca g)) (.type n) = some (eb g t)
def rIsD (G : Gx) (eb : Nat → Ty → Bool) (t : Ty) (n : String) : List V → Hp → VK → Prop := fun xs H Q => ∃ w d v, w.H = H ∧ Rel G w ∧ RV G w d v ∧ isiOk w.η d = true ∧ xs = [v, .ty n] ∧ Q (.bl (isTy eb d t)) H
section
variable {X : L2.Cx} {G : Gx} {eb : Nat → Ty → Bool}
theorem call_isx {t : Ty} {n : String} (hK : X.K = G.K) (hn : tyNE t = some n) (xc : XcOk X G eb) : CallR X (.builtin "isinstance") (rIsD G eb t n) := by
  intro pins s σ H xs us Q I r h
  obtain ⟨w, d, v, rfl, rel, q, ok, rfl, fin⟩ := h
  obtain ⟨k1, k2⟩ := isi_cases ok
  by_cases he : ∀ g ys, d ≠ .exc g ys
  · exact call_isi pins s σ w.H _ us Q I r ⟨v, .ty n, _, .type n, _, rfl, .ty n, tyX_of hK rel q k1 he k2, kit_ty (isTy_kitE (eb := eb) hn he k2), fin⟩
  · have : ∃ g ys, d = .exc g ys := by
      cases d with
      | exc g ys => exact ⟨g, ys, rfl⟩
      | _ => exact absurd (fun g ys z => nomatch z) he
    obtain ⟨g, ys, rfl⟩ := this
    rcases q with q | ⟨_, q, _⟩ | ⟨g', ys', a, cls, dd, e, hc, rfl, hx⟩
    · cases q
    · cases q
    · cases e
      obtain ⟨oe, hp, hz, vs, hv⟩ := xc.pin a cls dd hc
      obtain ⟨ec, hd⟩ := hx
      subst ec
      obtain ⟨C, kit⟩ := xc.cls g a dd hc
      obtain ⟨u1, u2, rfl, r1, r2⟩ := vals2 r
      cases r1
      cases r2
      obtain ⟨hget, _⟩ := I.pin (a, oe) (List.mem_append.mpr (.inl hp))
      have J : ∃ od, PySem.W.InstAt s.heap a oe (G.ca g) od := by
        obtain ⟨oc, od, oda, osl⟩ := oe
        obtain ⟨h1, h2⟩ := hz
        dsimp only at h1 h2 hv
        subst h1 h2 hv
        rcases hd with ⟨_, rfl⟩ | ⟨x, da, vx, _, rfl, hH, _⟩
        · exact ⟨none, hget, rfl, rfl, trivial⟩
        · have := I.hok da _ hH
          obtain ⟨mA, ns, _⟩ := (show ObjOk X.prog X.w w.H s.heap da (.xd _) from this)
          obtain ⟨ob, hob, _⟩ := lookIn_ns ns
          exact ⟨some ob, hget, rfl, rfl, hob⟩
      obtain ⟨od, J⟩ := J
      refine PySem.W.kia_one (kit_exc C) I.kIn J (kit t n hn) (fun z => nomatch z) fun tk => ⟨.bl _, w.H, I.kept (t' := tk) fun _ _ z => z, rfl, ?_⟩
      simpa only [isTy] using fin
end
end Ip
/-! nodes of an except suite: isinstance(e, T), e.f -/
namespace Ip
open PySem PySem.Spec PyProof.Rows L2
section
variable {X : L2.Cx} {C : Ip.Cx} {G : Gx} {W : L2.WX} {a : E} {a' : Expr} {pos p2 : Pos}
/-- isinstance(x, T), x perhaps the error -/
theorem nd_isiX {t : Ty} {n : String} {x : Str} {p3 : Pos} (hK : X.K = G.K) (xc : XcOk X G C.eb) (g1 : Gl X "isinstance") (m1 : X.mg "isinstance" = none) (gt : Gl X x) (mt : X.mg x = none) (bt : bootBuiltins x = some (.type n)) (hx : x ≠ "__name__") (hdb : (x == ("__debug__" : Str)) = false) (hn : tyNE t = some n)
    (hs : notStar a' = true) (ha : PE X a' (tE C G W a)) : PE X (.Call (.Name "isinstance" p2) [a', .Name x p3] [] pos) (tE C G W (.isi a [t])) := by
  have ns : noStars [a', .Name x p3] = true := by show (notStar a' && (true && true)) = true; rw [hs]; rfl
  have cls : PE X (.Name x p3) (tC (.ty n)) := pe_bltn gt mt bt rfl hx hdb
  have args := pa_cons ha (pa_cons cls pa_nil) (star_head ns)
  refine PEimp (pe_callB (p := p2) (pos := pos) (call_isx hK hn xc) g1 m1 (by decide +kernel) args (by decide) (by decide) (star_head ns) (star_tail ns)) fun σ H Q ⟨env, w, hw, rel, er, h⟩ => ?_
  subst hw
  unfold evE at h
  refine ⟨env, w, rfl, rel, er, h.bind.mono fun w1 d1 e1 r1 h1 v1 q1 => ?_⟩
  split at h1
  · rename_i ok
    have fin := h1 w1 rfl (Ext.refl w1) r1 _ (.inl (.bl _))
    simp only [isAny, Bool.or_false] at fin
    exact ⟨w1, d1, v1, rfl, r1, q1, ok, rfl, fin⟩
  · exact h1.elim
/-- e.f, e the error that is handled -/
theorem nd_xf {f : Nat} {nm : Str} (hK : X.K = G.K) (xc : XcOk X G C.eb) (hno : ∀ g b d, G.cur = some (b, .ref (G.ca g), d) → G.xf g = nm ∧ PySem.W.findIn X.K (.ref (G.ca g)) nm = some none) (hbase : plainBase a' = true) (ha : PE X a' (tE C G W a)) : PE X (.Attribute a' nm pos) (tE C G W (.fld a f)) := ⟨fun pins s σ H Q I ⟨env, w, hw, rel, er, h⟩ => by
  subst hw
  unfold evE at h
  have run := ha.run pins s σ w.H (fun v H1 => ∃ g xs x w1, w1.H = H1 ∧ Rel G w1 ∧ RV G w1 (.exc g xs) v ∧ xs[f]? = some x ∧ ∀ u, RV G w1 x u → Q u w1.H) I ⟨env, w, rfl, rel, er, h.bind.mono fun w1 d1 e1 r1 h1 v1 q1 => by
    split at h1
    · split at h1
      · exact ⟨_, _, _, w1, rfl, r1, q1, ‹_›, fun u ru => h1 w1 rfl (Ext.refl w1) r1 u ru⟩
      · exact h1.elim
    · exact h1.elim⟩
  refine attr_of (base_of hbase _) (thn run fun u s1 ⟨x, H1, I1, rx, g, xs, y, w1, hH, r1, q1, hx, fin⟩ => ?_)
  subst hH
  rcases q1 with q1 | ⟨_, q1, _⟩ | ⟨g', xs', b, cls, dd, e, hc, rfl, hk⟩
  · cases q1
  · cases q1
  · cases e
    cases rx
    obtain ⟨ec, hd⟩ := hk
    subst ec
    obtain ⟨oe, hp, hz, vs, hv⟩ := xc.pin b _ dd hc
    obtain ⟨K1, _⟩ := xc.cls g b dd hc
    obtain ⟨en, no⟩ := hno g b dd hc
    rcases hd with ⟨rfl, _⟩ | ⟨z, da, vx, rfl, rfl, hH, _, rp⟩
    · simp at hx
    · have ez : y = z := by
        cases f with
        | zero => simp at hx; exact hx.symm
        | succ f => simp at hx
      subst ez
      obtain ⟨hget, _⟩ := I1.pin (b, oe) (List.mem_append.mpr (.inl hp))
      obtain ⟨mA, hns, hr⟩ := (show ObjOk X.prog X.w w1.H s1.heap da (.xd _) from I1.hok da _ hH)
      obtain ⟨od, ho, hl⟩ := lookIn_ns hns
      have look : ([(G.xf g, vx)] : List (Str × V)).lookup nm = some vx := by
        rw [List.lookup_cons, en]
        have : (nm == nm) = true := by rw [← eqStr_eq, eqStr, eqL_eq]; simp
        rw [this]
      obtain ⟨u, hu, ru⟩ := RelO.some_of (v := vx) (o := mA nm) (by rw [← look]; exact hr nm)
      have J : PySem.W.InstAt s1.heap b oe (G.ca g) (some od) := ⟨hget, hz.1, by unfold PySem.W.notCls; rw [hv], by rw [hz.2]; exact ho⟩
      exact HandSPX.exc_get I1.kIn J K1.hg K1.hk K1.hs (PySem.W.findObj_own K1.hd no rfl (by rw [hl, hu])) (handed_of ru) ⟨vx, w1.H, I1.tok _, ru, fin vx (.inl rp)⟩⟩
end
end Ip
/-! own objects: attributes, methods, objects made -/
namespace Ip
open PySem PySem.Spec PyProof.Rows L2
section
variable {X : L2.Cx} {C : Ip.Cx} {G : Gx} {W : L2.WX} {a : E} {a' : Expr} {es : Es} {pos p2 apos : Pos} {c f : Nat} {nm : Str}
theorem FsR.look (fi : ∀ f f', G.fnm f = G.fnm f' → f = f') {w : Wd} : ∀ {fs : List (Nat × Ip.D)} {vs : List (Str × V)} {d : Ip.D}, FsR G w fs vs → fLook f fs = some d → ∃ v, vs.lookup (G.fnm f) = some v ∧ RV G w d v
  | [], [], _, _, h => by simp [fLook] at h
  | p :: r, q :: s, d, ⟨e, ⟨b, n⟩, k⟩, h => by
    obtain ⟨x, y⟩ := q
    unfold fLook at h
    have e : x = G.fnm p.1 := e
    by_cases z : p.1 = f
    · rw [z, Nat.beq_refl] at h
      simp only [if_true, Option.some.injEq] at h
      subst h
      refine ⟨y, ?_, b⟩
      rw [List.lookup_cons, e, z]
      simp
    · have zb : Nat.beq p.1 f = false := by rw [beqN]; exact decide_eq_false z
      rw [zb] at h
      simp only [Bool.false_eq_true, if_false] at h
      obtain ⟨v, h1, h2⟩ := FsR.look fi k h
      refine ⟨v, ?_, h2⟩
      rw [List.lookup_cons]
      have : (G.fnm f == x) = false := by
        rw [beq_eq_false_iff_ne, e]
        exact fun y => z (fi _ _ y).symm
      rw [this]; exact h1
  | [], _ :: _, _, h, _ => h.elim
  | _ :: _, [], _, h, _ => h.elim
theorem FsR.len {w : Wd} : ∀ {fs : List (Nat × Ip.D)} {vs : List (Str × V)}, FsR G w fs vs → fs.length = vs.length
  | [], [], _ => rfl
  | p :: r, q :: s, ⟨_, _, k⟩ => by rw [List.length_cons, List.length_cons, FsR.len k]
  | [], _ :: _, h => h.elim
  | _ :: _, [], h => h.elim
theorem FsR.put (fi : ∀ f f', G.fnm f = G.fnm f' → f = f') {w : Wd} {d : Ip.D} {v : V} (q : RV G w d v) (n : d.isExc = false) : ∀ {fs : List (Nat × Ip.D)} {vs : List (Str × V)}, FsR G w fs vs → FsR G w (fPut f d fs) (putF (G.fnm f) v vs)
  | [], [], _ => ⟨rfl, ⟨q, n⟩, trivial⟩
  | p :: r, z :: s, ⟨e, b, k⟩ => by
    obtain ⟨x, y⟩ := z
    have e : x = G.fnm p.1 := e
    unfold fPut putF
    by_cases h : p.1 = f
    · rw [h, Nat.beq_refl, if_pos rfl, if_pos (by rw [e, h])]
      exact ⟨by rw [e, h], ⟨q, n⟩, k⟩
    · have zb : Nat.beq p.1 f = false := by rw [beqN]; exact decide_eq_false h
      rw [zb, if_neg Bool.false_ne_true, if_neg (by rw [e]; exact fun y => h (fi _ _ y))]
      exact ⟨e, b, FsR.put fi q n k⟩
  | [], _ :: _, h => h.elim
  | _ :: _, [], h => h.elim
theorem FsR.look0 {w : Wd} {m : Str} (hm : ∀ f, G.fnm f ≠ m) : ∀ {fs : List (Nat × Ip.D)} {vs : List (Str × V)}, FsR G w fs vs → vs.lookup m = none
  | [], [], _ => rfl
  | p :: r, q :: s, ⟨e, _, k⟩ => by
    obtain ⟨x, y⟩ := q
    have e : x = G.fnm p.1 := e
    rw [List.lookup_cons]
    have : (m == x) = false := by
      rw [beq_eq_false_iff_ne, e]
      exact fun y => hm _ y.symm
    rw [this]; exact FsR.look0 hm k
  | [], _ :: _, h => h.elim
  | _ :: _, [], h => h.elim
/-- o.f -/
theorem nd_att (cl : Cls X.K (G.ca c)) (na : NoAttr X.K (G.ca c) nm) (fn : G.fnm f = nm) (fi : ∀ f f', G.fnm f = G.fnm f' → f = f') (hbase : plainBase a' = true) (ha : PE X a' (tE C G W a)) : PE X (.Attribute a' nm pos) (tE C G W (.att c a f)) :=
  PEimp (pe_fld ha (base_of hbase _)) fun σ H Q ⟨env, w, hw, rel, er, h⟩ => by
    subst hw
    unfold evE at h
    refine ⟨env, w, rfl, rel, er, h.bind.mono fun w1 d1 e1 r1 h1 v1 q1 => ?_⟩
    split at h1
    · rename_i i
      split at h1
      · rename_i c' fs hη
        split at h1
        · rename_i hc
          split at h1
          · rename_i d hd
            obtain rfl := Nat.eq_of_beq_eq_true hc
            obtain ⟨hi, rfl⟩ := q1.loc
            obtain ⟨dx, vs, hH, k⟩ := r1.cell i _ hη
            obtain ⟨v, hl, q⟩ := FsR.look fi k hd
            exact ⟨w1.mp i, G.ca c, dx, vs, v, rfl, hH, cl, na, by rw [← fn]; exact hl, h1 w1 rfl (Ext.refl w1) r1 v q⟩
          · exact h1.elim
        · exact h1.elim
      · exact h1.elim
    · exact h1.elim
/-- o.f = .. -/
theorem nd_tfld (cl : Cls X.K (G.ca c)) (na : NoAttr X.K (G.ca c) nm) (fn : G.fnm f = nm) (fi : ∀ f f', G.fnm f = G.fnm f' → f = f') (ha : PE X a' (tE C G W a)) : PG X (.Attribute a' nm pos) (tG C G W false (.fld c a f)) := ⟨fun pins s σ H v u Q I rv ⟨env, w, d, hw, rel, er, ri, h⟩ => by
  subst hw
  unfold asT at h
  rw [assign_Attribute]
  have q : RV G w d v := by
    rcases ri with ⟨_, q⟩ | ⟨z, _⟩
    · exact q
    · cases z
  have run := ha.run pins s σ w.H (fun x H1 => ∃ w1 d1, w1.H = H1 ∧ Ext w w1 ∧ Rel G w1 ∧ RV G w1 d1 x ∧ Out G w1 (Wat W σ) (fun w2 env1 => ∀ σ1, EnvR G w2 env1 σ1 → Off (tgN (.fld c a f)) σ σ1 → Q σ1 w2.H) (match setFld w1.η c d1 f d with
      | some η => .ok env η
      | none => .bad)) I ⟨env, w, rfl, rel, er, h.bind.mono fun w1 d1 e1 r1 h1 v1 q1 => ⟨w1, d1, rfl, e1, r1, q1, h1⟩⟩
  refine wpAny_bind (wpAny_holding (thn run fun ov s1 ⟨x, H1, I1, rx, w1, d1, hH, e1, r1, q1, h1⟩ => ?_))
  subst hH
  split at h1
  · rename_i η hs
    unfold setFld at hs
    split at hs
    · rename_i l
      split at hs
      · rename_i c' fs hη
        split at hs
        · rename_i k
          cases hs
          simp only [Bool.and_eq_true, Bool.not_eq_true', bltN, decide_eq_true_eq] at k
          obtain ⟨⟨k1, k2⟩, k3⟩ := k
          obtain rfl := Nat.eq_of_beq_eq_true k1
          obtain ⟨hi, rfl⟩ := q1.loc
          cases rx
          obtain ⟨dx, vs, hO, kf⟩ := r1.cell l _ hη
          have nd : ¬ (Cell.obj c fs).Dead := id
          let w2 := w1.put l (.obj c (fPut f d fs)) (.ins (G.ca c) dx (putF (G.fnm f) v vs))
          have e2 : Ext w1 w2 := Ext.put hη nd
          have r2 : Rel G w2 := r1.put hη nd ⟨dx, _, upd_same, FsR.put fi ((q.mono e1).mono e2) k3 (kf.mono e2)⟩
          have fin := h1 w2 rfl e2 r2 σ ((er.mono e1).mono e2) (by unfold tgN; exact Off.refl _ _)
          refine wpAny_bind (wpAny_standAt (wpAny_bind (wpAny_holding (setattr_ok I1 hO cl na (by rw [← kf.len]; omega) rv fun s3 I3 => ?_))))
          exact wpAny_release ⟨σ, _, I3, by rw [← fn] ; exact fin⟩
        · cases hs
      · cases hs
    · cases hs
  · exact h1.elim⟩
theorem mk_ok {g : Nat} (D : DefOk X C G g) (M : Mk X.K (G.ca c) (G.fa g)) (tk : Takes X W) {pins : List (Addr × Obj)} {σ : L2.St} {s : Shared} {Q : VK} {us : List Value} {vs : List V} {w : Wd} {ds : List Ip.D} (I : Inv X pins σ w.H s) (r : Vals vs us) (rel : Rel G w) (q : RVs G w ds vs)
    (h : Out G w (Wat W σ) (PE1 G Q) ((C.call g (.loc w.η.length :: ds) (w.η ++ [.obj c []])).bind fun d η' => match d with
      | .non => .ok (.loc w.η.length) η'
      | _ => .bad)) : wpAny (model X.prog X.w) X.A (call (.ref (G.ca c)) us) (EP X pins σ Q) X.xe s := by
  obtain ⟨k, fd, ps, F, room, hb, _⟩ := D.ex
  have hn0 : w.H s.heap.objs.size = none := I.hok.fresh (Nat.le_refl _)
  have hn1 : w.H (s.heap.objs.size + 1) = none := I.hok.fresh (Nat.le_succ _)
  let w1 : Wd := w.lay s.heap.objs.size (.own (s.heap.objs.size + 1))
  have hn2 : w1.H (s.heap.objs.size + 1) = none := (upd_ne (Nat.ne_of_gt (Nat.lt_succ_self _))).trans hn1
  have r1 : Rel G w1 := rel.lay hn0 _
  have e1 : Ext w w1 := Ext.lay rel hn0 _
  let w2 : Wd := w1.cell (s.heap.objs.size + 1) (.ins (G.ca c) s.heap.objs.size []) (.obj c [])
  have e2 : Ext w1 w2 := Ext.cell r1 hn2 _ _
  have r2 : Rel G w2 := r1.cell' hn2 ⟨s.heap.objs.size, [], upd_same, trivial⟩
  have e12 : Ext w w2 := e1.trans r1 e2
  have at2 : w2.mp w.η.length = s.heap.objs.size + 1 := cell_new (w := w1)
  have spec : spC C G g (.ref (s.heap.objs.size + 1) :: vs) w2.H (fun v H2 => v = .non ∧ Q (.ref (s.heap.objs.size + 1)) H2) (WE W σ) := by
    refine ⟨w2, .loc w.η.length :: ds, rfl, r2, ⟨.inr (.inl ⟨w.η.length, rfl, by show w.η.length < (w.η ++ [Cell.obj c []]).length; simp, by rw [at2]⟩), RVs.mono e12 q⟩, ?_⟩
    have hh := h.bind
    refine (Out.of r2 e12 hh).mono fun w3 d e3 r3 h3 v qv => ?_
    split at h3
    · have ev : v = .non := by
        rcases qv with qv | ⟨_, z, _⟩ | ⟨_, _, _, _, _, z, _⟩
        · cases qv; rfl
        · cases z
        · cases z
      refine ⟨ev, h3 w3 rfl (Ext.refl w3) r3 _ (.inr (.inl ⟨w.η.length, rfl, ?_, ?_⟩))⟩
      · exact Nat.lt_of_lt_of_le (by show w.η.length < (w.η ++ [Cell.obj c []]).length; simp) e3.len
      · rw [e3.mp _ (by show w.η.length < (w.η ++ [Cell.obj c []]).length; simp), at2]
    · exact h3.elim
  have I2 := Inv.made (C := G.ca c) I
  have rv : Vals (V.ref (s.heap.objs.size + 1) :: vs) (Value.ref (s.heap.objs.size + 1) :: us) := .cons rfl r
  have hl : (Value.ref (s.heap.objs.size + 1) :: us ++ []).length = ps.length := by
    rw [List.append_nil]
    have e := rv.length
    rw [F.len _ _ _ _ spec] at e
    exact e.symm
  have bb := hb _ (Value.ref (s.heap.objs.size + 1) :: us) I2.kIn hl
  rw [List.append_nil] at bb
  refine wpAny_call (make_map (f := G.fa g) I.kIn M.makes M.init (beq_iff_eq.mp M.fn) (codeAny_mono (F.run _ X.stack _ _ ⟨Value.ref (s.heap.objs.size + 1) :: us, []⟩ (Value.ref (s.heap.objs.size + 1) :: us) _ _ (WE W σ) (room.make (G.ca c) us [])
    (I2.env0.make (G.ca c) us []) bb rv spec) fun r s' hq' => ?_))
  cases r with
  | error e => exact passAt tk σ pins _ _ e s' I2 hq'
  | ok fl =>
    cases fl with
    | ret u =>
      obtain ⟨v, H', I3, rr, ev, q3⟩ := I2.after hq'
      subst ev
      exact ⟨rr, ⟨V.ref (s.heap.objs.size + 1), H', I3, rfl, q3⟩⟩
    | next => exact False.elim hq'
    | brk => exact False.elim hq'
    | cont => exact False.elim hq'
/-- X(e, ..) -/
theorem nd_newO {g : Nat} {x : Str} {z : Expr} {r' : List Expr} (D : DefOk X C G g) (M : Mk X.K (G.ca c) (G.fa g)) (tk : Takes X W) (hg : Gl X x) (hm : X.mg x = some (.ref (G.ca c))) (hdb : (x == ("__debug__" : Str)) = false) (hn : noStars (z :: r') = true) (ha : PA X (z :: r') (tEs C G W es)) :
    PE X (.Call (.Name x p2) (z :: r') [] pos) (tE C G W (.newO c g es)) := ⟨fun pins s σ H Q I ⟨env, w, hw, rel, er, h⟩ => by
  subst hw
  unfold evE at h
  refine wpAny_Call_Name_kw (ld_glob I hg hm ?_ hdb)
  have run := ha.run pos pins s σ w.H (fun vs H1 => ∃ w1 ds, w1.H = H1 ∧ Rel G w1 ∧ RVs G w1 ds vs ∧ Out G w1 (Wat W σ) (PE1 G Q) ((C.call g (.loc w1.η.length :: ds) (w1.η ++ [.obj c []])).bind fun d η' => match d with
      | .non => .ok (.loc w1.η.length) η'
      | _ => .bad)) I ⟨env, w, rfl, rel, er, h.bind.mono fun w1 ds e1 r1 h1 vs q1 => ⟨w1, ds, rfl, r1, q1, h1⟩⟩
  refine PySem.W.callWith_K (h₀ := X.base) I.ok.mod.kin M.kp (thn run fun us s1 ⟨vs, H1, I1, r, w1, ds, hH, r1, q1, h1⟩ => ⟨I1.kIn, ?_⟩) (star_head hn) (star_tail hn)
  subst hH
  exact mk_ok D M tk I1 r r1 q1 h1⟩
/-- X() -/
theorem nd_newO0 {g : Nat} {x : Str} (D : DefOk X C G g) (M : Mk X.K (G.ca c) (G.fa g)) (tk : Takes X W) (hg : Gl X x) (hm : X.mg x = some (.ref (G.ca c))) (hdb : (x == ("__debug__" : Str)) = false) :
    PE X (.Call (.Name x p2) [] [] pos) (tE C G W (.newO c g .nil)) := ⟨fun pins s σ H Q I ⟨env, w, hw, rel, er, h⟩ => by
  subst hw
  unfold evE at h
  refine wpAny_Call_Name_kw (ld_glob I hg hm ?_ hdb)
  refine PySem.W.callWith_K0 I.kIn M.kp (mk_ok D M tk I .nil rel (ds := []) trivial ?_)
  unfold evEs at h
  exact h⟩
/-- o.m(e, ..) -/
theorem nd_meth {g : Nat} {m : Str} {z : Expr} {r' : List Expr} (D : DefOk X C G g) (cl : Cls X.K (G.ca c)) (M : Meth X.K (G.ca c) m (G.fa g)) (nm_ : ∀ f, G.fnm f ≠ m) (tk : Takes X W) (ho : PE X a' (tE C G W a)) (hbase : plainBase a' = true) (hline : (apos.endLine == pos.line) = true)
    (hn : noStars (z :: r') = true) (hl : (z :: r').length < 29) (ha : PA X (z :: r') (tEs C G W es)) : PE X (.Call (.Attribute a' m apos) (z :: r') [] pos) (tE C G W (.meth c g a es)) := ⟨fun pins s σ H Q I ⟨env, w, hw, rel, er, h⟩ => by
  subst hw
  unfold evE at h
  have few : methodCallForm ((z :: r').length + ([] : List Keyword).length) (backTo pos (starEach (z :: r') X.env)) (backToKw pos (keywordEach [] X.env)) = true := by
    have k := plain_back (env := X.env) pos hn
    unfold methodCallForm
    rw [Bool.and_eq_true, Bool.and_eq_true]
    refine ⟨⟨?_, rfl⟩, ?_⟩
    · rw [List.all_eq_true]
      intro x hx
      rw [List.any_eq_false] at k
      simpa using k x hx
    · rw [decide_eq_true_eq]
      show (z :: r').length + 0 + 0 < 30
      omega
  have ht : eval (.Call (.Attribute a' m apos) (z :: r') [] pos) X.env = (do
      let ov ← eval a' X.env
      standAt apos.atName
      let (f, first) ← holding [ov] (getMethod ov m (plainOf a' X.env))
      callWith pos f first (backTo pos (starEach (z :: r') X.env)) (backToKw pos (keywordEach [] X.env))) := by
    show (attributeBase a' m X.env (eval a' X.env) >>= fun ov => (standAt apos.atName >>= fun _ => methodCall a' m apos pos X.env ov _ _ _)) = _
    rw [base_of hbase]
    refine congrArg (Bind.bind _) (funext fun ov => congrArg (Bind.bind _) (funext fun _ => ?_))
    exact mcall_line few hline
  refine PySem.W.methodCall_KW (pl := plainOf a' X.env) (thn (ho.run pins s σ w.H (fun v H1 => ∃ i fs w1, w1.H = H1 ∧ Rel G w1 ∧ EnvR G w1 env σ ∧ v = .ref (w1.mp i) ∧ i < w1.η.length ∧ w1.η[i]? = some (.obj c fs) ∧ Out G w1 (Wat W σ) (PE1 G Q) ((evEs C es env w1.η).bind fun xs η => C.call g (.loc i :: xs) η)) I ⟨env, w, rfl, rel, er, h.bind.mono fun w1 d1 e1 r1 h1 v1 q1 => by
    split at h1
    · rename_i i
      split at h1
      · rename_i c' fs hη
        split at h1
        · rename_i hc
          obtain rfl := Nat.eq_of_beq_eq_true hc
          obtain ⟨hi, rfl⟩ := q1.loc
          exact ⟨i, fs, w1, rfl, r1, er.mono e1, rfl, hi, hη, h1⟩
        · exact h1.elim
      · exact h1.elim
    · exact h1.elim⟩) fun u s1 ⟨x, H1, I1, rx, i, fs, w1, hH, r1, er1, ex, hi, hη, h1⟩ => ?_) ht
  subst hH
  subst ex
  obtain rfl : u = Value.ref (w1.mp i) := rx
  obtain ⟨dx, vs0, hO, kf⟩ := r1.cell i _ hη
  refine getmeth_ok I1 hO cl M (FsR.look0 nm_ kf) ?_
  have run := ha.run pos pins s1 σ w1.H (fun vs H2 => ∃ w2 ds, w2.H = H2 ∧ Rel G w2 ∧ RVs G w2 ds (.ref (w1.mp i) :: vs) ∧ Out G w2 (Wat W σ) (PE1 G Q) (C.call g ds w2.η)) I1 ⟨env, w1, rfl, r1, er1, h1.bind.mono fun w2 ds e2 r2 h2 vs q2 => ⟨w2, .loc i :: ds, rfl, r2, ⟨.inr (.inl ⟨i, rfl, Nat.lt_of_lt_of_le hi e2.len, by rw [e2.mp i hi]⟩), q2⟩, h2⟩⟩
  refine PySem.W.callWith_K (first := [.ref (w1.mp i)]) (h₀ := X.base) I.ok.mod.kin M.kp (thn run fun us s2 ⟨vs, H2, I2, r, w2, ds, hH, r2, q2, h2⟩ => ⟨I2.kIn, ?_⟩) (star_head hn) (star_tail hn)
  subst hH
  exact call_def D tk I2 (us := .ref (w1.mp i) :: us) (vs := V.ref (w1.mp i) :: vs) (.cons (rfl : RelV (V.ref (w1.mp i)) (Value.ref (w1.mp i))) r) r2 q2 h2⟩
/-- o.m() -/
theorem nd_meth0 {g : Nat} {m : Str} (D : DefOk X C G g) (cl : Cls X.K (G.ca c)) (M : Meth X.K (G.ca c) m (G.fa g)) (nm_ : ∀ f, G.fnm f ≠ m) (tk : Takes X W) (ho : PE X a' (tE C G W a)) (hbase : plainBase a' = true) (hline : (apos.endLine == pos.line) = true) :
    PE X (.Call (.Attribute a' m apos) [] [] pos) (tE C G W (.meth c g a .nil)) := ⟨fun pins s σ H Q I ⟨env, w, hw, rel, er, h⟩ => by
  subst hw
  unfold evE at h
  have ht : eval (.Call (.Attribute a' m apos) [] [] pos) X.env = (do
      let ov ← eval a' X.env
      standAt apos.atName
      let (f, first) ← holding [ov] (getMethod ov m (plainOf a' X.env))
      callWith pos f first (backTo pos (starEach [] X.env)) (backToKw pos (keywordEach [] X.env))) := by
    show (attributeBase a' m X.env (eval a' X.env) >>= fun ov => (standAt apos.atName >>= fun _ => methodCall a' m apos pos X.env ov _ _ _)) = _
    rw [base_of hbase]
    refine congrArg (Bind.bind _) (funext fun ov => congrArg (Bind.bind _) (funext fun _ => ?_))
    exact mcall_line rfl hline
  refine PySem.W.methodCall_KW (pl := plainOf a' X.env) (thn (ho.run pins s σ w.H (fun v H1 => ∃ i fs w1, w1.H = H1 ∧ Rel G w1 ∧ v = .ref (w1.mp i) ∧ i < w1.η.length ∧ w1.η[i]? = some (.obj c fs) ∧ Out G w1 (Wat W σ) (PE1 G Q) (C.call g [.loc i] w1.η)) I ⟨env, w, rfl, rel, er, h.bind.mono fun w1 d1 e1 r1 h1 v1 q1 => by
    split at h1
    · rename_i i
      split at h1
      · rename_i c' fs hη
        split at h1
        · rename_i hc
          obtain rfl := Nat.eq_of_beq_eq_true hc
          obtain ⟨hi, rfl⟩ := q1.loc
          unfold evEs at h1
          exact ⟨i, fs, w1, rfl, r1, rfl, hi, hη, h1⟩
        · exact h1.elim
      · exact h1.elim
    · exact h1.elim⟩) fun u s1 ⟨x, H1, I1, rx, i, fs, w1, hH, r1, ex, hi, hη, h1⟩ => ?_) ht
  subst hH
  subst ex
  obtain rfl : u = Value.ref (w1.mp i) := rx
  obtain ⟨dx, vs0, hO, kf⟩ := r1.cell i _ hη
  refine getmeth_ok I1 hO cl M (FsR.look0 nm_ kf) ?_
  refine PySem.W.callWith_K0 (first := [.ref (w1.mp i)]) I1.kIn M.kp ?_
  exact call_def D tk I1 (us := [.ref (w1.mp i)]) (vs := [V.ref (w1.mp i)]) (ds := [.loc i]) (.cons (rfl : RelV (V.ref (w1.mp i)) (Value.ref (w1.mp i))) .nil) r1 ⟨.inr (.inl ⟨i, rfl, hi, rfl⟩), trivial⟩ h1⟩
end
end Ip
namespace Ip
open PySem PySem.Spec PyProof.Rows L2

theorem eqStr_ok {a b : Str} (h : eqStr a b = true) : a = b := by
  rw [eqStr, eqL_eq, decide_eq_true_eq] at h
  cases a; cases b; simp only at h; rw [Array.toList_inj.mp h]
theorem isAt_ok {N : List Str} {i : Nat} {x : Str} (h : isAt N i x = true) : N[i]? = some x := by
  unfold isAt at h
  split at h
  · rename_i y e
    rw [e, eqStr_ok h]
  · cases h
theorem isAtO_ok {N : List (Option Str)} {i : Nat} {x : Str} (h : isAtO N i x = true) : N[i]? = some (some x) := by
  unfold isAtO at h
  split at h
  · rename_i y e
    rw [e, eqStr_ok h]
  · cases h
theorem lk_eq (x : Str) : ∀ l : List (Str × NameKind), lk x l = l.lookup x
  | [] => rfl
  | (a, k) :: r => by
    rw [lk, List.lookup_cons, lk_eq x r]
    by_cases e : a = x
    · subst e
      have h1 : eqStr a a = true := by rw [eqStr, eqL_eq]; simp
      have h2 : (a == a) = true := by rw [← eqStr_eq]; exact h1
      rw [if_pos h1, h2]
    · have h1 : ¬ eqStr a x = true := fun h => e (eqStr_ok h)
      have h2 : (x == a) = false := by
        rw [← eqStr_eq]
        cases z : eqStr x a with
        | false => rfl
        | true => exact absurd (eqStr_ok z).symm e
      rw [if_neg h1, h2]
theorem visC_ok {sc : Scope} {x : Str} (h : visC sc x = true) : Vis sc x := by
  unfold visC at h
  rw [lk_eq] at h
  split at h
  · exact .inl ‹_›
  · exact .inr (.inl ‹_›)
  · exact .inr (.inr ‹_›)
  · cases h
theorem locC_ok {sc : Scope} {x : Str} (h : locC sc x = true) : Loc sc x := by
  unfold locC at h
  rw [lk_eq] at h
  split at h
  · exact .inl ‹_›
  · exact .inr ‹_›
  · cases h
theorem lclC_ok {sc : Scope} {x : Str} (h : lclC sc x = true) : sc.names.lookup x = some .local := by
  unfold lclC at h
  rw [lk_eq] at h
  split at h
  · assumption
  · cases h
theorem glbC_ok {sc : Scope} {x : Str} (h : glbC sc x = true) : sc.names.lookup x = some .globalImplicit := by
  unfold glbC at h
  rw [lk_eq] at h
  split at h
  · assumption
  · cases h
theorem opC_ok {o : Op2} {o' : Operator} (h : opC o o' = true) : o' = opOf o := by cases o <;> cases o' <;> first | rfl | cases h
theorem cmC_ok {o : Cm} {o' : CmpOp} (h : cmC o o' = true) : o' = cmOf o := by cases o <;> cases o' <;> first | rfl | cases h
theorem noSet_marks {e : Expr} (o : CmpOp) (h : noSet e = true) : behindInMarks o e = false := by cases e <;> first | rfl | cases h
theorem noSet_fold {e : Expr} {env : PySem.Env} (h : noSet e = true) : ∀ x, foldedSetIterable e env x = pure x := fun x => by cases e <;> first | rfl | cases h
theorem truth_of {e : Expr} {env : PySem.Env} (h : byTruth e = true) : ∀ whole, isTrue e env whole = (do let v ← whole; standAt e.pos; holding [v] (truthy v)) := fun whole => by cases e <;> first | rfl | cases h
theorem allIn_ok {l m : List Nat} (h : allIn l m = true) : ∀ j ∈ l, j ∈ m := fun j hj => by
  unfold allIn at h
  rw [List.all_eq_true] at h
  obtain ⟨k, hk, e⟩ := List.any_eq_true.mp (h j hj)
  rw [Nat.eq_of_beq_eq_true e]
  exact hk
mutual
theorem tgB_eq : ∀ t : T, tgB t = tgN t
  | .name i => by simp only [tgB, tgN]
  | .tup ts => by simp only [tgB, tgN]; exact tgBs_eq ts
  | .sub _ _ => by simp only [tgB, tgN]
  | .fld _ _ _ => by simp only [tgB, tgN]
theorem tgBs_eq : ∀ t : Ts, tgBs t = tgNs t
  | .nil => by simp only [tgBs, tgNs]
  | .cons t r => by simp only [tgBs, tgNs]; rw [tgB_eq t, tgBs_eq r]
end
theorem blkB_ok {N : List Str} {sc scope : Scope} {own : List (Str × Nat)} (h : blkB N sc scope own = true) : BlkOk N sc scope own := by
  unfold blkB at h
  rw [Bool.and_eq_true, Bool.and_eq_true, Bool.and_eq_true] at h
  obtain ⟨⟨⟨h1, h2⟩, h3⟩, h4⟩ := h
  have anyIn : ∀ y : Str, (own.any fun p => eqStr p.1 y) = true → y ∈ own.map (·.1) := fun y q => by
    obtain ⟨p, hp, e⟩ := List.any_eq_true.mp q
    exact List.mem_map.mpr ⟨p, hp, eqStr_ok e⟩
  refine ⟨?_, fun y hy => ?_, fun p hp => ?_, fun y hy hk => ?_, fun y hy hk => ?_⟩
  · revert h1; cases scope.kind <;> first | exact fun _ => rfl | exact fun z => nomatch z
  · have := List.all_eq_true.mp h2 y hy
    rw [lk_eq] at this
    split at this
    · rename_i k e
      rw [e, eq_of_beq this]
    · cases this
  · exact isAt_ok (List.all_eq_true.mp h3 p hp)
  · have := List.all_eq_true.mp h4 y hy
    rw [hk] at this
    simp only [lk_eq] at this
    split at this
    · exact .inl ‹_›
    · exact .inr ‹_›
    · cases this
  · have := List.all_eq_true.mp h4 y hy
    have this : ((own.any fun p => eqStr p.1 y.1) || !(N.any fun z => eqStr z y.1)) = true := by
      rcases hk with hk | hk <;> (rw [hk] at this; exact this)
    rw [Bool.or_eq_true, Bool.not_eq_true'] at this
    rcases this with q | q
    · exact .inl (anyIn y.1 q)
    · refine .inr fun m => ?_
      rw [List.any_eq_false] at q
      refine q _ m ?_
      rw [eqStr, eqL_eq]; simp
theorem ownOf_map {N : List Str} : ∀ l : List Nat, (ownOf N l).map (·.2) = l
  | [] => rfl
  | i :: l => by
    have := ownOf_map (N := N) l
    unfold ownOf at this ⊢
    rw [List.map_cons, List.map_cons, this]
/-- the built-in names that the module leaves alone -/
def bltAll : List Str := ["abs", "all", "any", "int", "len", "list", "tuple", "max", "min", "sum", "sorted", "set", "isinstance", "bool", "str", "range", "zip", "enumerate", "ValueError", "LookupError"]
/-- what is at hand of a context -/
structure SemE (X : L2.Cx) (C : Ip.Cx) (G : Gx) (tb : Tb) (cs : Cs) (W : L2.WX) : Prop where
  hN : X.N = cs.N
  nd : X.N.Nodup
  pl : ∀ x ∈ X.N, (x == ("__debug__" : Str)) = false ∧ (x == ("__classdict__" : Str)) = false
  vis : ∀ x, visC cs.sc x = true → Vis X.env.scope x
  gl : ∀ x, glbC cs.sc x = true → Gl X x
  loc : ∀ x, locC cs.sc x = true → Loc X.env.scope x ∧ (X.fn x = true ∨ X.env.scope.names.lookup x = some .local)
  lcl : ∀ x, lclC cs.sc x = true → X.env.scope.names.lookup x = some .local
  cf : ∀ x, (cs.sc.names.lookup x = some .cell ∨ cs.sc.names.lookup x = some .free) → (X.env.scope.names.lookup x = some .cell ∨ X.env.scope.names.lookup x = some .free)
  calm : cs.calm = true → X.calm = true
  hK : X.K = G.K
  hH : ∀ k, G.hs k = k.hash X.w
  hu : X.A.units + 64 < cLine
  cur : cs.calm = true → NoCur G
  xc : cs.calm = false → XcOk X G C.eb ∧ ∀ g b d, G.cur = some (b, .ref (G.ca g), d) → G.xf g = tb.xfn ∧ PySem.W.findIn X.K (.ref (G.ca g)) tb.xfn = some none
  glo : ∀ (k : Nat) (x : Str), tb.gnm[k]? = some x → (x == ("__debug__" : Str)) = false ∧ ∃ (d : Ip.D) (v : V) (u : Value), C.glo[k]? = some d ∧ X.mg x = some u ∧ RelV v u ∧ ∀ w, RP G w d v
  fns : cs.calm = true → ∀ (g : Nat) (x : Str), tb.fnm[g]? = some (some x) → (x == ("__debug__" : Str)) = false ∧ X.mg x = some (.ref (G.fa g)) ∧ DefOk X C G g
  fnv : cs.calm = true → ∀ g, PySem.W.keepIn X.K (.ref (G.fa g)) = true ∧ (DefOk X C G g ∨ ∀ xs η, C.call g xs η = .bad)
  blt : ∀ x ∈ bltAll, X.mg x = none
  fnI : ∀ f f', G.fnm f = G.fnm f' → f = f'
  ats : ∀ (f : Nat) (nm : Str), tb.ats[f]? = some nm → G.fnm f = nm
  own : ∀ (c : Nat), ownB tb c = true → Cls X.K (G.ca c) ∧ ∀ (f : Nat) (nm : Str), tb.ats[f]? = some nm → NoAttr X.K (G.ca c) nm
  omk : cs.calm = true → ∀ (c g : Nat) (x : Str), inT tb.oin c g x = true → (x == ("__debug__" : Str)) = false ∧ X.mg x = some (.ref (G.ca c)) ∧ Mk X.K (G.ca c) (G.fa g) ∧ DefOk X C G g
  omt : cs.calm = true → ∀ (c g : Nat) (m : Str), inT tb.omt c g m = true → Cls X.K (G.ca c) ∧ Meth X.K (G.ca c) m (G.fa g) ∧ (∀ f, G.fnm f ≠ m) ∧ DefOk X C G g
  gcd : tb.gcdB = true → X.mg "gcd" = some (.builtin "math.gcd")
  fps : ∀ (g : Nat) (ps : List Str), tb.fps[g]? = some ps → G.pso g = ps
  tk : Takes X W
section
variable {X : L2.Cx} {C : Ip.Cx} {G : Gx} {tb : Tb} {cs : Cs} {W : L2.WX}
theorem rel_keep {sc scope : Scope} {x : Str} {k : NameKind} (hk : k ≠ .free) (h : scope.names.lookup x = some k) : (relS scope sc).names.lookup x = some k := lookup_relS_keep hk h
theorem rel_free {sc : Scope} {x : Str} : ∀ {names : List (Str × NameKind)}, names.lookup x = some .free →
    (names.map fun (n, k) => if (k == NameKind.free && sc.kind == .function && sc.names.lookup n == some .cell) then (n, NameKind.cell) else (n, k)).lookup x = some .cell ∨
    (names.map fun (n, k) => if (k == NameKind.free && sc.kind == .function && sc.names.lookup n == some .cell) then (n, NameKind.cell) else (n, k)).lookup x = some .free
  | [], h => by cases h
  | (n, k) :: r, h => by
    rw [List.lookup_cons] at h
    rw [List.map_cons]
    cases e : (x == n) with
    | true =>
      rw [e] at h
      cases h
      dsimp only
      split
      · left; rw [List.lookup_cons, e]
      · right; rw [List.lookup_cons, e]
    | false =>
      rw [e] at h
      have ih := rel_free (sc := sc) (names := r) h
      dsimp only
      split
      · rw [List.lookup_cons, e]; exact ih
      · rw [List.lookup_cons, e]; exact ih
theorem rel_cf {sc scope : Scope} {x : Str} (h : scope.names.lookup x = some .cell ∨ scope.names.lookup x = some .free) : (relS scope sc).names.lookup x = some .cell ∨ (relS scope sc).names.lookup x = some .free := by
  rcases h with h | h
  · exact .inl (rel_keep (by decide) h)
  · exact rel_free h
theorem rel_vis {sc scope : Scope} {x : Str} (h : Vis scope x) : Vis (relS scope sc) x := by
  rcases h with h | h | h
  · exact .inl (rel_keep (by decide) h)
  · exact .inr (rel_cf (.inl h))
  · exact .inr (rel_cf (.inr h))
theorem BlkOk.to {N : List Str} {sc sc' scope : Scope} {own : List (Str × Nat)} (h : BlkOk N sc scope own) (k : ∀ x, (sc.names.lookup x = some .cell ∨ sc.names.lookup x = some .free) → (sc'.names.lookup x = some .cell ∨ sc'.names.lookup x = some .free)) : BlkOk N sc' scope own :=
  ⟨h.kind, h.uniq, h.ix, fun y hy hf => k _ (h.free y hy hf), h.own⟩
theorem DefOk.blk {g : Nat} (h : DefOk X C G g) (s : Shared) (H : Hp) (scope : Scope) (cenv : PySem.Env) (fp : List Addr) : DefOk (X.blk s H scope cenv fp) C G g := ⟨h.ex, h.kp⟩
theorem SemE.blk (S : SemE X C G tb cs W) (hc : cs.calm = true) (s : Shared) (H : Hp) (scope : Scope) (cl : List (Str × Addr)) (D : Addr) (fp : List Addr) : SemE (X.blk s H scope (compEnvC scope cl D X.env) fp) C G tb { cs with sc := scope, A := [] } Wno where
  hN := S.hN
  nd := S.nd
  pl := S.pl
  vis := fun x h => rel_vis (visC_ok h)
  gl := fun x h => rel_keep (by decide) (glbC_ok h)
  loc := fun x h => by
    rcases locC_ok h with h | h
    · exact ⟨.inl (rel_keep (by decide) h), .inr (rel_keep (by decide) h)⟩
    · refine ⟨.inr (rel_keep (by decide) h), .inl ?_⟩
      show (scope.names.lookup x == some .cell) = true
      rw [h]; rfl
  lcl := fun x h => rel_keep (by decide) (lclC_ok h)
  cf := fun x h => rel_cf h
  calm := S.calm
  hK := S.hK
  hH := S.hH
  hu := S.hu
  cur := S.cur
  xc := fun h => absurd (hc.symm.trans h) (by decide)
  glo := S.glo
  fns := fun k g x h => let ⟨a, b, c⟩ := S.fns k g x h; ⟨a, b, c.blk ..⟩
  fnv := fun k g => ⟨(S.fnv k g).1, (S.fnv k g).2.imp (fun h => h.blk ..) id⟩
  blt := S.blt
  fnI := S.fnI
  ats := S.ats
  own := S.own
  omk := fun k c g x h => let ⟨a, b, d, e⟩ := S.omk k c g x h; ⟨a, b, d, e.blk ..⟩
  omt := fun k c g m h => let ⟨a, b, d, e⟩ := S.omt k c g m h; ⟨a, b, d, e.blk ..⟩
  gcd := S.gcd
  fps := S.fps
  tk := takes_no _
theorem SemE.var (S : SemE X C G tb cs W) {i : Nat} {x : Str} {p : Pos} (h1 : isAt cs.N i x = true) (h2 : visC cs.sc x = true) : PE X (.Name x p) (tE C G W (.var i)) := by
  have e := isAt_ok h1
  rw [← S.hN] at e
  have pl := S.pl x (List.mem_of_getElem? e)
  exact nd_var e (S.vis x h2) pl.1 pl.2
/-- one built-in by its name -/
theorem nm_eq {l : List Nat} {x y : Str} (h : eqStr (sx l) x = true) (e : sx l = y) : x = y := by rw [← eqStr_ok h]; exact e
theorem SemE.bi (S : SemE X C G tb cs W) {f : Bi} {isT : Bool} {y x : Str} {z : Expr} {r' : List Expr} {c : Bool} {es : Es} {p2 pos : Pos} (hb : biN f = some (isT, y)) (hc : cs.calm = true) (hy : eqStr y x = true) (hg : glbC cs.sc x = true) (hn : noStars (z :: r') = true) (ha : PA X (z :: r') (tEs C G W es)) :
    PE X (.Call (.Name x p2) (z :: r') [] pos) (tE C G W (.bi c f es)) := by
  have hg := S.gl _ hg
  have hc := S.calm hc
  have hx := eqStr_ok hy
  subst hx
  cases f <;> simp only [biN, Option.some.injEq, Prod.mk.injEq, reduceCtorEq] at hb <;> obtain ⟨rfl, rfl⟩ := hb
  · exact nd_biB cb_abs hg (S.blt _ (by decide)) (by decide +kernel) (by decide) (by decide) hn ha
  · exact nd_biB (cb_all hc S.hK) hg (S.blt _ (by decide)) (by decide +kernel) (by decide) (by decide) hn ha
  · exact nd_biB (cb_any hc S.hK) hg (S.blt _ (by decide)) (by decide +kernel) (by decide) (by decide) hn ha
  · exact nd_biT cb_int hg (S.blt _ (by decide)) (by decide +kernel) (by decide) (by decide) hn ha
  · exact nd_biB (cb_len S.hK) hg (S.blt _ (by decide)) (by decide +kernel) (by decide) (by decide) hn ha
  · exact nd_biT (cb_list S.hK) hg (S.blt _ (by decide)) (by decide +kernel) (by decide) (by decide) hn ha
  · exact nd_biT (cb_tuple S.hK) hg (S.blt _ (by decide)) (by decide +kernel) (by decide) (by decide) hn ha
  · exact nd_biB (cb_max hc S.hK S.hu) hg (S.blt _ (by decide)) (by decide +kernel) (by decide) (by decide) hn ha
  · exact nd_biB (cb_min hc S.hK S.hu) hg (S.blt _ (by decide)) (by decide +kernel) (by decide) (by decide) hn ha
  · exact nd_biB (cb_sum hc S.hK) hg (S.blt _ (by decide)) (by decide +kernel) (by decide) (by decide) hn ha
  · exact nd_biB (cb_sorted S.hK S.hu) hg (S.blt _ (by decide)) (by decide +kernel) (by decide) (by decide) hn ha
theorem SemE.mt (S : SemE X C G tb cs W) {m : Mt} {nm : Str} {e : E} {e' z : Expr} {r' : List Expr} {c : Bool} {es : Es} {apos pos : Pos} (hm : optEq (mtS m) nm = true) (ho : PE X e' (tE C G W e)) (hbase : plainBase e' = true) (hline : (apos.endLine == pos.line) = true) (hn : noStars (z :: r') = true) (hl : (z :: r').length < 29) (ha : PA X (z :: r') (tEs C G W es)) :
    PE X (.Call (.Attribute e' nm apos) (z :: r') [] pos) (tE C G W (.mt c m e es)) := by
  cases m <;> simp only [mtS, optEq, reduceCtorEq] at hm
  rotate_left
  · have e := eqStr_ok hm
    subst e
    exact nd_mt (idL := "list.extend") (idT := "") S.hK ⟨F.plainAttrs_list, F.slot_list_extend, F.type_list_extend⟩ (fun h => by rcases h with h | h <;> cases h) (mtL_of mt_extendX) (fun h => by rcases h with h | h <;> cases h) ho hbase hline hn hl ha
  rotate_right
  · have e := eqStr_ok hm
    subst e
    exact nd_mt (idL := "list.append") (idT := "") S.hK ⟨F.plainAttrs_list, F.slot_list_append, F.type_list_append⟩ (fun h => by rcases h with h | h <;> cases h) (mtL_of mt_appendX) (fun h => by rcases h with h | h <;> cases h) ho hbase hline hn hl ha
  · have e := eqStr_ok hm
    subst e
    exact nd_mt (idL := "list.count") (idT := "tuple.count") S.hK ⟨F.plainAttrs_list, F.slot_list_count, F.type_list_count⟩ (fun _ => ⟨F.plainAttrs_tuple, F.slot_tuple_count, F.type_tuple_count⟩) (mt_countL S.hK S.hu) (fun _ => mt_countT S.hK S.hu) ho hbase hline hn hl ha
  · have e := eqStr_ok hm
    subst e
    exact nd_mt (idL := "list.index") (idT := "tuple.index") S.hK ⟨F.plainAttrs_list, F.slot_list_index, F.type_list_index⟩ (fun _ => ⟨F.plainAttrs_tuple, F.slot_tuple_index, F.type_tuple_index⟩) (mt_indexL S.hK S.hu) (fun _ => mt_indexT S.hK S.hu) ho hbase hline hn hl ha
theorem tyS_ok {t : Ty} {x : Str} (h : optEq (tyS t) x = true) : ∃ n, tyN t = some n ∧ bootBuiltins x = some (.type n) ∧ x ≠ "__name__" ∧ (x == ("__debug__" : Str)) = false ∧ x ∈ bltAll := by
  cases t <;> simp only [tyS, optEq, reduceCtorEq] at h <;> (have e := eqStr_ok h; subst e; exact ⟨_, rfl, by decide +kernel, by decide, by decide, by decide⟩)
theorem SemE.tys (S : SemE X C G tb cs W) : ∀ {ts : List Ty} {l : List Expr}, tyNames cs.sc ts l = true → ∃ ns, TyNames X ts ns l
  | [], [], _ => ⟨[], .nil⟩
  | [], _ :: _, h => by simp only [tyNames, reduceCtorEq] at h
  | _ :: _, [], h => by simp only [tyNames, reduceCtorEq] at h
  | t :: ts, e :: r, h => by
    unfold tyNames at h
    split at h
    · contradiction
    · rename_i t' ts' x p r' e1 e2
      cases e1
      cases e2
      simp only [Bool.and_eq_true] at h
      obtain ⟨n, h1, h2, h3, h4, h5⟩ := tyS_ok h.1.1
      obtain ⟨ns, k⟩ := S.tys h.2
      exact ⟨n :: ns, .cons h1 (S.gl _ h.1.2) (S.blt _ h5) h2 h3 h4 k⟩
    · cases h
theorem tySE_ok {t : Ty} {x : Str} (h : optEq (tySE t) x = true) : ∃ n, tyNE t = some n ∧ bootBuiltins x = some (.type n) ∧ x ≠ "__name__" ∧ (x == ("__debug__" : Str)) = false ∧ x ∈ bltAll := by
  cases t <;> first
    | exact tyS_ok (t := .int) h
    | exact tyS_ok (t := .bool) h
    | exact tyS_ok (t := .str) h
    | exact tyS_ok (t := .list) h
    | exact tyS_ok (t := .tuple) h
    | (simp only [tySE, tyS, optEq, reduceCtorEq] at h; done)
    | (simp only [tySE, optEq] at h; have e := eqStr_ok h; subst e; exact ⟨_, rfl, by decide +kernel, by decide, by decide, by decide⟩)
end
end Ip
namespace Ip
open PySem PySem.Spec PyProof.Rows L2

abbrev SE (e : E) : Prop := ∀ (e' : Expr) (X : L2.Cx) (C : Ip.Cx) (G : Gx) (tb : Tb) (cs : Cs) (W : L2.WX), SemE X C G tb cs W → ckE tb cs e e' = true → PE X e' (tE C G W e) ∧ (ckT e' = true → PT X e' (tT C G W e))
abbrev SB (es : Es) : Prop := ∀ (es' : List Expr) (pos : Pos) (X : L2.Cx) (C : Ip.Cx) (G : Gx) (tb : Tb) (cs : Cs) (W : L2.WX), SemE X C G tb cs W → ckB tb cs es es' = true →
  (PE X (.BoolOp .And es' pos) (tAndV C G W es) ∧ PE X (.BoolOp .Or es' pos) (tOrV C G W es)) ∧ (PW X (.BoolOp .And es' pos) (tAndB C G W es) ∧ PW X (.BoolOp .Or es' pos) (tOrB C G W es))
abbrev SA (es : Es) : Prop := ∀ (es' : List Expr) (X : L2.Cx) (C : Ip.Cx) (G : Gx) (tb : Tb) (cs : Cs) (W : L2.WX), SemE X C G tb cs W → ckEs tb cs es es' = true → PA X es' (tEs C G W es)
abbrev SK (es : Es) : Prop := ∀ (kws : List Keyword) (X : L2.Cx) (C : Ip.Cx) (G : Gx) (tb : Tb) (cs : Cs) (W : L2.WX), SemE X C G tb cs W → ckKw tb cs es kws = true → PK X kws (tEs C G W es)
abbrev SI (es : Es) : Prop := ∀ (es' : List Expr) (X : L2.Cx) (C : Ip.Cx) (G : Gx) (tb : Tb) (cs : Cs) (W : L2.WX), SemE X C G tb cs W → ckIfs tb cs es es' = true → PTs X es' (tIfs C G W es)
abbrev SIt (it : It) : Prop := ∀ (tg e' : Expr) (X : L2.Cx) (C : Ip.Cx) (G : Gx) (tb : Tb) (cs : Cs) (W : L2.WX), SemE X C G tb cs W → ckIt tb cs it (isTupV tg) e' = true → PI X tg e' (tIt C G W X.K (itLoose it) it)
abbrev SG (t : T) : Prop := ∀ (loose : Bool) (t' : Expr) (X : L2.Cx) (C : Ip.Cx) (G : Gx) (tb : Tb) (cs : Cs) (W : L2.WX), SemE X C G tb cs W → WOf W (tgN t) → ckG tb cs loose t t' = true → PG X t' (tG C G W loose t)
abbrev SGs (ts : Ts) : Prop := ∀ (ts' : List Expr) (X : L2.Cx) (C : Ip.Cx) (G : Gx) (tb : Tb) (cs : Cs) (W : L2.WX), SemE X C G tb cs W → WOf W (tgNs ts) → ckGs tb cs ts ts' = true → PGs X ts' (tGs C G W ts)
theorem wno_free {ns : List Nat} : WOf Wno ns := fun _ _ _ _ _ _ h => h
section
variable {X : L2.Cx} {C : Ip.Cx} {G : Gx} {tb : Tb} {cs : Cs} {W : L2.WX}
/-- a value that is no comparison, no connective: its truth is the test -/
theorem both (S : SemE X C G tb cs W) {e : E} {e' : Expr} (h : PE X e' (tE C G W e)) (k : byTruth e' = true) : PE X e' (tE C G W e) ∧ (ckT e' = true → PT X e' (tT C G W e)) := ⟨h, fun _ => nd_truth S.hK h (truth_of k)⟩
end
mutual
theorem sE : ∀ e : E, SE e
  | .var i, e', X, C, G, tb, cs, W, S, h => by
    simp only [ckE] at h
    split at h
    · rw [Bool.and_eq_true] at h
      exact both S (S.var h.1 h.2) rfl
    · cases h
  | .glo k, e', X, C, G, tb, cs, W, S, h => by
    simp only [ckE] at h
    split at h
    · rw [Bool.and_eq_true] at h
      obtain ⟨hd, d, v, u, h1, h2, h3, h4⟩ := S.glo k _ (isAt_ok h.1)
      exact both S (nd_glo (S.gl _ h.2) h2 h3 h1 h4 hd) rfl
    · cases h
  | .int i, e', X, C, G, tb, cs, W, S, h => by
    simp only [ckE] at h
    split at h
    · exact both S (nd_int h) rfl
    · cases h
  | .bl b, e', X, C, G, tb, cs, W, S, h => by
    simp only [ckE] at h
    split at h
    · rw [beq_iff_eq] at h
      subst h
      exact both S nd_bl rfl
    · cases h
  | .non, e', X, C, G, tb, cs, W, S, h => by
    simp only [ckE] at h
    split at h
    · exact both S nd_non rfl
    · cases h
  | .str s, e', X, C, G, tb, cs, W, S, h => by
    simp only [ckE] at h
    split at h
    · exact both S (nd_str h) rfl
    · cases h
  | .bin c o a b, e', X, C, G, tb, cs, W, S, h => by
    simp only [ckE] at h
    split at h
    · simp only [Bool.and_eq_true] at h
      rw [opC_ok h.1]
      exact both S (nd_bin S.hK (sE a _ X C G tb cs W S h.2.1).1 (sE b _ X C G tb cs W S h.2.2).1) rfl
    · cases h
  | .neg a, e', X, C, G, tb, cs, W, S, h => by
    simp only [ckE] at h
    split at h
    · have p := nd_neg (pos := ‹Pos›) (sE a _ X C G tb cs W S h).1
      exact ⟨p, fun _ => nd_truth S.hK p fun _ => rfl⟩
    · cases h
  | .notE a, e', X, C, G, tb, cs, W, S, h => by
    simp only [ckE] at h
    split at h
    · rw [Bool.and_eq_true] at h
      have p := sE a _ X C G tb cs W S h.1
      exact ⟨nd_notE S.hK p.1, fun _ => nd_notT (p.2 h.2)⟩
    · cases h
  | .cmp o a b, e', X, C, G, tb, cs, W, S, h => by
    simp only [ckE] at h
    split at h
    · simp only [Bool.and_eq_true] at h
      rw [cmC_ok h.1]
      have p := (sE a _ X C G tb cs W S h.2.2.1).1
      have q := (sE b _ X C G tb cs W S h.2.2.2).1
      have m := noSet_marks (cmOf o) h.2.1
      exact ⟨nd_cmp S.hH S.hK S.hu p q m, fun _ => nd_cmpT S.hH S.hK S.hu p q m⟩
    · cases h
  | .chn o p a b d, e', X, C, G, tb, cs, W, S, h => by
    simp only [ckE] at h
    split at h
    · simp only [Bool.and_eq_true] at h
      rw [cmC_ok h.1, cmC_ok h.2.1]
      have pa := (sE a _ X C G tb cs W S h.2.2.2.1).1
      have pb := (sE b _ X C G tb cs W S h.2.2.2.2.1).1
      have pd := (sE d _ X C G tb cs W S h.2.2.2.2.2).1
      have m := noSet_marks (cmOf p) h.2.2.1
      exact ⟨nd_chn S.hH S.hK S.hu pa pb pd m, fun _ => nd_chnT S.hH S.hK S.hu pa pb pd m⟩
    · cases h
  | .isN a, e', X, C, G, tb, cs, W, S, h => by
    simp only [ckE] at h
    split at h
    · have p := (sE a _ X C G tb cs W S h).1
      exact ⟨nd_isN p, fun _ => nd_isNT p⟩
    · cases h
  | .notN a, e', X, C, G, tb, cs, W, S, h => by
    simp only [ckE] at h
    split at h
    · have p := (sE a _ X C G tb cs W S h).1
      exact ⟨nd_notN p, fun _ => nd_notNT p⟩
    · cases h
  | .and es, e', X, C, G, tb, cs, W, S, h => by
    simp only [ckE] at h
    split at h
    · have p := sB es _ ‹Pos› X C G tb cs W S h
      exact ⟨nd_andE p.1.1, fun _ => nd_andET p.2.1⟩
    · cases h
  | .or es, e', X, C, G, tb, cs, W, S, h => by
    simp only [ckE] at h
    split at h
    · have p := sB es _ ‹Pos› X C G tb cs W S h
      exact ⟨nd_orE p.1.2, fun _ => nd_orET p.2.2⟩
    · cases h
  | .ifx t a b, e', X, C, G, tb, cs, W, S, h => by
    simp only [ckE] at h
    split at h
    · simp only [Bool.and_eq_true] at h
      have pt := (sE t _ X C G tb cs W S h.1).2 h.2.1
      have pa := (sE a _ X C G tb cs W S h.2.2.1).1
      have pb := (sE b _ X C G tb cs W S h.2.2.2).1
      exact ⟨nd_ifx pt pa pb, fun k => by simp only [ckT, reduceCtorEq] at k⟩
    · cases h
  | .tup es, e', X, C, G, tb, cs, W, S, h => by
    simp only [ckE] at h
    split at h
    · exact both S (nd_tup (sEs es _ X C G tb cs W S h)) rfl
    · cases h
  | .lst c es, e', X, C, G, tb, cs, W, S, h => by
    simp only [ckE] at h
    split at h
    · exact both S (nd_lst (sEs es _ X C G tb cs W S h)) rfl
    · cases h
  | .ix a b, e', X, C, G, tb, cs, W, S, h => by
    simp only [ckE] at h
    split at h
    · simp only [Bool.and_eq_true] at h
      exact both S (nd_ix S.hH S.hK S.hu (sE a _ X C G tb cs W S h.2.1).1 (sE b _ X C G tb cs W S h.2.2).1 h.1) rfl
    · cases h
  | .sl c a lo hi, e', X, C, G, tb, cs, W, S, h => by
    simp only [ckE] at h
    split at h
    · rename_i a' lo' hi' p q
      simp only [Bool.and_eq_true] at h
      have part : ∀ {l : E} {l' : Option Expr}, (∀ e', ckE tb cs l e' = true → PE X e' (tE C G W l)) → (match l' with
          | none => l.isAbs
          | some l' => !l.isAbs && ckE tb cs l l') = true → PO X l' (tO C G W l) := fun {l l'} k hk => by
        cases l' with
        | none =>
          cases l <;> first | exact nd_abs | (simp only [E.isAbs, reduceCtorEq] at hk)
        | some z =>
          simp only [Bool.and_eq_true, Bool.not_eq_true'] at hk
          exact nd_part (k z hk.2) hk.1
      exact both S (nd_sl S.hK (sE a _ X C G tb cs W S h.1).1 (part (fun z hz => (sE lo z X C G tb cs W S hz).1) h.2.1) (part (fun z hz => (sE hi z X C G tb cs W S hz).1) h.2.2)) rfl
    · cases h
  | .rev _ _, e', X, C, G, tb, cs, W, S, h => by simp only [ckE, reduceCtorEq] at h
  | .absent, e', X, C, G, tb, cs, W, S, h => by simp only [ckE, reduceCtorEq] at h
  | .call g es, e', X, C, G, tb, cs, W, S, h => by
    simp only [ckE] at h
    split at h
    · rename_i x p es' pos
      simp only [Bool.and_eq_true] at h
      obtain ⟨hcm, h⟩ := h
      obtain ⟨hd, hm, D⟩ := S.fns hcm g x (isAtO_ok h.1)
      have gl := S.gl _ h.2.1
      cases es' with
      | nil =>
        have hz := h.2.2.2
        cases es with
        | nil => exact both S (nd_call0 D S.tk gl hm hd) rfl
        | cons a r => simp only [ckEs, reduceCtorEq] at hz
        | star a r => simp only [ckEs, reduceCtorEq] at hz
      | cons z r' => exact both S (nd_call D S.tk gl hm hd h.2.2.1 (sEs es _ X C G tb cs W S h.2.2.2)) rfl
    · cases h
  | .callv f es, e', X, C, G, tb, cs, W, S, h => by
    simp only [ckE] at h
    split at h
    · simp only [Bool.and_eq_true] at h
      obtain ⟨hcm, h⟩ := h
      exact both S (nd_callv (S.fnv hcm) S.tk (sE f _ X C G tb cs W S h.1).1 h.2.1 (sEs es _ X C G tb cs W S h.2.2)) rfl
    · rename_i a b p es' pos
      simp only [Bool.and_eq_true] at h
      obtain ⟨hcm, h⟩ := h
      have hf := (sE f _ X C G tb cs W S h.1).1
      have hz := h.2.2
      cases es' with
      | nil =>
        cases es with
        | nil => exact both S (callv_nil (S.fnv hcm) S.tk hf rfl) rfl
        | cons a r => simp only [ckEs, reduceCtorEq] at hz
        | star a r => simp only [ckEs, reduceCtorEq] at hz
      | cons z r' => exact both S (callv_core (S.fnv hcm) S.tk hf h.2.1 (sEs es _ X C G tb cs W S hz) rfl) rfl
    · cases h
  | .bi c f es, e', X, C, G, tb, cs, W, S, h => by
    unfold ckE at h
    split at h
    · rename_i hf
      have hf : f = .sset := by cases f <;> first | rfl | cases hf
      subst hf
      split at h
      · split at h
        · simp only [Bool.and_eq_true] at h
          obtain ⟨h1, h2, h3, h4, h5, h6, h7⟩ := h
          have e1 := eqStr_ok h2
          have e2 := eqStr_ok h3
          subst e1
          subst e2
          exact both S (nd_sset (S.calm h1) S.hK S.hu (S.gl _ h4) (S.blt _ (by decide)) (S.gl _ h5) (S.blt _ (by decide)) h6 (sE _ _ X C G tb cs W S h7).1) rfl
        · cases h
      · cases h
    · split at h
      · rename_i hf
        have hf : f = .rngT := by cases f <;> first | rfl | cases hf
        subst hf
        split at h
        · split at h
          · simp only [Bool.and_eq_true] at h
            obtain ⟨h1, h2, h3, h4, h5, h6, h7⟩ := h
            have e1 := eqStr_ok h2
            have e2 := eqStr_ok h3
            subst e1
            subst e2
            exact both S (nd_rngT1 (S.calm h1) (S.gl _ h4) (S.blt _ (by decide)) (S.gl _ h5) (S.blt _ (by decide)) h6 (sE _ _ X C G tb cs W S h7).1) rfl
          · cases h
        · cases h
      split at h
      · split at h
        · rename_i b y hb
          simp only [Bool.and_eq_true] at h
          exact both S (S.bi hb h.1 h.2.1 h.2.2.1 h.2.2.2.1 (sEs es _ X C G tb cs W S h.2.2.2.2)) rfl
        · simp only [Bool.and_eq_true] at h
          obtain ⟨h0, h1, h2, h3, h4, h5, h6⟩ := h
          have hf : f = .gcd := by cases f <;> first | rfl | cases h0
          subst hf
          have e1 := eqStr_ok h3
          subst e1
          exact both S (nd_gcd (S.gl _ h4) (S.gcd h1) (by decide) h5 (sEs es _ X C G tb cs W S h6)) rfl
      · cases h
  | .mt c m o es, e', X, C, G, tb, cs, W, S, h => by
    simp only [ckE] at h
    split at h
    · simp only [Bool.and_eq_true] at h
      obtain ⟨h1, h2, h3, h4, h5, h6, h7⟩ := h
      rw [bltN, decide_eq_true_eq] at h5
      exact both S (S.mt h1 (sE o _ X C G tb cs W S h6).1 h2 h3 h4 h5 (sEs es _ X C G tb cs W S h7)) rfl
    · cases h
  | .isi a ts, e', X, C, G, tb, cs, W, S, h => by
    simp only [ckE] at h
    split at h
    · rename_i hcm
      have cur := S.cur hcm
      split at h
      · simp only [Bool.and_eq_true] at h
        obtain ⟨h1, h2, h3, h4, h5, h6⟩ := h
        have e1 := eqStr_ok h1
        subst e1
        obtain ⟨ns, T⟩ := S.tys h4
        rw [bleN, decide_eq_true_eq] at h3
        exact both S (nd_isiN cur S.hK (S.gl _ h2) (S.blt _ (by decide)) T h3 h5 (sE a _ X C G tb cs W S h6).1) rfl
      · simp only [Bool.and_eq_true] at h
        obtain ⟨h1, h2, h3, h4, h5, h6⟩ := h
        have e1 := eqStr_ok h1
        subst e1
        obtain ⟨ns, T⟩ := S.tys h4
        cases T with
        | cons hn g m b hx hdb r =>
          cases r
          exact both S (nd_isi1 cur S.hK (S.gl _ h2) (S.blt _ (by decide)) g m b hx hdb hn h5 (sE a _ X C G tb cs W S h6).1) rfl
      · cases h
    · rename_i hcm
      obtain ⟨xc, _⟩ := S.xc hcm
      split at h
      · split at h
        · simp only [Bool.and_eq_true] at h
          obtain ⟨h1, h2, h3, h4, h5, h6⟩ := h
          have e1 := eqStr_ok h1
          subst e1
          obtain ⟨n, k1, k2, k3, k4, k5⟩ := tySE_ok h3
          exact both S (nd_isiX S.hK xc (S.gl _ h2) (S.blt _ (by decide)) (S.gl _ h4) (S.blt _ k5) k2 k3 k4 k1 h5 (sE a _ X C G tb cs W S h6).1) rfl
        · cases h
      · cases h
  | .comp c elt tg own it ifs, e', X, C, G, tb, cs, W, S, h => by
    simp only [ckE] at h
    split at h
    · rename_i elt' tg' iter' ifs' scope pos
      simp only [Bool.and_eq_true] at h
      obtain ⟨h1, h2, h3, h4, h5, h6, h7, h8⟩ := h
      have ok : BlkOk X.N X.env.scope scope (ownOf cs.N own) := by rw [S.hN]; exact Ip.BlkOk.to (blkB_ok h3) S.cf
      have p := nd_comp (c := c) (W := W) (pos := pos) (own := ownOf cs.N own) (a := elt) (es := ifs) (S.calm h1) S.nd (sIt it tg' iter' X C G tb cs W S h5) ok (by rw [ownOf_map, ← tgB_eq]; exact allIn_ok h4)
        (fun s H D cl fp => sG tg _ tg' _ C G tb _ Wno (S.blk h1 s H scope cl D fp) wno_free h6) (fun s H D cl fp => sIfs ifs ifs' _ C G tb _ Wno (S.blk h1 s H scope cl D fp) h7) (fun s H D cl fp => (sE elt elt' _ C G tb _ Wno (S.blk h1 s H scope cl D fp) h8).1) (noSet_fold h2)
      rw [ownOf_map] at p
      exact both S p rfl
    · cases h
  | .comp2 c elt tg own it tg2 own2 it2 ifs, e', X, C, G, tb, cs, W, S, h => by
    simp only [ckE] at h
    split at h
    · rename_i elt' tg' iter' tg2' iter2' ifs' scope pos
      simp only [Bool.and_eq_true] at h
      obtain ⟨h1, h2, h2', h3, h4, h4', h5, h6, h5', h6', h7, h8⟩ := h
      have ok : BlkOk X.N X.env.scope scope (ownOf cs.N (own ++ own2)) := by rw [S.hN]; exact Ip.BlkOk.to (blkB_ok h3) S.cf
      have rule := pe_lc2 (pos := pos) (vs1 := own2) (S.calm h1) S.nd (sIt it tg' iter' X C G tb cs W S h5) ok (by rw [ownOf_map]; exact fun i hi => List.mem_append.mpr (.inr hi))
        (fun s H D cl fp => sG tg _ tg' _ C G tb _ Wno (S.blk h1 s H scope cl D fp) wno_free h6) (fun s H D cl fp => nd_ifs0 (C := C) (G := G) (W := Wno)) (fun s H D cl fp => show PI _ tg2' iter2' (tIt C G Wno X.K (itLoose it2) it2) from sIt it2 tg2' iter2' _ C G tb _ Wno (S.blk h1 s H scope cl D fp) h5')
        (fun s H D cl fp => sG tg2 _ tg2' _ C G tb _ Wno (S.blk h1 s H scope cl D fp) wno_free h6') (fun s H D cl fp => sIfs ifs ifs' _ C G tb _ Wno (S.blk h1 s H scope cl D fp) h7) (fun s H D cl fp => (sE elt elt' _ C G tb _ Wno (S.blk h1 s H scope cl D fp) h8).1) (noSet_fold h2) (fun env => noSet_fold h2')
      rw [ownOf_map] at rule
      have p : PE X (.ListComp elt' [⟨tg', iter', [], 0⟩, ⟨tg2', iter2', ifs', 0⟩] scope pos) (tE C G W (.comp2 c elt tg own it tg2 own2 it2 ifs)) :=
        PEimp rule fun σ H Q ⟨env, w, hw, rel, er, hh⟩ => comp2_read (by rw [← tgB_eq]; exact allIn_ok h4) (by rw [← tgB_eq]; exact allIn_ok h4') hw rel er hh
      exact both S p rfl
    · cases h
  | .dct, e', X, C, G, tb, cs, W, S, h => by
    simp only [ckE] at h
    split at h
    · exact both S nd_dct rfl
    · cases h
  | .fld a f, e', X, C, G, tb, cs, W, S, h => by
    simp only [ckE] at h
    split at h
    · cases h
    · rename_i hcm
      obtain ⟨xc, xf⟩ := S.xc hcm
      split at h
      · simp only [Bool.and_eq_true] at h
        obtain ⟨h1, h2, h3⟩ := h
        have e1 := eqStr_ok h1
        subst e1
        exact both S (nd_xf S.hK xc xf h2 (sE a _ X C G tb cs W S h3).1) rfl
      · cases h
  | .att c a f, e', X, C, G, tb, cs, W, S, h => by
    simp only [ckE] at h
    split at h
    · simp only [Bool.and_eq_true] at h
      obtain ⟨h1, h2, h3, h4, h5⟩ := h
      have e := isAt_ok h2
      obtain ⟨cl, na⟩ := S.own c h3
      exact both S (nd_att cl (na f _ e) (S.ats f _ e) S.fnI h4 (sE a _ X C G tb cs W S h5).1) rfl
    · cases h
  | .newO c g es, e', X, C, G, tb, cs, W, S, h => by
    simp only [ckE] at h
    split at h
    · rename_i x p2 es' pos
      simp only [Bool.and_eq_true] at h
      obtain ⟨h1, h2, h3, h4, h5⟩ := h
      obtain ⟨k1, k2, k3, k4⟩ := S.omk h1 c g x h2
      have args := sEs es es' X C G tb cs W S h5
      cases es' with
      | nil =>
        cases es with
        | nil => exact both S (nd_newO0 k4 k3 S.tk (S.gl _ h3) k2 k1) rfl
        | cons _ _ => simp only [ckEs, reduceCtorEq] at h5
        | star _ _ => simp only [ckEs, reduceCtorEq] at h5
      | cons z r' => exact both S (nd_newO k4 k3 S.tk (S.gl _ h3) k2 k1 h4 args) rfl
    · cases h
  | .meth c g o es, e', X, C, G, tb, cs, W, S, h => by
    simp only [ckE] at h
    split at h
    · rename_i o' nm apos es' pos
      simp only [Bool.and_eq_true] at h
      obtain ⟨h1, h2, h3, h4, h5, h6, h7, h8⟩ := h
      obtain ⟨k1, k2, k3, k4⟩ := S.omt h1 c g nm h2
      have args := sEs es es' X C G tb cs W S h8
      have ho := (sE o o' X C G tb cs W S h7).1
      cases es' with
      | nil =>
        cases es with
        | nil => exact both S (nd_meth0 k4 k1 k2 k3 S.tk ho h3 h4) rfl
        | cons _ _ => simp only [ckEs, reduceCtorEq] at h8
        | star _ _ => simp only [ckEs, reduceCtorEq] at h8
      | cons z r' => exact both S (nd_meth k4 k1 k2 k3 S.tk ho h3 h4 h5 (by rw [bltN, decide_eq_true_eq] at h6; exact h6) args) rfl
    · cases h
  | .callk g perm es, e', X, C, G, tb, cs, W, S, h => by
    simp only [ckE] at h
    split at h
    · rename_i x p kws pos
      simp only [Bool.and_eq_true] at h
      obtain ⟨hcm, h1, h2, h3, h4⟩ := h
      obtain ⟨hd, hm, D⟩ := S.fns hcm g x (isAtO_ok h1)
      split at h3
      · rename_i ps hps
        exact both S (nd_callk D S.tk (S.gl _ h2) hm hd (S.fps g ps hps) h3 (sKw es kws X C G tb cs W S h4)) rfl
      · cases h3
    · cases h
  | .never, e', X, C, G, tb, cs, W, S, h => ⟨⟨fun pins s σ H Q I ⟨env, w, hw, rel, er, q⟩ => by unfold evE at q; exact q.elim⟩, fun _ => ⟨fun pins s σ H Q I ⟨env, w, hw, rel, er, q⟩ => by unfold evE at q; exact q.elim⟩⟩
theorem sB : ∀ es : Es, SB es
  | .nil, es', pos, X, C, G, tb, cs, W, S, h => by simp only [ckB, reduceCtorEq] at h
  | .star _ _, es', pos, X, C, G, tb, cs, W, S, h => by simp only [ckB, reduceCtorEq] at h
  | .cons e .nil, es', pos, X, C, G, tb, cs, W, S, h => by
    cases es' with
    | nil => simp only [ckB, reduceCtorEq] at h
    | cons e' r' =>
      cases r' with
      | nil =>
        simp only [ckB, Bool.and_eq_true] at h
        have p := sE e _ X C G tb cs W S h.1
        exact ⟨⟨nd_and1 p.1, nd_or1 p.1⟩, nd_and1T (p.2 h.2), nd_or1T (p.2 h.2)⟩
      | cons _ _ => simp only [ckB, reduceCtorEq] at h
  | .cons e (.cons f r), es', pos, X, C, G, tb, cs, W, S, h => by
    cases es' with
    | nil => simp only [ckB, reduceCtorEq] at h
    | cons e' r' =>
      cases r' with
      | nil => simp only [ckB, reduceCtorEq] at h
      | cons f' r' =>
        simp only [ckB, Bool.and_eq_true] at h
        have p := sE e _ X C G tb cs W S h.1
        have q := sB (.cons f r) _ pos X C G tb cs W S h.2.2
        exact ⟨⟨nd_and S.hK p.1 q.1.1, nd_or S.hK p.1 q.1.2⟩, nd_andT (p.2 h.2.1) q.2.1, nd_orT (p.2 h.2.1) q.2.2⟩
  | .cons e (.star f r), es', pos, X, C, G, tb, cs, W, S, h => by
    cases es' with
    | nil => simp only [ckB, reduceCtorEq] at h
    | cons e' r' => cases r' <;> simp only [ckB, reduceCtorEq] at h
theorem sKw : ∀ es : Es, SK es
  | .nil, kws, X, C, G, tb, cs, W, S, h => by
    cases kws with
    | nil => exact nd_kwnil
    | cons _ _ => simp only [ckKw, reduceCtorEq] at h
  | .cons e r, kws, X, C, G, tb, cs, W, S, h => by
    cases kws with
    | nil => simp only [ckKw, reduceCtorEq] at h
    | cons k r' =>
      obtain ⟨a, v, p⟩ := k
      simp only [ckKw, Bool.and_eq_true] at h
      exact nd_kwcons (sE e v X C G tb cs W S h.1).1 (sKw r r' X C G tb cs W S h.2)
  | .star e r, kws, X, C, G, tb, cs, W, S, h => by simp only [ckKw, reduceCtorEq] at h
theorem sEs : ∀ es : Es, SA es
  | .nil, es', X, C, G, tb, cs, W, S, h => by
    cases es' with
    | nil => exact nd_nil
    | cons _ _ => simp only [ckEs, reduceCtorEq] at h
  | .cons e r, es', X, C, G, tb, cs, W, S, h => by
    cases es' with
    | nil => simp only [ckEs, reduceCtorEq] at h
    | cons e' r' =>
      simp only [ckEs, Bool.and_eq_true] at h
      exact nd_cons h.1 (sE e e' X C G tb cs W S h.2.1).1 (sEs r r' X C G tb cs W S h.2.2)
  | .star e r, es', X, C, G, tb, cs, W, S, h => by
    unfold ckEs at h
    split at h
    · contradiction
    · contradiction
    · rename_i e2
      cases e2
      rw [Bool.and_eq_true] at h
      exact nd_star S.hK (sE e _ X C G tb cs W S h.1).1 (sEs r _ X C G tb cs W S h.2)
    · cases h
theorem sIfs : ∀ es : Es, SI es
  | .nil, es', X, C, G, tb, cs, W, S, h => by
    cases es' with
    | nil => exact nd_ifs0
    | cons _ _ => simp only [ckIfs, reduceCtorEq] at h
  | .cons e .nil, es', X, C, G, tb, cs, W, S, h => by
    unfold ckIfs at h
    split at h
    · contradiction
    · rename_i e2
      cases e2
      rw [Bool.and_eq_true] at h
      exact nd_ifs1 ((sE e _ X C G tb cs W S h.1).2 h.2)
    · cases h
  | .cons e (.cons _ _), es', X, C, G, tb, cs, W, S, h => by simp only [ckIfs, reduceCtorEq] at h
  | .cons e (.star _ _), es', X, C, G, tb, cs, W, S, h => by simp only [ckIfs, reduceCtorEq] at h
  | .star _ _, es', X, C, G, tb, cs, W, S, h => by simp only [ckIfs, reduceCtorEq] at h
theorem sIt : ∀ it : It, SIt it
  | .of e, tg, e', X, C, G, tb, cs, W, S, h => by
    simp only [ckIt] at h
    exact nd_itof S.hK (sE e e' X C G tb cs W S h).1
  | .rng es, tg, e', X, C, G, tb, cs, W, S, h => by
    unfold ckIt at h
    split at h
    · contradiction
    · rename_i e2
      cases e2
      simp only [Bool.and_eq_true] at h
      have e3 := eqStr_ok h.1
      subst e3
      exact nd_rng1 (p3 := ‹Pos›) (S.gl _ h.2.1) (S.blt _ (by decide)) h.2.2.1 (sE _ _ X C G tb cs W S h.2.2.2).1
    · rename_i e2
      cases e2
      simp only [Bool.and_eq_true] at h
      have e3 := eqStr_ok h.1
      subst e3
      exact nd_rng2 (p3 := ‹Pos›) (S.gl _ h.2.1) (S.blt _ (by decide)) h.2.2.1 h.2.2.2.1 (sE _ _ X C G tb cs W S h.2.2.2.2.1).1 (sE _ _ X C G tb cs W S h.2.2.2.2.2).1
    · rename_i e2
      cases e2
      simp only [Bool.and_eq_true] at h
      have e3 := eqStr_ok h.1
      subst e3
      exact nd_rng3 (p3 := ‹Pos›) (S.gl _ h.2.1) (S.blt _ (by decide)) h.2.2.1 h.2.2.2.1 h.2.2.2.2.1 (sE _ _ X C G tb cs W S h.2.2.2.2.2.1).1 (sE _ _ X C G tb cs W S h.2.2.2.2.2.2.1).1 (sE _ _ X C G tb cs W S h.2.2.2.2.2.2.2).1
    · contradiction
    · contradiction
    · cases h
  | .zip a b, tg, e', X, C, G, tb, cs, W, S, h => by
    cases tg with
    | Tuple elts kk p =>
      unfold ckIt at h
      split at h
      · contradiction
      · contradiction
      · contradiction
      · contradiction
      · rename_i e1 _
        cases e1
        simp only [Bool.and_eq_true] at h
        have e3 := eqStr_ok h.1
        subst e3
        exact nd_zip S.hK (S.gl _ h.2.1) (S.blt _ (by decide)) h.2.2.1 h.2.2.2.1 (sE a _ X C G tb cs W S h.2.2.2.2.1).1 (sE b _ X C G tb cs W S h.2.2.2.2.2).1
      · contradiction
      · cases h
    | _ => exact absurd h (by unfold ckIt; simp only [isTupV]; first | (intro z; cases z; done) | (split <;> first | (intro z; cases z; done) | contradiction))
  | .enum a, tg, e', X, C, G, tb, cs, W, S, h => by
    cases tg with
    | Tuple elts kk p =>
      unfold ckIt at h
      split at h
      · contradiction
      · contradiction
      · contradiction
      · contradiction
      · contradiction
      · rename_i e1 _
        cases e1
        simp only [Bool.and_eq_true] at h
        have e3 := eqStr_ok h.1
        subst e3
        exact nd_enum S.hK (S.gl _ h.2.1) (S.blt _ (by decide)) h.2.2.1 (sE a _ X C G tb cs W S h.2.2.2).1
      · cases h
    | _ => exact absurd h (by unfold ckIt; simp only [isTupV]; first | (intro z; cases z; done) | (split <;> first | (intro z; cases z; done) | contradiction))
theorem sG : ∀ t : T, SG t
  | .name i, loose, t', X, C, G, tb, cs, W, S, wf, h => by
    unfold ckG at h
    split at h
    · rename_i e1
      cases e1
      rw [Bool.and_eq_true] at h
      have l := S.loc _ h.2
      have e := isAt_ok h.1
      rw [← S.hN] at e
      exact nd_tname S.nd e l.1 l.2
    · contradiction
    · contradiction
    · contradiction
    · cases h
  | .tup ts, loose, t', X, C, G, tb, cs, W, S, wf, h => by
    unfold ckG at h
    split at h
    · contradiction
    · rename_i e1
      cases e1
      simp only [Bool.and_eq_true] at h
      exact nd_ttup S.hK (S.calm h.1) h.2.1 (by have := h.2.2.1; rw [beqN, decide_eq_true_eq] at this; exact this) (sGs ts _ X C G tb cs W S (by unfold tgN at wf; exact wf) h.2.2.2)
    · contradiction
    · contradiction
    · cases h
  | .sub a b, loose, t', X, C, G, tb, cs, W, S, wf, h => by
    unfold ckG at h
    split at h
    · contradiction
    · contradiction
    · contradiction
    · rename_i e1
      cases e1
      simp only [Bool.and_eq_true] at h
      refine nd_tsub S.hH S.hK S.hu (sE a _ X C G tb cs W S h.2.1).1 (sE b _ X C G tb cs W S h.2.2).1 fun v => ?_
      rename_i a' b' _
      cases b' <;> first | rfl | (rename_i st _; cases st <;> first | rfl | (exact nomatch (show false = true from h.1)))
    · cases h
  | .fld c a f, loose, t', X, C, G, tb, cs, W, S, wf, h => by
    unfold ckG at h
    split at h
    · contradiction
    · contradiction
    · rename_i e1
      cases e1
      simp only [Bool.and_eq_true] at h
      obtain ⟨h1, h2, h3, h4⟩ := h
      have e := isAt_ok h2
      obtain ⟨cl, na⟩ := S.own _ h3
      exact nd_tfld cl (na _ _ e) (S.ats _ _ e) S.fnI (sE _ _ X C G tb cs W S h4).1
    · contradiction
    · cases h
theorem sGs : ∀ ts : Ts, SGs ts
  | .nil, ts', X, C, G, tb, cs, W, S, wf, h => by
    cases ts' with
    | nil => exact nd_tnil
    | cons _ _ => simp only [ckGs, reduceCtorEq] at h
  | .cons t r, ts', X, C, G, tb, cs, W, S, wf, h => by
    cases ts' with
    | nil => simp only [ckGs, reduceCtorEq] at h
    | cons t' r' =>
      simp only [ckGs, Bool.and_eq_true] at h
      unfold tgNs at wf
      exact nd_tcons (wf.mono fun j m => List.mem_append_left _ m) h.1 (sG t false t' X C G tb cs W S (wf.mono fun j m => List.mem_append_left _ m) h.2.1) (sGs r r' X C G tb cs W S (wf.mono fun j m => List.mem_append_right _ m) h.2.2)
end
end Ip
/-! try with several clauses, each with or without a name -/
namespace Ip
open PySem PySem.Spec PyProof.Rows L2
structure Clz where
  cls : Value
  slot : Option Nat
  rd : Addr → Value → Option Addr → TS
def endsAs : Option Nat → Ends → Ends
  | none, D => D
  | some i, D => ⟨fun t K => D.nx (t.set i none) K, D.rt, fun t K => D.bk (t.set i none) K, fun t K => D.ct (t.set i none) K⟩
def stAs : Option Nat → Addr → L2.St → L2.St
  | none, _, t => t
  | some i, a, t => t.set i (some (.ref a))
def wCl (K : PySem.W.Frag) (Wo : WX) (D : Ends) : List Clz → WX
  | [] => Wo
  | z :: r => fun cls d t H => ∃ b, PySem.W.exmOne K cls z.cls = some b ∧ (b = true → ∀ a, H a = none → z.rd a cls d (endsAs z.slot D) (stAs z.slot a t) H) ∧ (b = false → wCl K Wo D r cls d t H)
def SlotOk (X : L2.Cx) : Option Nat → Option Str → Prop
  | none, none => True
  | some i, some n => X.N[i]? = some n ∧ X.env.kindOf n = some .local
  | _, _ => False
inductive ClsOk (X : L2.Cx) : List ExceptHandler → List Clz → Prop
  | nil : ClsOk X [] []
  | cons {x : Str} {z : Clz} {nm : Option Str} {s0 : Stmt} {ss : List Stmt} {p p' : Pos} {hs : List ExceptHandler} {l : List Clz} (hc : Names X x z.cls) (hn : SlotOk X z.slot nm)
      (run : ∀ (a : Addr) (oe : Obj) (cls : Value) (d : Option Addr) (pn : List (Addr × Obj)), Zc cls d oe → (∃ vs, oe.data = .fields vs) → PSs (X.suite a ((a, oe) :: pn)) (s0 :: ss) (z.rd a cls d)) (r : ClsOk X hs l) :
      ClsOk X (.ExceptHandler (some (.Name x p)) nm (s0 :: ss) p' :: hs) (z :: l)
section
variable {X : L2.Cx} {pins : List (Addr × Obj)} {σ : L2.St} {H : Hp} {s s1 : Shared} {D : Ends} {Wo : WX} {a : Addr} {B : Heap} {cls : Value} {d : Option Addr}
/-- an error caught, lying on the ground B -/
structure Lain (X : L2.Cx) (pins : List (Addr × Obj)) (σ : L2.St) (H : Hp) (s s1 : Shared) (B : Heap) (a : Addr) (cls : Value) (d : Option Addr) : Prop where
  inv : Inv X pins σ H s
  nb : ∀ b o, s.heap.get? b = some o → b ∉ frs X.stack → B.get? b = some o
  up : s.heap.UpToSlots s1.heap
  fl : HandSPX.FlyingZ B (X.env :: X.outer) a (Zc cls d) s1.heap
  na : H a = none
  os : s1.os = s.os
  ag : AllBare s1.gens
theorem Lain.to (L : Lain X pins σ H s s1 B a cls d) : Inv X pins σ H s1 := L.inv.landed L.nb L.fl.1 L.up L.os L.ag
theorem Lain.next (L : Lain X pins σ H s s1 B a cls d) {h : Heap} (f : HandSPX.FlyingZ B (X.env :: X.outer) a (Zc cls d) h) (u : s1.heap.UpToSlots h) : Lain X pins σ H s { s1 with heap := h } B a cls d :=
  ⟨L.inv, L.nb, L.up.trans u, f, L.na, L.os, L.ag⟩
theorem Lain.away (L : Lain X pins σ H s s1 B a cls d) (hf : X.env.frame = some X.env.locals) : a ≠ X.env.locals ∧ a ∉ X.fs := by
  obtain ⟨oe, vs, he, hz, hd⟩ := L.fl.there
  have out : a ∉ frs (X.env :: X.outer) := fun m => by
    obtain ⟨_, ob, eb, no⟩ := L.fl.2.2.1.mem m
    cases he.symm.trans eb
    exact no _ hd
  refine ⟨fun z => out ?_, fun m => out ?_⟩
  · exact List.mem_filterMap.mpr ⟨_, List.mem_cons_self, by rw [hf, z]⟩
  · obtain ⟨en, m1, m2⟩ := List.mem_filterMap.mp m
    exact List.mem_filterMap.mpr ⟨en, List.mem_cons_of_mem _ m1, m2⟩
theorem Lain.suite (L : Lain X pins σ H s s1 B a cls d) (hf : X.env.frame = some X.env.locals) : ∃ oe, s1.heap.get? a = some oe ∧ Zc cls d oe ∧ (∃ vs, oe.data = .fields vs) ∧ Inv (X.suite a ((a, oe) :: (X.pn ++ pins))) [] σ H s1 := by
  obtain ⟨oe, vs, he, hz, hd⟩ := L.fl.there
  obtain ⟨n1, n2⟩ := L.away hf
  exact ⟨oe, he, hz, ⟨vs, hd⟩, L.to.suite he hd L.na n1 n2⟩
/-- no clause takes it: it goes on -/
theorem Lain.onward (L : Lain X pins σ H s s1 B a cls d) (hs : X.stack = X.env :: X.outer) (hf : X.env.frame = some X.env.locals) (tk : Takes X Wo) (w : Wo cls d σ H) : wpAny (model X.prog X.w) X.A (handleBy (.ref a) X.env []) (SP X pins D) X.xe s1 := by
  refine wpAny_handleBy_nil ?_
  obtain ⟨_, _, _, oe, vs, T, oT, ts, he, _, hd, h1, _⟩ := id L.fl
  have last : wpAny (model X.prog X.w) X.A (setFlight (.ref a) X.env.frame) (fun _ t => wpAny (model X.prog X.w) X.A (throw (.ref a) : Sem Flow) (SP X pins D) X.xe t) X.xe s1 := by
    rw [hf]
    refine HandSPX.setFlight_upZ L.fl fun h4 held u4 => wpAny_throw (tk _ _ ⟨a, B, s, pins, σ, H, cls, d, rfl, L.inv, L.nb, L.up.trans u4, ?_, L.na, L.os, L.ag, w⟩)
    exact .inr (.inr (by rw [hs]; exact held))
  unfold PySem.passOn
  refine wpAny_bind (wpAny_field he hd h1 ?_)
  have nn : ¬ ((Value.ref T == Value.none) = true) := by simp
  rw [if_neg nn]
  first
    | exact wpAny_bind (wpAny_pure (wpAny_bind last))
    | exact wpAny_bind last
theorem clauses (hs : X.stack = X.env :: X.outer) (hf : X.env.frame = some X.env.locals) (hN : X.N.Nodup) (tk : Takes X Wo) {l : List ExceptHandler} {zs : List Clz} (h : ClsOk X l zs) (ok : X.Ok) :
    Lain X pins σ H s s1 B a cls d → wCl X.K Wo D zs cls d σ H → wpAny (model X.prog X.w) X.A (handleBy (.ref a) X.env l) (SP X pins D) X.xe s1 := by
  induction h with
  | nil => exact fun L w => L.onward hs hf tk w
  | @cons x z nm s0 ss p p' hs' l' hc hn run r ih =>
    intro L w
    obtain ⟨b, e1, yes, no⟩ := w
    obtain ⟨oe, he, hz, hd, S⟩ := L.suite hf
    refine wpAny_handleBy_cons (codeAny_handlers_test ?_) (by intro q; cases q)
    have ty : PySem.W.Looks (model X.prog X.w) s1.heap (typeOf (.ref a)) cls := fun A Q E t k q => wpAny_typeOf_ref (k _ _ he) (by rw [hz.1]; exact q)
    have one := PySem.W.exm_one (M := model X.prog X.w) L.to.kIn ty e1
    have named : ∀ {Q : Value → Shared → Prop} {E : Value → Shared → Prop}, Q z.cls s1 → wpAny (model X.prog X.w) (X.A.mark (some (.ref a))) (eval (.Name x p) X.env) Q E s1 := fun {Q E} q => by
      obtain ⟨g, db, m | ⟨m, bv, nm'⟩⟩ := hc
      · exact ld_glob (X := X.suite a ((a, oe) :: (X.pn ++ pins))) S g m q db
      · exact ld_blt (X := X.suite a ((a, oe) :: (X.pn ++ pins))) S g m bv q nm' db
    refine named (one.here ?_)
    cases b with
    | false => exact ih L (no rfl)
    | true =>
      have go := yes rfl a L.na
      obtain ⟨zc, slot, rd⟩ := z
      cases slot with
      | none =>
        cases nm with
        | some n => exact hn.elim
        | none =>
          refine codeAny_handlers_suite (HandSPX.lands_againZ L.fl fun h4 f4 u4 => ?_)
          obtain ⟨oe4, _, hz4, hd4, S4⟩ := (L.next f4 u4).suite hf
          refine wpAny_mono ((run a oe4 cls d (X.pn ++ pins) hz4 hd4).run [] _ _ H _ S4 go) (fun f s6 q => ?_) (fun _ _ y => False.elim y)
          cases f with
          | ret u => obtain ⟨v, t, K, J, rv, q⟩ := q; exact ⟨v, t, K, J.unsuite ok, rv, q⟩
          | next => obtain ⟨t, K, J, q⟩ := q; exact ⟨t, K, J.unsuite ok, q⟩
          | brk => obtain ⟨t, K, J, q⟩ := q; exact ⟨t, K, J.unsuite ok, q⟩
          | cont => obtain ⟨t, K, J, q⟩ := q; exact ⟨t, K, J.unsuite ok, q⟩
      | some i =>
        cases nm with
        | none => exact hn.elim
        | some n =>
          obtain ⟨hi, hl⟩ := hn
          refine codeAny_handlers_suite_as (HandSPX.lands_againZ L.fl fun h4 f4 u4 => ?_)
          obtain ⟨oe4, _, hz4, hd4, S4⟩ := (L.next f4 u4).suite hf
          refine store_ok (X := X.suite a ((a, oe4) :: (X.pn ++ pins))) (v := .ref a) S4 hN hi (.inl hl) rfl (fun s5 S5 => ?_) (.inr hl)
          refine wpAny_mono ((run a oe4 cls d (X.pn ++ pins) hz4 hd4).run [] s5 _ H _ S5 go) (fun f s6 q => ?_) (fun _ _ y => False.elim y)
          cases f with
          | ret u => obtain ⟨v, t, K, J, rv, q⟩ := q; exact gone_ok (J.unsuite ok) hN hi hl fun s7 J7 => ⟨v, _, K, J7, rv, q⟩
          | next => obtain ⟨t, K, J, q⟩ := q; exact gone_ok (J.unsuite ok) hN hi hl fun s7 J7 => ⟨_, K, J7, q⟩
          | brk => obtain ⟨t, K, J, q⟩ := q; exact gone_ok (J.unsuite ok) hN hi hl fun s7 J7 => ⟨_, K, J7, q⟩
          | cont => obtain ⟨t, K, J, q⟩ := q; exact gone_ok (J.unsuite ok) hN hi hl fun s7 J7 => ⟨_, K, J7, q⟩
/-- THE RULE -/
theorem ps_try_cl {body : List Stmt} {h0 : ExceptHandler} {hds : List ExceptHandler} {zs : List Clz} {pos : Pos} {tb : WX → TS} {Wb : Ends → WX} (hs : X.stack = X.env :: X.outer) (hf : X.env.frame = some X.env.locals) (hN : X.N.Nodup) (tk : Takes X Wo)
    (hb : ∀ (D : Ends) (pn : List (Addr × Obj)) (xe : Value → Shared → Prop), Takes (X.tr pn xe) (Wb D) → PassesOwn (model X.prog X.w) X.A X.env xe → PSs (X.tr pn xe) body (tb (Wb D))) (hh : ClsOk X (h0 :: hds) zs) (hWb : ∀ D c d σ H, Wb D c d σ H → wCl X.K Wo D zs c d σ H) :
    PS X (.Try body (h0 :: hds) [] [] pos) (fun D σ H => tb (Wb D) D σ H) := by
  refine ⟨fun pins s σ H D I h => wpAny_Try_except ?_⟩
  have ok := I.ok
  have frm : X.A.frames = some (X.env :: X.outer) := by rw [ok.frames, hs]
  let xe : Value → Shared → Prop := fun e t => wpAny (model X.prog X.w) X.A (noteFrame e X.env) (fun _ t2 => wpAny (model X.prog X.w) X.A (setFlight e none) (fun _ t3 => wpAny (model X.prog X.w) X.A (handleBy e X.env (h0 :: hds)) (SP X pins D) X.xe t3) X.xe t2) X.xe t
  have takes : Takes (X.tr (X.pn ++ pins) xe) (Wb D) := fun u s' xx => by
    obtain ⟨a, B, sI, pins', σ', H', cls, d, rfl, J', nb, up, sky, na, os, ag, w⟩ := xx
    have sky' : Sky B (X.env :: X.outer) a (Zc cls d) X.env.locals s'.heap := by rw [← hs]; exact sky
    show wpAny (model X.prog X.w) X.A (noteFrame (.ref a) X.env) _ _ _
    exact Sky.land Zc.steady frm hf sky' fun h3 f3 u3 => clauses hs hf hN tk hh ok ⟨J'.ofTry ok, nb, up.trans u3, f3, na, os, ag⟩ (hWb _ _ _ _ _ w)
  refine wpAny_mono ((hb D (X.pn ++ pins) xe takes PassesOwn.looking).run [] s σ H D (I.toTry _) h) (fun f s1 q => ?_) (fun e s1 he => he)
  cases f with
  | next => obtain ⟨t, K, J, q⟩ := q; exact wpAny_execs_nil ⟨t, K, J.ofTry ok, q⟩
  | brk => obtain ⟨t, K, J, q⟩ := q; exact ⟨t, K, J.ofTry ok, q⟩
  | cont => obtain ⟨t, K, J, q⟩ := q; exact ⟨t, K, J.ofTry ok, q⟩
  | ret u => obtain ⟨v, t, K, J, rv, q⟩ := q; exact ⟨v, t, K, J.ofTry ok, rv, q⟩
end
end Ip
/-! an error that is handled: what does not look at it -/
namespace Ip
open PySem PySem.Spec PyProof.Rows L2
def Gx.at (G : Gx) (a : Addr) (cls : Value) (dd : Option Addr) : Gx := { G with cur := some (a, cls, dd) }
section
variable {G : Gx} {w : Wd} {a : Addr} {cls : Value} {dd : Option Addr}
mutual
theorem RP.up : ∀ {d : D} {v : V}, RP G w d v → RP (G.at a cls dd) w d v
  | _, _, .non => .non
  | _, _, .bl b => .bl b
  | _, _, .int i => .int i
  | _, _, .str i => .str i
  | _, _, .fn i => .fn i
  | _, _, .tup h r => .tup h (RPs.up r)
  | _, _, .lst h r => .lst h (RPs.up r)
theorem RPs.up : ∀ {d : List D} {v : List V}, RPs G w d v → RPs (G.at a cls dd) w d v
  | _, _, .nil => .nil
  | _, _, .cons h r => .cons (RP.up h) (RPs.up r)
end
mutual
theorem RP.down : ∀ {d : D} {v : V}, RP (G.at a cls dd) w d v → RP G w d v
  | _, _, .non => .non
  | _, _, .bl b => .bl b
  | _, _, .int i => .int i
  | _, _, .str i => .str i
  | _, _, .fn i => .fn i
  | _, _, .tup h r => .tup h (RPs.down r)
  | _, _, .lst h r => .lst h (RPs.down r)
theorem RPs.down : ∀ {d : List D} {v : List V}, RPs (G.at a cls dd) w d v → RPs G w d v
  | _, _, .nil => .nil
  | _, _, .cons h r => .cons (RP.down h) (RPs.down r)
end
theorem ExcK.up {g : Nat} {xs : List D} {c : Value} {e : Option Addr} (h : ExcK G w g xs c e) : ExcK (G.at a cls dd) w g xs c e := by
  obtain ⟨h, h' | ⟨x, da, vx, e1, e2, e3, e4, e5⟩⟩ := h
  · exact ⟨h, .inl h'⟩
  · exact ⟨h, .inr ⟨x, da, vx, e1, e2, e3, e4, e5.up⟩⟩
theorem ExcK.down {g : Nat} {xs : List D} {c : Value} {e : Option Addr} (h : ExcK (G.at a cls dd) w g xs c e) : ExcK G w g xs c e := by
  obtain ⟨h, h' | ⟨x, da, vx, e1, e2, e3, e4, e5⟩⟩ := h
  · exact ⟨h, .inl h'⟩
  · exact ⟨h, .inr ⟨x, da, vx, e1, e2, e3, e4, e5.down⟩⟩
theorem RV.up {d : D} {v : V} (n : G.cur = none) (h : RV G w d v) : RV (G.at a cls dd) w d v := by
  rcases h with h | h | ⟨_, _, _, _, _, _, q, _⟩
  · exact .inl h.up
  · exact .inr (.inl h)
  · rw [n] at q; cases q
theorem RV.down {d : D} {v : V} (n : d.isExc = false) (h : RV (G.at a cls dd) w d v) : RV G w d v := by
  rcases h with h | h | ⟨_, _, _, _, _, rfl, _⟩
  · exact .inl h.down
  · exact .inr (.inl h)
  · cases n
theorem FsR.up (n : G.cur = none) : ∀ {ds : List (Nat × D)} {vs : List (Str × V)}, FsR G w ds vs → FsR (G.at a cls dd) w ds vs
  | [], [], _ => trivial
  | _ :: _, _ :: _, ⟨e, ⟨b, k⟩, c⟩ => ⟨e, ⟨b.up n, k⟩, FsR.up n c⟩
theorem FsR.down : ∀ {ds : List (Nat × D)} {vs : List (Str × V)}, FsR (G.at a cls dd) w ds vs → FsR G w ds vs
  | [], [], _ => trivial
  | _ :: _, _ :: _, ⟨e, ⟨b, k⟩, c⟩ => ⟨e, ⟨b.down k, k⟩, FsR.down c⟩
theorem KDs.up : ∀ {ds : List (D × D)} {vs : List (NestedKey × Addr × Value)}, KDs G w ds vs → KDs (G.at a cls dd) w ds vs
  | [], [], _ => trivial
  | _ :: _, _ :: _, ⟨⟨x, k, b⟩, ⟨v, r, n⟩, c⟩ => ⟨⟨x, k, b.up⟩, ⟨v, r, n.up⟩, KDs.up c⟩
theorem KDs.down : ∀ {ds : List (D × D)} {vs : List (NestedKey × Addr × Value)}, KDs (G.at a cls dd) w ds vs → KDs G w ds vs
  | [], [], _ => trivial
  | _ :: _, _ :: _, ⟨⟨x, k, b⟩, ⟨v, r, n⟩, c⟩ => ⟨⟨x, k, b.down⟩, ⟨v, r, n.down⟩, KDs.down c⟩
theorem CellOk.up {x : Addr} {c : Cell} (n : G.cur = none) (h : CellOk G w x c) : CellOk (G.at a cls dd) w x c := by
  cases c with
  | lst xs => obtain ⟨vs, h1, h2⟩ := h; exact ⟨vs, h1, h2.up⟩
  | dct kvs => obtain ⟨o, xs, h1, h2, h3, h4⟩ := h; exact ⟨o, xs, h1, h2, h3, h4.up⟩
  | obj c fs => obtain ⟨dx, vs, h1, h2⟩ := h; exact ⟨dx, vs, h1, h2.up n⟩
  | lsl xs j => obtain ⟨vs, h1, h2, h3⟩ := h; exact ⟨vs, h1, h2.up, h3⟩
  | dead => trivial
theorem CellOk.down {x : Addr} {c : Cell} (h : CellOk (G.at a cls dd) w x c) : CellOk G w x c := by
  cases c with
  | lst xs => obtain ⟨vs, h1, h2⟩ := h; exact ⟨vs, h1, h2.down⟩
  | dct kvs => obtain ⟨o, xs, h1, h2, h3, h4⟩ := h; exact ⟨o, xs, h1, h2, h3, h4.down⟩
  | obj c fs => obtain ⟨dx, vs, h1, h2⟩ := h; exact ⟨dx, vs, h1, h2.down⟩
  | lsl xs j => obtain ⟨vs, h1, h2, h3⟩ := h; exact ⟨vs, h1, h2.down, h3⟩
  | dead => trivial
theorem Rel.up (n : G.cur = none) (r : Rel G w) : Rel (G.at a cls dd) w := ⟨fun i c e => (r.cell i c e).up n, r.inj, r.ngh, r.ghs⟩
theorem Rel.down (r : Rel (G.at a cls dd) w) : Rel G w := ⟨fun i c e => (r.cell i c e).down, r.inj, r.ngh, r.ghs⟩
theorem EnvR.up {env : Env} {σ : L2.St} (n : G.cur = none) (h : EnvR G w env σ) : EnvR (G.at a cls dd) w env σ := ⟨h.1, fun i d q => let ⟨v, x, y⟩ := h.2 i d q; ⟨v, x, y.up n⟩⟩
theorem noExc_at : ∀ {env : Env} {i : Nat} {d : D}, noExc env = true → env[i]? = some (some d) → d.isExc = false
  | [], _, _, _, h => by simp at h
  | none :: r, 0, _, _, h => by simp at h
  | some d :: r, 0, d', k, h => by
    simp at h
    subst h
    cases d <;> first | rfl | (simp only [noExc, reduceCtorEq] at k)
  | none :: r, i + 1, d, k, h => noExc_at (env := r) (by simpa only [noExc] using k) (by simpa using h)
  | some c :: r, i + 1, d, k, h => noExc_at (env := r) (by cases c <;> first | (simpa only [noExc] using k) | (simp only [noExc, reduceCtorEq] at k)) (by simpa using h)
theorem EnvR.down {env : Env} {σ : L2.St} (n : noExc env = true) (h : EnvR (G.at a cls dd) w env σ) : EnvR G w env σ := ⟨h.1, fun i d q => let ⟨v, x, y⟩ := h.2 i d q; ⟨v, x, y.down (noExc_at n q)⟩⟩
end
end Ip
/-! try: the table of clauses against the evaluator's -/
namespace Ip
open PySem PySem.Spec PyProof.Rows L2
def zsOf (C : Ip.Cx) (G : Gx) (A : List Nat) : Hd → List Clz
  | .nil => []
  | .cons g slot b r => ⟨.ref (G.ca g), slot, fun a cls d D σ H => (∃ g, cls = .ref (G.ca g) ∧ C.eb g .other = true) ∧ tSs C (G.at a cls d) Wno A b D σ H⟩ :: zsOf C G A r
def slotIn (A : List Nat) : Option Nat → Prop
  | none => True
  | some i => i ∈ A
def slotsIn (A : List Nat) : Hd → Prop
  | .nil => True
  | .cons _ s _ r => slotIn A s ∧ slotsIn A r
/-- the clauses' classes are comparable -/
def exmAll (C : Ip.Cx) (G : Gx) (K : PySem.W.Frag) : Hd → Prop
  | .nil => True
  | .cons g _ _ r => (∀ g', C.eb g' .other = true → PySem.W.exmOne K (.ref (G.ca g')) (.ref (G.ca g)) = some (Nat.beq g g')) ∧ exmAll C G K r
section
variable {C : Ip.Cx} {G : Gx} {W : L2.WX} {A : List Nat} {K : PySem.W.Frag}
theorem EnvR.gone {w : Wd} {env : Env} {σ : L2.St} {i : Nat} (h : EnvR G w env σ) : EnvR G w (env.set i none) (σ.set i none) := by
  refine ⟨by rw [List.length_set, List.length_set]; exact h.1, fun j d q => ?_⟩
  by_cases e : i = j
  · subst e
    rw [List.getElem?_set_self'] at q
    cases z : env[i]? <;> rw [z] at q <;> simp at q
  · rw [List.getElem?_set_ne e] at q ⊢
    exact h.2 j d q
theorem Off.gone {σ σ1 : L2.St} {i : Nat} {v : Option V} (hi : i ∈ A) (o : Off A (σ.set i v) σ1) : Off A σ (σ1.set i none) :=
  ((off_set hi).trans' o).trans' (off_set hi)
theorem calm_out {w : Wd} {Wx : PX} {Wy : PX} {G' : Gx} {P P' : Wd → F → Prop} {r : R F} {k : F → Hs → R F} (h : Out G w Wx P (r.calm.bind k)) (hk : ∀ f η, r = .ok f η → Out G w Wx P (k f η) → ∀ w', w'.η = η → Ext w w' → Rel G' w' → P' w' f) : Out G' w Wy P' r := by
  cases r with
  | ok f η => exact fun w' a b c => hk f η rfl h w' a b c
  | ex x η => exact (h : False).elim
  | bad => exact h
theorem hd_ok (hc : G.cur = none) {D : Ends} {σ : L2.St} : ∀ (hs : Hd), slotsIn A hs → exmAll C G K hs → ∀ {env : Env} {w : Wd} {g : Nat} {xs : List Ip.D} {cls : Value} {d : Option Addr}, Rel G w → EnvR G w env σ → ExcK G w g xs cls d →
    Out G w (Wat W σ) (FEnd G A D σ) (evHd C hs (.exc g xs) env w.η) → wCl K W D (zsOf C G A hs) cls d σ w.H
  | .nil, _, _, env, w, g, xs, cls, d, rel, er, ek, h => h w cls d rfl (Ext.refl w) rel ⟨g, xs, rfl, ek⟩
  | .cons g2 slot b r, ⟨hs1, hs2⟩, ⟨hx1, hx2⟩, env, w, g, xs, cls, d, rel, er, ek, h => by
    unfold evHd at h
    simp only at h
    split at h
    · rename_i he
      obtain rfl : cls = .ref (G.ca g) := ek.1
      refine ⟨_, hx1 g he, fun bt a na => ?_, fun bf => ?_⟩
      · rw [bt] at h
        simp only at h
        cases slot with
        | none =>
          refine ⟨⟨g, rfl, he⟩, env, w, rfl, rel.up hc, er.up hc, calm_out h fun f η e hh w' hη ext rel' => ?_⟩
          cases f with
          | nx env1 =>
            simp only at hh
            split at hh
            · rename_i nx
              exact fun σ1 er1 off => hh w' hη ext rel'.down σ1 (er1.down nx) off
            · exact hh.elim
          | rt x =>
            simp only at hh
            split at hh
            · rename_i nl
              exact fun v q => hh w' hη ext rel'.down v (.inl (q.rp nl).down)
            · exact hh.elim
          | bk env1 => exact hh.elim
          | ct env1 => exact hh.elim
        | some i =>
          refine ⟨⟨g, rfl, he⟩, env.set i (some (.exc g xs)), w, rfl, rel.up hc, (er.up hc).set (.inr (.inr ⟨g, xs, a, _, d, rfl, rfl, rfl, ek.up⟩)), calm_out h fun f η e hh w' hη ext rel' => ?_⟩
          cases f with
          | nx env1 =>
            simp only at hh
            split at hh
            · rename_i nx
              exact fun σ1 er1 off => hh w' hη ext rel'.down (σ1.set i none) (er1.gone.down nx) (Off.gone hs1 off)
            · exact hh.elim
          | rt x =>
            simp only at hh
            split at hh
            · rename_i nl
              exact fun v q => hh w' hη ext rel'.down v (.inl (q.rp nl).down)
            · exact hh.elim
          | bk env1 => exact hh.elim
          | ct env1 => exact hh.elim
      · rw [bf] at h
        exact hd_ok hc r hs2 hx2 rel er ek h
    · exact h.elim
theorem pss_if {X : L2.Cx} {l : List Stmt} {p : Prop} {t : TS} (h : p → PSs X l t) : PSs X l (fun D σ H => p ∧ t D σ H) := ⟨fun pins s σ H D I q => (h q.1).run pins s σ H D I q.2⟩
theorem EnvR.off {w : Wd} {env : Env} {σ σ2 : L2.St} {B : List Nat} (h : EnvR G w env σ) (o : Off B σ σ2) : EnvR G w (Ip.wipe env B) σ2 := by
  have hw := h.wipe B
  refine ⟨by rw [hw.1, wipe_length, o.1], fun j d q => ?_⟩
  obtain ⟨v, e, r⟩ := hw.2 j d q
  refine ⟨v, ?_, r⟩
  rw [← Off.wipe o fun _ h => h] at e
  by_cases z : j ∈ B
  · by_cases lt : j < σ2.length
    · rw [wipe_none z lt] at e; cases e
    · rw [List.getElem?_eq_none (by rw [wipe_length]; omega)] at e; cases e
  · rwa [wipe_out z] at e
/-- what an error out of the body may find: the names that the body stores are open -/
def wOpen (B : List Nat) (W : L2.WX) : L2.WX := fun c d σ H => ∀ σ2, Off B σ σ2 → W c d σ2 H
theorem wOpen_of {B : List Nat} {W : L2.WX} : WOf (wOpen B W) B := fun c d σ σ1 H o h σ2 o2 => h σ2 (o.trans' o2)
theorem wOpen_to {B : List Nat} {W : L2.WX} {c : Value} {d : Option Addr} {σ : L2.St} {H : Hp} (h : wOpen B W c d σ H) : W c d σ H := h σ (Off.refl _ _)
/-- try -/
theorem try_read {B : List Nat} (hA : ∀ j ∈ B, j ∈ A) (hW : WA W A) (hc : G.cur = none) {D : Ends} {σ : L2.St} {H : Hp} {b : Ss} {hs : Hd} (h1 : slotsIn A hs) (h2 : exmAll C G K hs) (h : tS C G W A (.tryE B b hs) D σ H) : tSs C G (wOpen B (wCl K W D (zsOf C G A hs))) B b D σ H := by
  obtain ⟨env, w, hw, rel, er, h⟩ := h
  refine ⟨env, w, hw, rel, er, ?_⟩
  unfold evS at h
  split at h
  · rename_i f η e
    rw [e]
    intro w' a b' c
    have := h w' a b' c
    cases f with
    | nx env1 => exact fun σ1 er1 off => this σ1 er1 (off.mono hA)
    | rt x => exact this
    | bk env1 => exact fun σ1 er1 off => this σ1 er1 (off.mono hA)
    | ct env1 => exact fun σ1 er1 off => this σ1 er1 (off.mono hA)
  · exact h.elim
  · rename_i x η e
    rw [e]
    intro w' cls d a b' c ⟨g, xs, e1, ek⟩ σ2 off
    subst e1
    subst a
    have offA := off.mono hA
    refine hd_ok hc hs h1 h2 c ((er.mono b').off off) ek (Out.wish ((Out.of c b' h).mono fun w2 f e2 r2 k => ?_) fun c d H => (hW.at offA c d H).mp)
    cases f with
    | nx env1 => exact fun σ1 er1 o => k σ1 er1 (offA.trans' o)
    | rt x => exact k
    | bk env1 => exact fun σ1 er1 o => k σ1 er1 (offA.trans' o)
    | ct env1 => exact fun σ1 er1 o => k σ1 er1 (offA.trans' o)
end
end Ip
namespace Ip
open PySem PySem.Spec PyProof.Rows L2
/-- .. of a def's body -/
structure SemS (X : L2.Cx) (C : Ip.Cx) (G : Gx) (tb : Tb) (cs : Cs) (W : L2.WX) : Prop where
  e : SemE X C G tb cs W
  hp : cs.calm = true → PassesOwn (model X.prog X.w) X.A X.env X.xe
  wf : WOf W cs.A
  hs : X.stack = X.env :: X.outer
  hf : X.env.frame = some X.env.locals
  exn : ∀ (g : Nat) (x : Str), tb.cxm[g]? = some (some x) → Gl X x → Names X x (.ref (G.ca g)) ∧ ∀ g', C.eb g' .other = true → PySem.W.exmOne X.K (.ref (G.ca g')) (.ref (G.ca g)) = some (Nat.beq g g')
  exc : ∀ g, C.eb g .other = true → ExcC X.K (G.ca g) ∧ (∀ t n, tyNE t = some n → PySem.W.kitOne X.K (.ref (G.ca g)) (.type n) = some (C.eb g t)) ∧ G.xf g = tb.xfn ∧ PySem.W.findIn X.K (.ref (G.ca g)) tb.xfn = some none
  caI : ∀ g g', C.eb g .other = true → G.ca g' = G.ca g → g' = g
  kind : X.env.scope.kind = .function
  blk : X.env.blockKind = .function
  mkr0 : cs.calm = true → cs.mkE = true → ∀ (g : Nat) (x : Str) (p pos : Pos), tb.cnm[g]? = some (some x) → Gl X x → PMk X (.Call (.Name x p) [] [] pos) (tMk C G W g .nil)
  mkr1 : cs.calm = true → cs.mkE = true → ∀ (g : Nat) (x : Str) (a : E) (a' : Expr) (p pos : Pos), tb.cn1[g]? = some (some x) → Gl X x → notStar a' = true → PE X a' (tE C G W a) → PMk X (.Call (.Name x p) [a'] [] pos) (tMk C G W g (.cons a .nil))
section
variable {X : L2.Cx} {C : Ip.Cx} {G : Gx} {tb : Tb} {cs : Cs} {W : L2.WX}
theorem SemS.wa (S : SemS X C G tb cs W) : WA W cs.A := S.wf
theorem neA_ok {A : List Nat} (h : neA A = true) : A ≠ [] := fun e => by subst e; cases h
/-- two or three stores are swapped for sure -/
def isStar : Expr → Bool
  | .Starred .. => true
  | _ => false
theorem str_ne {x y : Str} (h : x ≠ y) : (x == y) = false := by
  rw [← eqStr_eq]
  cases z : eqStr x y with
  | false => rfl
  | true => exact absurd (eqStr_ok z) h
theorem isStar_no {z : Expr} (h : notStar z = true) : isStar z = false := by cases z <;> first | rfl | cases h
theorem swap_two {x y : Str} {px py p2 p3 : Pos} {a b : Expr} {k k2 : Nat} {env : PySem.Env} (hb : env.blockKind = .function) (hx : env.kindOf x = some .local) (hy : env.kindOf y = some .local) (ne : x ≠ y) (h : swpC [px, py] [a, b] = true) :
    swappedStores [.Tuple [.Name x px, .Name y py] k p2] (.Tuple [a, b] k2 p3) env = pure (some [x, y]) := by
  simp only [swpC, List.all_cons, List.all_nil, Bool.and_true, Bool.and_eq_true, noStars, Bool.not_eq_true', beq_iff_eq] at h
  obtain ⟨⟨_, h2⟩, ⟨⟨h3, h4⟩, h5⟩, h6⟩ := h
  have f1 : (foldedForSure 8 a && (foldedForSure 8 b && true)) = false := by rw [Bool.and_true]; exact h5
  have f2 : (constantsAlone 8 a && (constantsAlone 8 b && true)) = false := by rw [Bool.and_true]; exact h6
  have g : ¬ ((isStar a || (isStar b || false)) = true) := by rw [isStar_no h3, isStar_no h4]; decide
  unfold swappedStores
  simp only [List.length_cons, List.length_nil, hb, hx, hy, h2, List.any_cons, List.any_nil, List.filterMap_cons, List.filterMap_nil, List.head?_cons, Option.map_some, Option.getD_some, Expr.pos, List.all_cons, List.all_nil, f1, f2, beq_self_eq_true, Bool.and_self, if_true, List.eraseDups_cons, List.eraseDups_nil, List.filter_cons, List.filter_nil, str_ne ne.symm, str_ne ne, Bool.not_false]
  exact (if_neg (by decide)).trans ((if_neg g).trans ((if_neg (by decide)).trans ((if_neg (by decide)).trans (if_neg (by decide)))))
theorem swap_three {x y z : Str} {px py pz p2 p3 : Pos} {a b c : Expr} {k k2 : Nat} {env : PySem.Env} (hb : env.blockKind = .function) (hx : env.kindOf x = some .local) (hy : env.kindOf y = some .local) (hz : env.kindOf z = some .local) (n1 : x ≠ y) (n2 : x ≠ z) (n3 : y ≠ z) (h : swpC [px, py, pz] [a, b, c] = true) :
    swappedStores [.Tuple [.Name x px, .Name y py, .Name z pz] k p2] (.Tuple [a, b, c] k2 p3) env = pure (some [x, y, z]) := by
  simp only [swpC, List.all_cons, List.all_nil, Bool.and_true, Bool.and_eq_true, noStars, Bool.not_eq_true', beq_iff_eq] at h
  obtain ⟨⟨_, h2, h2'⟩, ⟨⟨h3, h4, h4'⟩, h5⟩, h6⟩ := h
  have f1 : (foldedForSure 8 a && (foldedForSure 8 b && (foldedForSure 8 c && true))) = false := by rw [Bool.and_true]; exact h5
  have f2 : (constantsAlone 8 a && (constantsAlone 8 b && (constantsAlone 8 c && true))) = false := by rw [Bool.and_true]; exact h6
  have g : ¬ ((isStar a || (isStar b || (isStar c || false))) = true) := by rw [isStar_no h3, isStar_no h4, isStar_no h4']; decide
  unfold swappedStores
  simp only [List.length_cons, List.length_nil, hb, hx, hy, hz, h2, h2', List.any_cons, List.any_nil, List.filterMap_cons, List.filterMap_nil, List.head?_cons, Option.map_some, Option.getD_some, Expr.pos, List.all_cons, List.all_nil, f1, f2, beq_self_eq_true, Bool.and_self, if_true, List.eraseDups_cons, List.eraseDups_nil, List.filter_cons, List.filter_nil, str_ne n1.symm, str_ne n1, str_ne n2.symm, str_ne n2, str_ne n3.symm, str_ne n3, Bool.not_false]
  exact (if_neg (by decide)).trans ((if_neg g).trans ((if_neg (by decide)).trans ((if_neg (by decide)).trans (if_neg (by decide)))))
theorem swap_no {ts es : List Expr} {p2 p3 : Pos} {k k2 : Nat} {env : PySem.Env} (h : (Nat.beq ts.length 2 || Nat.beq ts.length 3) = false) : swappedStores [.Tuple ts k p2] (.Tuple es k2 p3) env = pure none := by
  have bq : ∀ n m : Nat, (n == m) = Nat.beq n m := fun n m => by rw [beqN]; rfl
  have h' : (ts.length == 2 || ts.length == 3) = false := by rw [bq, bq]; exact h
  unfold swappedStores
  simp only [h', Bool.not_false, Bool.true_or, if_true]
theorem fm_short {α β : Type} {f : α → Option β} : ∀ {l : List α}, (∃ x ∈ l, f x = none) → (l.filterMap f).length < l.length
  | [], ⟨_, h, _⟩ => nomatch h
  | a :: l, ⟨x, h, e⟩ => by
    have le : (l.filterMap f).length ≤ l.length := List.length_filterMap_le f l
    rw [List.filterMap_cons]
    rcases List.mem_cons.mp h with rfl | h
    · rw [e]; show (l.filterMap f).length < l.length + 1; omega
    · have := fm_short ⟨x, h, e⟩
      split
      · show (l.filterMap f).length < l.length + 1; omega
      · show (l.filterMap f).length + 1 < l.length + 1; omega
theorem swap_none {ts es : List Expr} {p2 p3 : Pos} {k k2 : Nat} {env : PySem.Env} (h : ∃ t ∈ ts, ∀ x p, t = .Name x p → env.kindOf x ≠ some .local) : swappedStores [.Tuple ts k p2] (.Tuple es k2 p3) env = pure none := by
  unfold swappedStores
  dsimp only
  split
  · rfl
  · split
    · rfl
    · refine if_pos ?_
      rw [Bool.or_eq_true, bne_iff_ne]
      refine .inl (Nat.ne_of_lt (fm_short ?_))
      obtain ⟨t, m, q⟩ := h
      refine ⟨t, m, ?_⟩
      split
      · rename_i x p
        rw [if_neg]
        rw [Bool.and_eq_true, beq_iff_eq]
        exact fun z => q x p rfl z.1
      · rfl
theorem swap_fold {ts es : List Expr} {p2 p3 : Pos} {k k2 : Nat} {env : PySem.Env} (h : es.all (foldedForSure 8) = true) : swappedStores [.Tuple ts k p2] (.Tuple es k2 p3) env = pure none := by
  unfold swappedStores
  dsimp only
  split
  · rfl
  · split
    · rfl
    · split
      · rfl
      · first | rfl | (rw [h]; rfl)
abbrev SSt (s : S) : Prop := ∀ (s' : Stmt) (X : L2.Cx) (C : Ip.Cx) (G : Gx) (tb : Tb) (cs : Cs) (W : L2.WX), SemS X C G tb cs W → ckS tb cs s s' = true → PS X s' (tS C G W cs.A s)
abbrev SSs (s : Ss) : Prop := ∀ (l : List Stmt) (X : L2.Cx) (C : Ip.Cx) (G : Gx) (tb : Tb) (cs : Cs) (W : L2.WX), SemS X C G tb cs W → ckSs tb cs s l = true → PSs X l (tSs C G W cs.A s)
theorem SemS.at (S : SemS X C G tb cs W) {i : Nat} {x : Str} (h : isAt cs.N i x = true) : X.N[i]? = some x := by rw [S.e.hN]; exact isAt_ok h
theorem SemS.noSwap (S : SemS X C G tb cs W) {ts es : List Expr} {p2 p3 : Pos} {k k2 : Nat} (h : (!(Nat.beq ts.length 2 || Nat.beq ts.length 3) || (ts.any (notLcl cs.sc) || es.all (foldedForSure 8))) = true) : swappedStores [.Tuple ts k p2] (.Tuple es k2 p3) X.env = pure none := by
  rw [Bool.or_eq_true, Bool.not_eq_true', Bool.or_eq_true] at h
  rcases h with h | h | h
  rotate_left 2
  · exact swap_fold h
  · exact swap_no h
  · obtain ⟨t, m, q⟩ := List.any_eq_true.mp h
    refine swap_none ⟨t, m, fun x p e => ?_⟩
    subst e
    unfold notLcl at q
    dsimp only at q
    rw [lk_eq] at q
    have cf := S.e.cf x
    intro z
    have z : X.env.scope.names.lookup x = some .local := z
    split at q
    · rcases cf (.inl ‹_›) with y | y <;> (rw [y] at z; cases z)
    · rcases cf (.inr ‹_›) with y | y <;> (rw [y] at z; cases z)
    · cases q
theorem ne_of_ix (S : SemS X C G tb cs W) {i j : Nat} {x y : Str} (hi : X.N[i]? = some x) (hj : X.N[j]? = some y) (h : i ≠ j) : x ≠ y := fun e => by
  subst e
  exact h (nodup_ix S.e.nd hi hj)
theorem beq_ne {i j : Nat} (h : (!Nat.beq i j) = true) : i ≠ j := fun e => by
  subst e
  rw [Nat.beq_refl] at h
  cases h
theorem clash_no {scope : Scope} {y : Str} (h : (scope.names.any fun q => eqStr q.1 y && (match q.2 with
            | .local => true
            | .cell => true
            | _ => false)) = false) : (scope.names.any fun (n, k) => n == y && (k == .local || k == .cell)) = false := by
  rw [List.any_eq_false] at h ⊢
  intro q hq
  have := h q hq
  obtain ⟨n, k⟩ := q
  show ¬ ((n == y && (k == .local || k == .cell)) = true)
  rw [← eqStr_eq]
  cases k <;> simpa using this
/-- name = [..] -/
theorem sAsgC (S : SemS X C G tb cs W) {i : Nat} {y : Str} {py p pos : Pos} {elt : Expr} {gs : List Comprehension} {sc2 : Scope} {e : E} (hA : i ∈ cs.A) (hi : X.N[i]? = some y) (hy : X.env.scope.names.lookup y = some .local) (hl : (py.line == p.line) = true)
    (hcl : (sc2.names.any fun q => eqStr q.1 y && (match q.2 with
            | .local => true
            | .cell => true
            | _ => false)) = false) (h : ckE tb cs e (.ListComp elt gs sc2 p) = true) : PS X (.Assign [.Name y py] (.ListComp elt gs sc2 p) pos) (tS C G W cs.A (.asg (.name i) e)) := by
  have sw := sw_true (elt := elt) (gs := gs) (l := pos.line) S.kind hy hl (clash_no hcl)
  cases e with
  | comp c elt2 tg own it ifs =>
    simp only [ckE] at h
    split at h
    · rename_i elt' tg' iter' ifs' scope pos' he
      cases he
      simp only [Bool.and_eq_true] at h
      obtain ⟨h1, h2, h3, h4, h5, h6, h7, h8⟩ := h
      have ok : BlkOk X.N X.env.scope sc2 (ownOf cs.N own) := by rw [S.e.hN]; exact Ip.BlkOk.to (blkB_ok h3) S.e.cf
      have rule := ps_setLc (spos := pos) (S.e.calm h1) S.e.nd hi hy sw (sIt it tg' iter' X C G tb cs W S.e h5) ok
        (fun s H D cl fp => sG tg _ tg' _ C G tb _ Wno (S.e.blk h1 s H sc2 cl D fp) wno_free h6) (fun s H D cl fp => sIfs ifs ifs' _ C G tb _ Wno (S.e.blk h1 s H sc2 cl D fp) h7) (fun s H D cl fp => (sE elt2 elt _ C G tb _ Wno (S.e.blk h1 s H sc2 cl D fp) h8).1) (noSet_fold h2)
      rw [ownOf_map] at rule
      exact nd_asgc S.wa hA rule fun σ H Q ⟨env, w, hw, rel, er, hh⟩ => comp_read (by rw [← tgB_eq]; exact allIn_ok h4) hw rel er hh
    · cases h
  | comp2 c elt2 tg own it tg2 own2 it2 ifs =>
    simp only [ckE] at h
    split at h
    · rename_i elt' tg' iter' tg2' iter2' ifs' scope pos' he
      cases he
      simp only [Bool.and_eq_true] at h
      obtain ⟨h1, h2, h2', h3, h4, h4', h5, h6, h5', h6', h7, h8⟩ := h
      have ok : BlkOk X.N X.env.scope sc2 (ownOf cs.N (own ++ own2)) := by rw [S.e.hN]; exact Ip.BlkOk.to (blkB_ok h3) S.e.cf
      have rule := ps_setLc2 (spos := pos) (vs1 := own2) (S.e.calm h1) S.e.nd hi hy sw (sIt it tg' iter' X C G tb cs W S.e h5) ok (by rw [ownOf_map]; exact fun i hi => List.mem_append.mpr (.inr hi))
        (fun s H D cl fp => sG tg _ tg' _ C G tb _ Wno (S.e.blk h1 s H sc2 cl D fp) wno_free h6) (fun s H D cl fp => nd_ifs0 (C := C) (G := G) (W := Wno)) (fun s H D cl fp => show PI _ tg2' iter2' (tIt C G Wno X.K (itLoose it2) it2) from sIt it2 tg2' iter2' _ C G tb _ Wno (S.e.blk h1 s H sc2 cl D fp) h5')
        (fun s H D cl fp => sG tg2 _ tg2' _ C G tb _ Wno (S.e.blk h1 s H sc2 cl D fp) wno_free h6') (fun s H D cl fp => sIfs ifs ifs' _ C G tb _ Wno (S.e.blk h1 s H sc2 cl D fp) h7) (fun s H D cl fp => (sE elt2 elt _ C G tb _ Wno (S.e.blk h1 s H sc2 cl D fp) h8).1) (noSet_fold h2) (fun env => noSet_fold h2')
      rw [ownOf_map] at rule
      exact nd_asgc S.wa hA rule fun σ H Q ⟨env, w, hw, rel, er, hh⟩ => comp2_read (by rw [← tgB_eq]; exact allIn_ok h4) (by rw [← tgB_eq]; exact allIn_ok h4') hw rel er hh
    · cases h
  | isi a ts => simp only [ckE] at h; split at h <;> first | cases h | (split at h <;> cases h)
  | fld a f => simp only [ckE] at h; split at h <;> cases h
  | never => exact ⟨fun pins s σ H D I ⟨env, w, hw, rel, er, q⟩ => by unfold evS evE at q; exact q.elim⟩
  | bi c f es => unfold ckE at h; simp only at h; split at h <;> first | cases h | (split at h <;> first | cases h | (split at h <;> first | cases h | (split at h <;> first | cases h | (split at h <;> cases h))))
  | _ => simp only [ckE, reduceCtorEq] at h
theorem DefOk.tr {g : Nat} {pn : List (Addr × Obj)} {xe : Value → Shared → Prop} (h : DefOk X C G g) : DefOk (X.tr pn xe) C G g := ⟨h.ex, h.kp⟩
theorem SemE.tr {B : List Nat} (S : SemE X C G tb cs W) {W' : L2.WX} {pn : List (Addr × Obj)} {xe : Value → Shared → Prop} (hc : cs.calm = true) (tk : Takes (X.tr pn xe) W') : SemE (X.tr pn xe) C G tb { cs with A := B, mkE := false } W' :=
  ⟨S.hN, S.nd, S.pl, S.vis, S.gl, S.loc, S.lcl, S.cf, S.calm, S.hK, S.hH, S.hu, S.cur, fun h => absurd (hc.symm.trans h) (by decide), S.glo, fun k g x h => let ⟨a, b, c⟩ := S.fns k g x h; ⟨a, b, c.tr⟩, fun k g => ⟨(S.fnv k g).1, (S.fnv k g).2.imp (fun h => h.tr) id⟩, S.blt, S.fnI, S.ats, S.own, fun k c g x h => let ⟨a, b, d, e⟩ := S.omk k c g x h; ⟨a, b, d, e.tr⟩, fun k c g m h => let ⟨a, b, d, e⟩ := S.omt k c g m h; ⟨a, b, d, e.tr⟩, S.gcd, S.fps, tk⟩
theorem SemS.tr {B : List Nat} (S : SemS X C G tb cs W) {W' : L2.WX} (hW' : WOf W' B) {pn : List (Addr × Obj)} {xe : Value → Shared → Prop} (hc : cs.calm = true) (tk : Takes (X.tr pn xe) W') (hp : PassesOwn (model X.prog X.w) X.A X.env xe) : SemS (X.tr pn xe) C G tb { cs with A := B, mkE := false } W' :=
  ⟨S.e.tr hc tk, fun _ => hp, hW', S.hs, S.hf, S.exn, S.exc, S.caI, S.kind, S.blk, fun _ h => (nomatch (show false = true from h)), fun _ h => (nomatch (show false = true from h))⟩
theorem SemS.suite (S : SemS X C G tb cs W) {a : Addr} {oe : Obj} {cls : Value} {d : Option Addr} {pn : List (Addr × Obj)} (hz : Zc cls d oe) (hd : ∃ vs, oe.data = .fields vs) (hg : ∃ g, cls = .ref (G.ca g) ∧ C.eb g .other = true) :
    SemS (X.suite a ((a, oe) :: pn)) C (G.at a cls d) tb { cs with calm := false } Wno := by
  obtain ⟨g0, rfl, h0⟩ := hg
  refine ⟨⟨S.e.hN, S.e.nd, S.e.pl, S.e.vis, S.e.gl, S.e.loc, S.e.lcl, S.e.cf, fun h => (nomatch (show false = true from h)), S.e.hK, S.e.hH, S.e.hu, fun h => (nomatch (show false = true from h)), fun _ => ⟨⟨fun a' cls' d' e => ?_, fun g a' d' e => ?_⟩, fun g a' d' e => ?_⟩, fun k x h => ?_, fun h => (nomatch (show false = true from h)), fun h => (nomatch (show false = true from h)), S.e.blt, S.e.fnI, S.e.ats, S.e.own, fun h => (nomatch (show false = true from h)), fun h => (nomatch (show false = true from h)), S.e.gcd, S.e.fps, takes_no _⟩, fun h => (nomatch (show false = true from h)), wno_free, S.hs, S.hf, S.exn, S.exc, S.caI, S.kind, S.blk, fun h => (nomatch (show false = true from h)), fun h => (nomatch (show false = true from h))⟩
  · cases e
    exact ⟨oe, List.mem_cons_self, hz, hd⟩
  · have e' : G.ca g0 = G.ca g := Value.ref.inj (Option.some.inj (congrArg (Option.map (fun q : Addr × Value × Option Addr => q.2.1)) (show (some (a, Value.ref (G.ca g0), d) : Option (Addr × Value × Option Addr)) = some (a', .ref (G.ca g), d') from e)))
    obtain rfl := S.caI g0 g h0 e'.symm
    exact ⟨(S.exc g h0).1, (S.exc g h0).2.1⟩
  · have e' : G.ca g0 = G.ca g := Value.ref.inj (Option.some.inj (congrArg (Option.map (fun q : Addr × Value × Option Addr => q.2.1)) (show (some (a, Value.ref (G.ca g0), d) : Option (Addr × Value × Option Addr)) = some (a', .ref (G.ca g), d') from e)))
    obtain rfl := S.caI g0 g h0 e'.symm
    exact (S.exc g h0).2.2
  · obtain ⟨a, d, v, u, b, c, e, f⟩ := S.e.glo k x h
    exact ⟨a, d, v, u, b, c, e, fun w => (f w).up⟩
abbrev SHd (h : Hd) : Prop := ∀ (l : List ExceptHandler) (X : L2.Cx) (C : Ip.Cx) (G : Gx) (tb : Tb) (cs : Cs) (W : L2.WX), SemS X C G tb cs W → ckHd tb cs h l = true → ClsOk X l (zsOf C G cs.A h) ∧ slotsIn cs.A h ∧ exmAll C G X.K h
mutual
theorem sS : ∀ s : S, SSt s
  | .asg t e, s', X, C, G, tb, cs, W, S, h => by
    simp only [ckS] at h
    split at h
    · rename_i t' e' pos
      split at h
      · rename_i nc
        simp only [Bool.and_eq_true, Bool.not_eq_true'] at h
        obtain ⟨h1, h2, h3, h4, h5⟩ := h
        exact nd_asg S.wa (by rw [← tgB_eq]; exact allIn_ok h1) h2 nc h3 (sE e e' X C G tb cs W S.e h4).1 (sG t false t' X C G tb cs W S.e (S.wf.mono (by rw [← tgB_eq]; exact allIn_ok h1)) h5)
      · split at h
        · skip
          simp only [Bool.and_eq_true, Bool.not_eq_true'] at h
          obtain ⟨h1, h2, h3, h4, h5, h6⟩ := h
          exact sAsgC S (allIn_ok h1 _ (List.mem_singleton.mpr rfl)) (S.at h2) (S.e.lcl _ h3) h4 h5 h6
        · cases h
    · cases h
  | .par ts es, s', X, C, G, tb, cs, W, S, h => by
    simp only [ckS] at h
    split at h
    · simp only [Bool.and_eq_true, Bool.not_eq_true'] at h
      obtain ⟨h1, h2, h3, h4, h5, h6, h7⟩ := h
      rw [beqN, decide_eq_true_eq] at h4
      exact nd_par S.e.hK S.wa (by rw [← tgBs_eq]; exact allIn_ok h2) (S.e.calm h1) h3 h4 (S.noSwap h5) (sEs es _ X C G tb cs W S.e h6) (sGs ts _ X C G tb cs W S.e (S.wf.mono (by rw [← tgBs_eq]; exact allIn_ok h2)) h7)
    · cases h
  | .swp [i, j] es, s', X, C, G, tb, cs, W, S, h => by
    simp only [ckS] at h
    split at h
    · simp only [Bool.and_eq_true] at h
      obtain ⟨h1, h2, h3, h4, h5, h6, h7, h8, h9⟩ := h
      have a := allIn_ok h2
      have l1 := S.e.lcl _ h6
      have l2 := S.e.lcl _ h7
      exact nd_swp2 ⟨a i (by simp), a j (by simp)⟩ (S.e.calm h1) S.e.nd (S.at h3) (S.at h4) (beq_ne h5) l1 l2 (sEs es _ X C G tb cs W S.e h9) (swap_two S.blk l1 l2 (ne_of_ix S (S.at h3) (S.at h4) (beq_ne h5)) h8)
    · cases h
  | .swp [i, j, l] es, s', X, C, G, tb, cs, W, S, h => by
    simp only [ckS] at h
    split at h
    · simp only [Bool.and_eq_true] at h
      obtain ⟨h1, h2, h3, h4, h5, h6, h7, h8, h9, h10, h11, h12, h13⟩ := h
      have a := allIn_ok h2
      have l1 := S.e.lcl _ h9
      have l2 := S.e.lcl _ h10
      have l3 := S.e.lcl _ h11
      exact nd_swp3 ⟨a i (by simp), a j (by simp), a l (by simp)⟩ (S.e.calm h1) S.e.nd (S.at h3) (S.at h4) (S.at h5) (beq_ne h6) (beq_ne h7) (beq_ne h8) l1 l2 l3 (sEs es _ X C G tb cs W S.e h13)
        (swap_three S.blk l1 l2 l3 (ne_of_ix S (S.at h3) (S.at h4) (beq_ne h6)) (ne_of_ix S (S.at h3) (S.at h5) (beq_ne h7)) (ne_of_ix S (S.at h4) (S.at h5) (beq_ne h8)) h12)
    · cases h
  | .swp [] es, s', X, C, G, tb, cs, W, S, h => by simp only [ckS, reduceCtorEq] at h
  | .swp [_] es, s', X, C, G, tb, cs, W, S, h => by simp only [ckS, reduceCtorEq] at h
  | .swp (_ :: _ :: _ :: _ :: _) es, s', X, C, G, tb, cs, W, S, h => by simp only [ckS, reduceCtorEq] at h
  | .aug i o e, s', X, C, G, tb, cs, W, S, h => by
    simp only [ckS] at h
    split at h
    · simp only [Bool.and_eq_true] at h
      obtain ⟨h1, h2, h3, h4, h5⟩ := h
      rw [opC_ok h4]
      have l := S.e.loc _ h3
      exact nd_aug (allIn_ok h1 i (List.mem_singleton.mpr rfl)) S.e.nd (S.at h2) l.1 l.2 (sE e _ X C G tb cs W S.e h5).1
    · cases h
  | .expr e, s', X, C, G, tb, cs, W, S, h => by
    simp only [ckS] at h
    split at h
    · rw [Bool.and_eq_true] at h
      exact nd_expr h.1 (sE e _ X C G tb cs W S.e h.2).1
    · cases h
  | .ret e, s', X, C, G, tb, cs, W, S, h => by
    simp only [ckS] at h
    split at h
    · exact nd_ret (sE e _ X C G tb cs W S.e h).1
    · cases h
  | .retN, s', X, C, G, tb, cs, W, S, h => by
    simp only [ckS] at h
    split at h
    · exact nd_retN
    · cases h
  | .ite c a b, s', X, C, G, tb, cs, W, S, h => by
    simp only [ckS] at h
    split at h
    · simp only [Bool.and_eq_true] at h
      obtain ⟨h1, h2, h3, h4⟩ := h
      exact nd_ite ((sE c _ X C G tb cs W S.e h1).2 h2) (sSs a _ X C G tb cs W S h3) (sSs b _ X C G tb cs W S h4)
    · cases h
  | .whl c b, s', X, C, G, tb, cs, W, S, h => by
    simp only [ckS] at h
    split at h
    · simp only [Bool.and_eq_true] at h
      obtain ⟨h0, h1, h2, h3⟩ := h
      exact nd_whl S.wa (S.hp h0) ((sE c _ X C G tb cs W S.e h1).2 h2) (sSs b _ X C G tb cs W S h3)
    · cases h
  | .for t it b, s', X, C, G, tb, cs, W, S, h => by
    simp only [ckS] at h
    split at h
    · simp only [Bool.and_eq_true] at h
      obtain ⟨h1, h2, h3, h4, h5, h6⟩ := h
      exact nd_for S.wa (by rw [← tgB_eq]; exact allIn_ok h3) (S.hp h1) (S.e.calm h1) (sIt it _ _ X C G tb cs W S.e h4) (sG t _ _ X C G tb cs W S.e (S.wf.mono (by rw [← tgB_eq]; exact allIn_ok h3)) h5) (sSs b _ X C G tb cs W S h6) (noSet_fold h2)
    · cases h
  | .raise g es, s', X, C, G, tb, cs, W, S, h => by
    simp only [ckS] at h
    split at h
    · simp only [Bool.and_eq_true] at h
      obtain ⟨h1, h0, h2⟩ := h
      unfold ckR at h2
      split at h2
      · split at h2
        · rw [Bool.and_eq_true] at h2
          exact nd_raise (S.e.calm h1) S.e.tk (S.mkr0 h1 h0 g _ _ _ (isAtO_ok h2.1) (S.e.gl _ h2.2))
        · cases h2
      · split at h2
        · simp only [Bool.and_eq_true] at h2
          exact nd_raise (S.e.calm h1) S.e.tk (S.mkr1 h1 h0 g _ _ _ _ _ (isAtO_ok h2.1) (S.e.gl _ h2.2.1) h2.2.2.1 (sE _ _ X C G tb cs W S.e h2.2.2.2).1)
        · cases h2
      · cases h2
    · cases h
  | .tryE B b hs, s', X, C, G, tb, cs, W, S, h => by
    simp only [ckS] at h
    split at h
    · simp only [Bool.and_eq_true] at h
      obtain ⟨h1, h0, h2, h3⟩ := h
      obtain ⟨k1, k2, k3⟩ := sHd hs _ X C G tb cs W S h3
      have hB := allIn_ok h0
      exact PSimp (ps_try_cl (Wb := fun D => wOpen B (wCl X.K W D (zsOf C G cs.A hs))) (tb := fun W' => tSs C G W' B b) S.hs S.hf S.e.nd S.e.tk (fun D pn xe tk hp => sSs b _ (X.tr pn xe) C G tb _ _ (S.tr wOpen_of h1 tk hp) h2) k1 (fun D c d σ H q => wOpen_to q)) fun D σ H q => try_read hB S.wa (S.e.cur h1) k2 k3 q
    · cases h
  | .pass, s', X, C, G, tb, cs, W, S, h => by
    simp only [ckS] at h
    split at h
    · exact nd_pass
    · exact nd_doc
    · cases h
  | .brk, s', X, C, G, tb, cs, W, S, h => by
    simp only [ckS] at h
    split at h
    · exact nd_brk
    · cases h
  | .cont, s', X, C, G, tb, cs, W, S, h => by
    simp only [ckS] at h
    split at h
    · exact nd_cont
    · cases h
  | .never, s', X, C, G, tb, cs, W, S, h => ⟨fun pins s σ H D I ⟨env, w, hw, rel, er, q⟩ => by unfold evS at q; exact q.elim⟩
theorem sSs : ∀ s : Ss, SSs s
  | .nil, l, X, C, G, tb, cs, W, S, h => by
    cases l with
    | nil => exact nd_snil
    | cons _ _ => simp only [ckSs, reduceCtorEq] at h
  | .cons s r, l, X, C, G, tb, cs, W, S, h => by
    cases l with
    | nil => simp only [ckSs, reduceCtorEq] at h
    | cons s' r' =>
      simp only [ckSs, Bool.and_eq_true] at h
      exact nd_scons S.wa (sS s s' X C G tb cs W S h.1) (sSs r r' X C G tb cs W S h.2)
  | .frz i r, l, X, C, G, tb, cs, W, S, h => by
    simp only [ckSs] at h
    exact nd_frz (sSs r l X C G tb cs W S h)
  | .frzL i r, l, X, C, G, tb, cs, W, S, h => by
    simp only [ckSs] at h
    exact nd_frzL (sSs r l X C G tb cs W S h)
theorem sHd : ∀ h : Hd, SHd h
  | .nil, l, X, C, G, tb, cs, W, S, h => by
    cases l with
    | nil => exact ⟨.nil, trivial, trivial⟩
    | cons _ _ => simp only [ckHd, reduceCtorEq] at h
  | .cons g slot b r, l, X, C, G, tb, cs, W, S, h => by
    unfold ckHd at h
    split at h
    · cases ‹Hd.cons g slot b r = .nil›
    · rename_i g' slot' b' r' x p nm s0 ss p' l' he
      cases he
      simp only [Bool.and_eq_true] at h
      obtain ⟨h1, h2, h3, h4, h5⟩ := h
      obtain ⟨k1, k2, k3⟩ := sHd r _ X C G tb cs W S h5
      obtain ⟨n1, n2⟩ := S.exn g _ (isAtO_ok h1) (S.e.gl _ h2)
      have rd : ∀ (a : Addr) (oe : Obj) (cls : Value) (d : Option Addr) (pn : List (Addr × Obj)), Zc cls d oe → (∃ vs, oe.data = .fields vs) → PSs (X.suite a ((a, oe) :: pn)) (s0 :: ss) (fun D σ H => (∃ g, cls = .ref (G.ca g) ∧ C.eb g .other = true) ∧ tSs C (G.at a cls d) Wno cs.A b D σ H) := fun a oe cls d pn hz hd => pss_if fun hg =>
        sSs b _ _ C (G.at a cls d) tb { cs with calm := false } Wno (S.suite hz hd hg) h4
      split at h3
      · exact ⟨.cons n1 trivial rd k1, ⟨trivial, k2⟩, n2, k3⟩
      · simp only [Bool.and_eq_true] at h3
        exact ⟨.cons n1 ⟨S.at h3.2.1, S.e.lcl _ h3.2.2⟩ rd k1, ⟨allIn_ok h3.1 _ (List.mem_singleton.mpr rfl), k2⟩, n2, k3⟩
      · cases h3
    · cases h
end
end
end Ip
namespace Ip
open PySem PySem.Spec PyProof.Rows L2

/-! ### a call's end: the own places of the call are gone -/
structure Sub0 (w w' : Wd) : Prop where
  keep : ∀ a o, w.H a = some o → ¬ w.Live a → w'.H a = some o
  live : ∀ a o, w.H a = some o → ¬ w.Live a → ¬ w'.Live a
section
variable {G : Gx} {w w' : Wd}
theorem TupAt.sub0 {K : PySem.W.Frag} {a : Addr} {vs : List V} (e : Sub0 w w') (h : TupAt K w a vs) : TupAt K w' a vs := by
  rcases h with ⟨o, h, d, n⟩ | h
  · exact .inl ⟨o, e.keep _ _ h n, d, e.live _ _ h n⟩
  · exact .inr h
theorem LstAt.sub0 {a : Addr} {vs : List V} (e : Sub0 w w') (h : LstAt w a vs) : LstAt w' a vs := by
  obtain ⟨h | ⟨o, h⟩, n⟩ := h
  · exact ⟨.inl (e.keep _ _ h n), e.live _ _ h n⟩
  · exact ⟨.inr ⟨o, e.keep _ _ h n⟩, e.live _ _ h n⟩
mutual
theorem RP.sub0 (e : Sub0 w w') : ∀ {d : D} {v : V}, RP G w d v → RP G w' d v
  | _, _, .non => .non
  | _, _, .bl b => .bl b
  | _, _, .int i => .int i
  | _, _, .str i => .str i
  | _, _, .fn i => .fn i
  | _, _, .tup h r => .tup (h.sub0 e) (RPs.sub0 e r)
  | _, _, .lst h r => .lst (h.sub0 e) (RPs.sub0 e r)
theorem RPs.sub0 (e : Sub0 w w') : ∀ {d : List D} {v : List V}, RPs G w d v → RPs G w' d v
  | _, _, .nil => .nil
  | _, _, .cons h r => .cons (RP.sub0 e h) (RPs.sub0 e r)
end
theorem KDs.sub0 (e : Sub0 w w') : ∀ {ds : List (D × D)} {vs : List (NestedKey × Addr × Value)}, KDs G w ds vs → KDs G w' ds vs
  | [], [], _ => trivial
  | _ :: _, _ :: _, ⟨⟨a, k, b⟩, ⟨v, r, n⟩, c⟩ => ⟨⟨a, k, b.sub0 e⟩, ⟨v, r, n.sub0 e⟩, KDs.sub0 e c⟩
theorem ExcK.sub0 {g : Nat} {xs : List D} {cls : Value} {dd : Option Addr} (e : Sub0 w w') (h : ExcK G w g xs cls dd) : ExcK G w' g xs cls dd := by
  obtain ⟨h, h' | ⟨x, da, vx, e1, e2, e3, e4, e5⟩⟩ := h
  · exact ⟨h, .inl h'⟩
  · exact ⟨h, .inr ⟨x, da, vx, e1, e2, e.keep _ _ e3 e4, e.live _ _ e3 e4, e5.sub0 e⟩⟩
/-- only the first n places are left -/
def Wd.cut (w : Wd) (n : Nat) : Wd := { w with η := w.η.take n }
theorem cut_get {n i : Nat} {c : Cell} (h : (w.cut n).η[i]? = some c) : i < n ∧ w.η[i]? = some c := by
  have h' : (w.η.take n)[i]? = some c := h
  rw [List.getElem?_take] at h'
  split at h'
  · exact ⟨‹_›, h'⟩
  · cases h'
theorem cut_live {n : Nat} {a : Addr} (h : (w.cut n).Live a) : w.Live a := by
  rcases h with ⟨i, c, q, nd, m⟩ | g
  · exact .inl ⟨i, c, (cut_get q).2, nd, m⟩
  · exact .inr g
theorem cut_sub0 {n : Nat} : Sub0 w (w.cut n) := ⟨fun a o h _ => h, fun a o h n l => n (cut_live l)⟩
theorem plain_at : ∀ {n : Nat} {η : Hs} {i : Nat} {c : Cell}, plainCells n η = true → i < n → η[i]? = some c → (∃ xs, c = .lst xs) ∨ (∃ k, c = .dct k) ∨ c = .dead
  | 0, _, _, _, _, h, _ => absurd h (Nat.not_lt_zero _)
  | n + 1, [], _, _, _, _, h => by simp at h
  | n + 1, c0 :: r, 0, c, h, _, e => by
    simp at e
    subst e
    cases c0 <;> simp only [plainCells, reduceCtorEq] at h
    · exact .inl ⟨_, rfl⟩
    · exact .inr (.inl ⟨_, rfl⟩)
    · exact .inr (.inr rfl)
  | n + 1, c0 :: r, i + 1, c, h, lt, e => by
    simp at e
    refine plain_at (n := n) (η := r) (i := i) ?_ (by omega) e
    cases c0 <;> simp only [plainCells, reduceCtorEq] at h <;> exact h
theorem cut_rel {n : Nat} (r : Rel G w) (h : plainCells n w.η = true) : Rel G (w.cut n) where
  cell := fun i c q => by
    obtain ⟨lt, q⟩ := cut_get q
    have k := r.cell i c q
    rcases plain_at h lt q with ⟨xs, rfl⟩ | ⟨kk, rfl⟩ | rfl
    · obtain ⟨vs, h1, h2⟩ := k
      exact ⟨vs, h1, h2.sub0 cut_sub0⟩
    · obtain ⟨o, xs, h1, h2, h3, h4⟩ := k
      exact ⟨o, xs, h1, h2, h3, h4.sub0 cut_sub0⟩
    · trivial
  inj := fun i j c d q q' nd nd' m => r.inj i j c d (cut_get q).2 (cut_get q').2 nd nd' m
  ngh := fun i c q nd g => r.ngh i c (cut_get q).2 nd g
  ghs := r.ghs
theorem cut_ext {w0 : Wd} (e : Ext w0 w) : Ext w0 (w.cut w0.η.length) where
  len := by show w0.η.length ≤ (w.η.take w0.η.length).length; rw [List.length_take]; exact Nat.le_min.mpr ⟨Nat.le_refl _, e.len⟩
  mp := e.mp
  keep := e.keep
  live := fun a o h n l => e.live a o h n (cut_live l)
  gh := e.gh
/-- the value that a call hands back -/
theorem fin_ok {w0 : Wd} {rc : Bool} {d : D} {v : V} {Q : VK} {W : PX} (hc : NoCur G) (e : Ext w0 w) (r : Rel G w) (q : RV G w d v) (h : Out G w0 W (PE1 G Q) (fin rc w0.η.length d w.η)) : Q v w.H := by
  unfold fin at h
  split at h
  · exact h w rfl e r v q
  · split at h
    · rename_i pc
      have r2 := cut_rel r pc
      have e2 := cut_ext e
      have pure : d.noLoc = true → Out G w0 W (PE1 G Q) (.ok d (w.η.take w0.η.length)) → Q v w.H := fun nl hh => hh (w.cut w0.η.length) rfl e2 r2 v (.inl ((q.rp nl).sub0 cut_sub0))
      cases d with
      | loc i =>
        simp only at h
        obtain ⟨hi, rfl⟩ := q.loc
        split at h
        · rename_i lt
          rw [bltN, decide_eq_true_eq] at lt
          refine h (w.cut w0.η.length) rfl e2 r2 _ (.inr (.inl ⟨i, rfl, ?_, rfl⟩))
          show i < (w.η.take w0.η.length).length
          rw [List.length_take]; omega
        · rename_i nlt
          have nlt : ¬ i < w0.η.length := fun z => nlt (by rw [bltN]; exact decide_eq_true z)
          split at h
          · rename_i xs hη
            obtain ⟨vs, h1, h2⟩ := cell_of r hη
            have nat : ¬ (w.cut w0.η.length).At (w.mp i) := fun ⟨j, c, qj, nd, m⟩ => by
              obtain ⟨lt, qj⟩ := cut_get qj
              have := r.inj j i c _ qj hη nd id m
              omega
            have ngh : ¬ w.gh (w.mp i) := r.ngh i _ hη id
            cases rc with
            | false => exact h (w.cut w0.η.length) rfl e2 r2 _ (.inl (.lst ⟨.inl h1, fun l => l.elim nat ngh⟩ (h2.sub0 cut_sub0)))
            | true =>
              -- a place anew
              let w3 : Wd := { w with mp := fun j => if j = w0.η.length then w.mp i else w.mp j, η := w.η.take w0.η.length ++ [.lst xs] }
              have len : (w.η.take w0.η.length).length = w0.η.length := by rw [List.length_take]; exact Nat.min_eq_left e.len
              have at3 : ∀ {j : Nat}, j < w0.η.length → w3.mp j = w.mp j := fun {j} hj => by show (if j = w0.η.length then w.mp i else w.mp j) = w.mp j; rw [if_neg (Nat.ne_of_lt hj)]
              have new3 : w3.mp w0.η.length = w.mp i := by show (if w0.η.length = w0.η.length then w.mp i else w.mp w0.η.length) = w.mp i; rw [if_pos rfl]
              have get3 : ∀ {j : Nat} {c : Cell}, w3.η[j]? = some c → (j < w0.η.length ∧ w.η[j]? = some c) ∨ (j = w0.η.length ∧ c = .lst xs) := fun {j c} qj => by
                have q' : (w.η.take w0.η.length ++ [Cell.lst xs])[j]? = some c := qj
                by_cases hj : j < w0.η.length
                · rw [List.getElem?_append_left (by rw [len]; exact hj)] at q'
                  exact .inl ⟨hj, (cut_get (w := w) q').2⟩
                · rw [List.getElem?_append_right (by rw [len]; omega), len] at q'
                  by_cases hz : j - w0.η.length = 0
                  · rw [hz] at q'; simp at q'; exact .inr ⟨by omega, q'.symm⟩
                  · rw [List.getElem?_eq_none (by simp; omega)] at q'; cases q'
              have live3 : ∀ a, w3.Live a → w.Live a := fun a l => by
                rcases l with ⟨j, c, qj, nd, m⟩ | g
                · rcases get3 qj with ⟨hj, qj⟩ | ⟨hj, _⟩
                  · exact .inl ⟨j, c, qj, nd, by rw [← at3 hj]; exact m⟩
                  · subst hj; rw [new3] at m; exact .inl ⟨i, _, hη, id, m⟩
                · exact .inr g
              have s3 : Sub0 w w3 := ⟨fun a o h _ => h, fun a o h n l => n (live3 a l)⟩
              have r3 : Rel G w3 := {
                cell := fun j c qj => by
                  rcases get3 qj with ⟨hj, qj⟩ | ⟨hj, ec⟩
                  · rw [at3 hj]
                    have k := r.cell j c qj
                    rcases plain_at pc hj qj with ⟨ys, rfl⟩ | ⟨kk, rfl⟩ | rfl
                    · obtain ⟨us, k1, k2⟩ := k
                      exact ⟨us, k1, k2.sub0 s3⟩
                    · obtain ⟨o, xs, h1, h2, h3, h4⟩ := k
                      exact ⟨o, xs, h1, h2, h3, h4.sub0 s3⟩
                    · trivial
                  · subst hj; subst ec; rw [new3]; exact ⟨vs, h1, h2.sub0 s3⟩
                inj := fun j k c d qj qk nd nd' m => by
                  rcases get3 qj with ⟨hj, qj⟩ | ⟨hj, _⟩
                  · rcases get3 qk with ⟨hk, qk⟩ | ⟨hk, _⟩
                    · rw [at3 hj, at3 hk] at m; exact r.inj j k c d qj qk nd nd' m
                    · subst hk; rw [at3 hj, new3] at m; have := r.inj j i c _ qj hη nd id m; omega
                  · rcases get3 qk with ⟨hk, qk⟩ | ⟨hk, _⟩
                    · subst hj; rw [at3 hk, new3] at m; have := r.inj k i d _ qk hη nd' id m.symm; omega
                    · omega
                ngh := fun j c qj nd g => by
                  rcases get3 qj with ⟨hj, qj⟩ | ⟨hj, _⟩
                  · rw [at3 hj] at g; exact r.ngh j c qj nd g
                  · subst hj; rw [new3] at g; exact ngh g
                ghs := r.ghs }
              have e3 : Ext w0 w3 := ⟨by show w0.η.length ≤ (w.η.take w0.η.length ++ [Cell.lst xs]).length; rw [List.length_append, len]; simp, fun j hj => by rw [at3 hj]; exact e.mp j hj, e.keep, fun a o h n l => e.live a o h n (live3 a l), e.gh⟩
              refine h w3 rfl e3 r3 _ (.inr (.inl ⟨(w.η.take w0.η.length).length, rfl, ?_, ?_⟩))
              · show (w.η.take w0.η.length).length < (w.η.take w0.η.length ++ [Cell.lst xs]).length; simp
              · rw [len, new3]
          · exact h w rfl e r _ q
      | exc g xs => exact absurd rfl (no_exc hc q g xs)
      | _ => exact pure rfl h
    · exact h w rfl e r v q
end
end Ip
namespace Ip
open PySem PySem.Spec PyProof.Rows L2
/-- a def's text, by data -/
structure Fd where
  qual : Str
  params : Arguments
  body : List Stmt
  scope : Scope
  N : List Str
  ps : List Str
def csOf (d : Fd) : Cs := ⟨d.N, d.scope, true, List.range d.N.length, true⟩
def plainNames (l : List Str) : Bool := l.all fun x => !(x == ("__debug__" : Str)) && !(x == ("__classdict__" : Str))
/-- the function's code is such that it cannot be run -/
def Fn.neverB (f : Fn) : Bool := match f.body with
  | .cons .never _ => true
  | _ => false
/-- what is known of the text around -/
structure Pg (prog : Program) (wo : World) (K : PySem.W.Frag) (mg : Str → Option Value) (base : Heap) (G : Gx) (P : List Fn) (glo : List Ip.D) (tb : Tb) (eb : Nat → Ty → Bool) (pso : Nat → List Str) : Prop where
  hK : K = G.K
  hH : ∀ k, G.hs k = k.hash wo
  psG : ∀ g, G.pso g = pso g
  fps : ∀ (g : Nat) (ps : List Str), tb.fps[g]? = some ps → G.pso g = ps
  cur : NoCur G
  kp : ∀ g, PySem.W.keepIn K (.ref (G.fa g)) = true
  glo : ∀ (k : Nat) (x : Str), tb.gnm[k]? = some x → (x == ("__debug__" : Str)) = false ∧ ∃ (d : Ip.D) (v : V) (u : Value), glo[k]? = some d ∧ mg x = some u ∧ RelV v u ∧ ∀ w, RP G w d v
  fnm : ∀ (g : Nat) (x : Str), tb.fnm[g]? = some (some x) → (x == ("__debug__" : Str)) = false ∧ mg x = some (.ref (G.fa g)) ∧ ∃ f, P[g]? = some f ∧ f.neverB = false
  blt : ∀ x ∈ bltAll, mg x = none
  fnI : ∀ f f', G.fnm f = G.fnm f' → f = f'
  ats : ∀ (f : Nat) (nm : Str), tb.ats[f]? = some nm → G.fnm f = nm
  own : ∀ (c : Nat), ownB tb c = true → Cls K (G.ca c) ∧ ∀ (f : Nat) (nm : Str), tb.ats[f]? = some nm → NoAttr K (G.ca c) nm
  omk : ∀ (c g : Nat) (x : Str), inT tb.oin c g x = true → (x == ("__debug__" : Str)) = false ∧ mg x = some (.ref (G.ca c)) ∧ Mk K (G.ca c) (G.fa g) ∧ ∃ f, P[g]? = some f ∧ f.neverB = false
  omt : ∀ (c g : Nat) (m : Str), inT tb.omt c g m = true → Cls K (G.ca c) ∧ Meth K (G.ca c) m (G.fa g) ∧ (∀ f, G.fnm f ≠ m) ∧ ∃ f, P[g]? = some f ∧ f.neverB = false
  gcd : tb.gcdB = true → mg "gcd" = some (.builtin "math.gcd")
  defs : ∀ (g : Nat) (f : Fn), P[g]? = some f → f.neverB = true ∨ ∃ (x : Str) (d : Fd) (fd : FuncData), FunD K x d.qual d.params d.body d.scope [] [] (G.fa g) fd ∧ FnScope d.N d.ps d.scope ∧ Binds K fd d.ps [] ∧ KwB fd d.ps ∧
    d.ps = pso g ∧ d.ps.length = f.np ∧ d.N.length = f.ns ∧ f.np ≤ f.ns ∧ plainNames d.N = true ∧ ckSs tb (csOf d) f.body d.body = true
  mkr0 : ∀ (X : L2.Cx) (C : Ip.Cx) (W : L2.WX) (g : Nat) (x : Str) (p pos : Pos), X.prog = prog → X.w = wo → X.K = K → X.mg = mg → X.base = base → X.ex = [] → tb.cnm[g]? = some (some x) → Gl X x → PMk X (.Call (.Name x p) [] [] pos) (tMk C G W g .nil)
  mkr1 : ∀ (X : L2.Cx) (C : Ip.Cx) (W : L2.WX) (g : Nat) (x : Str) (a : E) (a' : Expr) (p pos : Pos) (k : Nat), X.prog = prog → X.w = wo → X.K = K → X.mg = mg → X.base = base → X.ex = [] → Room k X.A → tb.cn1[g]? = some (some x) → Gl X x → notStar a' = true → PE X a' (tE C G W a) → PMk X (.Call (.Name x p) [a'] [] pos) (tMk C G W g (.cons a .nil))
  exn : ∀ (g : Nat) (x : Str), tb.cxm[g]? = some (some x) → (x == ("__debug__" : Str)) = false ∧ mg x = some (.ref (G.ca g)) ∧ ∀ g', eb g' .other = true → PySem.W.exmOne K (.ref (G.ca g')) (.ref (G.ca g)) = some (Nat.beq g g')
  exc : ∀ g, eb g .other = true → ExcC K (G.ca g) ∧ (∀ t n, tyNE t = some n → PySem.W.kitOne K (.ref (G.ca g)) (.type n) = some (eb g t)) ∧ G.xf g = tb.xfn ∧ PySem.W.findIn K (.ref (G.ca g)) tb.xfn = some none
  caI : ∀ g g', eb g .other = true → G.ca g' = G.ca g → g' = g
/-- the promise of g where n calls are left -/
def spN (G : Gx) (P : List Fn) (glo : List Ip.D) (eb : Nat → Ty → Bool) (Wn : Nat) (n g : Nat) : Sp := fun vs H Q E => ∃ w ds, w.H = H ∧ Rel G w ∧ RVs G w ds vs ∧ Out G w E (PE1 G Q) (callN P glo eb Wn n g ds w.η)
section
variable {prog : Program} {wo : World} {K : PySem.W.Frag} {mg : Str → Option Value} {base : Heap} {G : Gx} {P : List Fn} {glo : List Ip.D} {tb : Tb} {eb : Nat → Ty → Bool} {Wn : Nat} {pso : Nat → List Str}
theorem never_bad {n g : Nat} {f : Fn} (hf : P[g]? = some f) (h : f.neverB = true) : ∀ xs η, callN P glo eb Wn n g xs η = .bad := fun xs η => by
  cases n with
  | zero => rfl
  | succ n =>
    simp only [callN, hf]
    cases Nat.beq xs.length f.np with
    | false => rfl
    | true =>
      have : evSs ⟨callN P glo eb Wn n, glo, eb, Wn⟩ f.body (Ip.start f xs) η = .bad := by
        unfold Fn.neverB at h
        split at h
        · rename_i r e
          rw [e]
          simp only [evSs, evS, R.bind]
        · cases h
      simp only [this, callEnd]
theorem none_bad {n g : Nat} (hf : P[g]? = none) : ∀ xs η, callN P glo eb Wn n g xs η = .bad := fun xs η => by
  cases n with
  | zero => rfl
  | succ n => simp only [callN, hf]
theorem env_start {w : Wd} {ds : List Ip.D} {vs : List V} {f : Fn} {N : List Str} (q : RVs G w ds vs) (h1 : ds.length = f.np) (h2 : N.length = f.ns) (h3 : f.np ≤ f.ns) : EnvR G w (Ip.start f ds) (L2.start N vs) := by
  unfold Ip.start L2.start
  have len := q.length
  refine ⟨by simp only [List.length_append, List.length_map, List.length_replicate]; omega, fun i d e => ?_⟩
  have get : ∀ {ds : List Ip.D} {vs : List V}, RVs G w ds vs → ∀ {i : Nat} {d : Ip.D}, ds[i]? = some d → ∃ v, vs[i]? = some v ∧ RV G w d v := by
    intro ds
    induction ds with
    | nil => intro vs q i d e; simp at e
    | cons a r ih =>
      intro vs q i d e
      cases vs with
      | nil => exact q.elim
      | cons v us =>
        cases i with
        | zero => simp at e; subst e; exact ⟨v, rfl, q.1⟩
        | succ i => exact ih q.2 (by simpa using e)
  by_cases lt : i < ds.length
  · rw [List.getElem?_append_left (by rw [List.length_map]; exact lt), List.getElem?_map] at e
    cases ed : ds[i]? with
    | none => rw [ed] at e; cases e
    | some d' =>
      rw [ed] at e
      cases e
      obtain ⟨v, hv, rv⟩ := get q ed
      exact ⟨v, by rw [List.getElem?_append_left (by rw [List.length_map]; omega), List.getElem?_map, hv]; rfl, rv⟩
  · rw [List.getElem?_append_right (by rw [List.length_map]; omega), List.getElem?_replicate] at e
    split at e <;> cases e
theorem fun_dat {x qual : Str} {params : Arguments} {body : List Stmt} {scope : Scope} {dvs : List V} {kws : List (Str × V)} {f : Addr} {fd : FuncData} (F : FunD K x qual params body scope dvs kws f fd) : (K.lookup f).map (·.data) = some (.func fd) := by
  obtain ⟨oc, od, dV, kV, doc, pm, an, cdv, ct, osl, e, lk, _⟩ := F.ex
  rw [lk]; rfl
/-- each def keeps its promise, by the number of calls that are left -/
theorem fn_level (T : Pg prog wo K mg base G P glo tb eb pso) : ∀ (n g : Nat) (f : Fn), P[g]? = some f → f.neverB = false → ∃ fd, FnOk prog wo K mg base (L2.CX prog wo) (2 * n) (G.fa g) fd (pso g) (spN G P glo eb Wn n g) ∧ Binds K fd (pso g) [] ∧ KwB fd (pso g) ∧ (K.lookup (G.fa g)).map (·.data) = some (.func fd)
  | 0, g, f, hf, hn => by
    rcases T.defs g f hf with h | ⟨x, d, fd, F, S, B, Kb, e0, e1, e2, e3, pl, ck⟩
    · rw [h] at hn; cases hn
    · rw [← e0]; refine ⟨fd, ⟨fun vs H Q E h => ?_, fun A outer s H args us vs Q E hr e0 hb r h => ?_⟩, B, Kb, fun_dat F⟩
      · obtain ⟨w, ds, _, _, _, h⟩ := h; exact h.elim
      · obtain ⟨w, ds, _, _, _, h⟩ := h; exact h.elim
  | n + 1, g, f, hf, hn => by
    rcases T.defs g f hf with h | ⟨x, d, fd, F, S, B, Kb, e0, e1, e2, e3, pl, ck⟩
    · rw [h] at hn; cases hn
    · have unfoldC : ∀ ds η, callN P glo eb Wn (n + 1) g ds η = (match Nat.beq ds.length f.np with
        | true => callEnd f.rc η (evSs ⟨callN P glo eb Wn n, glo, eb, Wn⟩ f.body (Ip.start f ds) η)
        | false => .bad) := fun ds η => by
        simp only [callN, hf] <;> (cases Nat.beq ds.length f.np <;> rfl)
      have arity : ∀ {w : Wd} {ds : List Ip.D} {vs : List V} {E : XK} {Q : VK}, RVs G w ds vs → Out G w E (PE1 G Q) (callN P glo eb Wn (n + 1) g ds w.η) → ds.length = f.np := fun {w ds vs E Q} q h => by
        rw [unfoldC] at h
        cases k : Nat.beq ds.length f.np with
        | true => exact Nat.eq_of_beq_eq_true k
        | false => rw [k] at h; exact h.elim
      rw [← e0]; refine ⟨fd, F.ok S (fun vs H Q E h => ?_) (fun cdv A outer s H vs Q E hr h => ?_), B, Kb, fun_dat F⟩
      · obtain ⟨w, ds, _, _, q, h⟩ := h
        rw [← q.length, arity q h, e1]
      · let C : Ip.Cx := ⟨callN P glo eb Wn n, glo, eb, Wn⟩
        let X := cxOf (L2.CX prog wo) prog wo K mg base d.N d.qual d.scope (G.fa g) cdv A outer s H E
        let W : L2.WX := fun c dd _ H => E c dd H
        have df : ∀ g' f', P[g']? = some f' → f'.neverB = false → DefOk X C G g' := fun g' f' h1 h2 => by
          obtain ⟨fd', F', B', Kb', _⟩ := fn_level T n g' f' h1 h2
          exact ⟨⟨2 * n, fd', _, F', hr, B', (T.psG g').symm, Kb'⟩, T.kp g'⟩
        have SE : SemE X C G tb (csOf d) W := {
          hN := rfl
          nd := S.nd
          pl := fun x hx => by
            have := List.all_eq_true.mp pl x hx
            rw [Bool.and_eq_true, Bool.not_eq_true', Bool.not_eq_true'] at this
            exact this
          vis := fun x h => visC_ok h
          gl := fun x h => glbC_ok h
          loc := fun x h => ⟨locC_ok h, .inl rfl⟩
          lcl := fun x h => lclC_ok h
          cf := fun x h => h
          calm := fun _ => rfl
          hK := T.hK
          hH := T.hH
          hu := hr.units
          cur := fun _ => T.cur
          xc := fun h => nomatch (show true = false from h)
          glo := T.glo
          fns := fun _ g' x h => let ⟨a, b, f', h1, h2⟩ := T.fnm g' x h; ⟨a, b, df g' f' h1 h2⟩
          fnv := fun _ g' => ⟨T.kp g', by
            cases e : P[g']? with
            | none => exact .inr (none_bad e)
            | some f' =>
              cases e2 : f'.neverB with
              | true => exact .inr (never_bad e e2)
              | false => exact .inl (df g' f' e e2)⟩
          blt := T.blt
          fnI := T.fnI
          ats := T.ats
          own := T.own
          omk := fun _ c g' x h => let ⟨a, b, d, f', h1, h2⟩ := T.omk c g' x h; ⟨a, b, d, df g' f' h1 h2⟩
          omt := fun _ c g' m h => let ⟨a, b, d, f', h1, h2⟩ := T.omt c g' m h; ⟨a, b, d, df g' f' h1 h2⟩
          gcd := T.gcd
          fps := T.fps
          tk := takes_of rfl rfl rfl rfl }
        have SS : SemS X C G tb (csOf d) W := {
          e := SE
          hp := fun _ => passes_of rfl
          wf := fun _ _ _ _ _ _ h => h
          hs := rfl
          hf := rfl
          exn := fun g' x h hg => let ⟨a, b, c⟩ := T.exn g' x h; ⟨⟨hg, a, .inl b⟩, c⟩
          exc := T.exc
          caI := T.caI
          kind := S.kind
          blk := by
            show (if d.scope.kind.isAnnotationScope then ScopeKind.function else d.scope.kind) = .function
            rw [S.kind]; rfl
          mkr0 := fun _ _ g' x p pos h1 h2 => T.mkr0 X C W g' x p pos rfl rfl rfl rfl rfl rfl h1 h2
          mkr1 := fun _ _ g' x a a' p pos h1 h2 h3 h4 => T.mkr1 X C W g' x a a' p pos (2 * n + 1) rfl rfl rfl rfl rfl rfl hr h1 h2 h3 h4 }
        refine ⟨tSs C G W (csOf d).A f.body, sSs f.body d.body X C G tb (csOf d) W SS ck, ?_⟩
        obtain ⟨w, ds, hw, rel, q, h⟩ := h
        subst hw
        have ar := arity q h
        rw [unfoldC, show Nat.beq ds.length f.np = true by rw [beqN]; exact decide_eq_true ar] at h
        simp only at h
        refine ⟨Ip.start f ds, w, rfl, rel, env_start q ar e2 e3, ?_⟩
        show Out G w _ _ (evSs C f.body (Ip.start f ds) w.η)
        cases hr' : evSs C f.body (Ip.start f ds) w.η with
        | bad => simp only [C] at hr'; rw [hr'] at h; exact h.elim
        | ex x η' =>
          simp only [C] at hr'
          rw [hr'] at h
          intro w' c dd hη e' r' k
          simp only [callEnd] at h
          split at h
          · rename_i pc
            rw [← hη] at pc
            obtain ⟨g0, xs, rfl, kk⟩ := k
            exact h (w'.cut w.η.length) c dd (by rw [← hη]; rfl) (cut_ext e') (cut_rel r' pc) ⟨g0, xs, rfl, kk.sub0 cut_sub0⟩
          · exact h w' c dd hη e' r' k
        | ok fl η' =>
          simp only [C] at hr'
          rw [hr'] at h
          intro w' hη e' r'
          rw [← hη] at h
          cases fl with
          | rt dd => exact fun v qv => fin_ok T.cur e' r' qv h
          | nx env => exact fun σ1 _ _ => fin_ok (rc := f.rc) (W := E) (d := .non) T.cur e' r' (v := V.non) (.inl .non) h
          | bk env => exact h.elim
          | ct env => exact h.elim
end
end Ip
/-! X(e), X an own error whose __init__ says super().__init__(v); self.f = v -/
namespace Ip
open PySem PySem.Spec PySem.Calls PyProof.Rows L2

/-- what is known of such a class -/
structure IniK (prog : Program) (K : PySem.W.Frag) (C fI : Addr) (B newId initId : String) (bmB : List Value) (f pS pV : Str) (bd : List Stmt) (fd : FuncData) : Prop where
  FB : ExcBaseFacts B newId initId bmB
  SF : StoreFacts B bmB "object.__setattr__" "object"
  KF : PySem.W.KxsFacts B initId
  q : PySem.W.excInitIn K C bmB newId = true
  ov : PySem.W.excOver K C bmB = true
  hi : PySem.W.findIn K (.ref C) "__init__" = some (some (.ref fI))
  tI : PySem.W.typeIn K (.ref fI) = some (.type "function")
  kC : PySem.W.keepIn K (.ref C) = true
  exC : PySem.W.subIn K (.ref C) (.type "BaseException") = some true
  tyC : PySem.W.typeIn K (.ref C) = some (.type "type")
  sa : PySem.W.findIn K (.ref C) "__setattr__" = some (some (.builtin "object.__setattr__"))
  tk : PySem.W.takerIn K C f = some none
  hd : PySem.W.hasDictIn K C = true
  sup : PySem.W.ks_superIn K C C "__init__" = some (some (.builtin initId))
  sub : PySem.W.subIn K (.ref C) (.type B) = some true
  mro : PySem.W.mroIn K C (.ref C) = some true
  opq : PySem.W.nsIn K cStatics "thirdparty.any" = some none
  top : (prog.main.scope.names.lookup ("super" : Str)).isSome = false
  fn : ∃ (oc : Value) (od : Option Addr) (osl : Array (Option Value)) (cc cda : Addr) (ccl : Value) (cdd : Option Addr) (vs : Array Value) (ccs : Array (Option Value)) (file : Str) (tf : Tok) (cl : Value) (cld : Option Addr) (csl : Array (Option Value)) (ar : Arg),
    K.lookup fI = some ⟨oc, od, .func fd, osl⟩ ∧ PySem.W.codeIn K fd.code fd.qualname = true ∧ fd.code = .ref cda ∧ K.lookup cda = some ⟨ccl, cdd, .fields vs, ccs⟩ ∧ vs[2]? = some (.str file tf) ∧ ((prog.main.file : Str) == file) = true ∧
    K.lookup cc = some ⟨cl, cld, .cell (some (.ref C)), csl⟩ ∧ fd.closure = [(("__class__" : Str), cc)] ∧ (fd.params.posonlyargs ++ fd.params.args).head? = some ar ∧ ar.arg = pS
  body : fd.body = .stmts bd
  glob : fd.globals = mainGlobals
  blt : fd.builtins = builtinsNs
  kind : fd.scope.kind = .function
  co : fd.scope.isCoroutine = false
  gen : fd.scope.isGenerator = false
  nc : ∀ x ∈ fd.scope.names, x.2 ≠ .cell
  sS : fd.scope.names.lookup ("super" : Str) = some .globalImplicit
  sC : fd.scope.names.lookup ("__class__" : Str) = some .free
  sP : fd.scope.names.lookup pS = some .local
  sV : fd.scope.names.lookup pV = some .local
  dP : (pS == ("__debug__" : Str)) = false
  dV : (pV == ("__debug__" : Str)) = false
  ne : (pS == pV) = false
  bnd : Binds K fd [pS, pV] []
/-- the body's form -/
def IniB (f pS pV : Str) (bd : List Stmt) : Prop := ∃ p0 p1 p2 p3 p4 p5 p6 p7 p8 p9 : Pos, (p2.endLine == p4.line) = true ∧ bd = [.Expr (.Call (.Attribute (.Call (.Name "super" p0) [] [] p1) "__init__" p2) [.Name pV p3] [] p4) p5, .Assign [.Attribute (.Name pS p6) f p7] (.Name pV p8) p9]

section
open PySem.W Builtin Builtin.ObjectAttr
variable {prog : Program} {w : World} {A : Around} {E : Value → Shared → Prop} {R : Result → Shared → Prop} {hp : Heap} {g : Array GenState} {d : Drawn} {t : Nat} {os : OsState}
/-- self.f = v on an error without a dict -/
theorem osa_newB {K : PySem.W.Frag} {B : String} {bmB : List Value} {name : Str} {tk : Tok} {v : Value} {x C : Addr} {fv : Array Value}
    (SF : StoreFacts B bmB "object.__setattr__" "object") (X : K.In hp) (hx : hp.get? x = some { cls := .ref C, data := .fields fv }) (ov : excOver K C bmB = true) (ht : takerIn K C name = some none) (hh : hasDictIn K C = true)
    (hq : ∀ h' tk' dx, (∀ b o, b ≠ x → hp.get? b = some o → h'.get? b = some o) → hp.objs.size ≤ dx → dx ≠ x → h'.get? x = some { cls := .ref C, dict := some dx, data := .fields fv } →
      h'.Ns1 dx (fun y => if y = name then some v else none) → R (.ok (.ret .none)) ⟨h', g, d, tk', os⟩) :
    codeAny (model prog w) A (.call (.builtin "object.__setattr__") ⟨[.ref x, .str name tk, v], []⟩) R ⟨hp, g, d, t, os⟩ := by
  have hxs : x ≠ hp.objs.size := Nat.ne_of_lt (Heap.lt_size hx)
  refine osa_openX (od := none) SF X ⟨hx, rfl, rfl, trivial⟩ ov ht fun b => ?_
  obtain ⟨cd, hcd, hh⟩ := any_some hh
  have hcls : Looks (model prog w) hp (classData C) cd := looks_clsIn X hcd
  obtain ⟨nm, bs, mro, ns, qn, hd, sn, sb, ab, col, del⟩ := cd
  dsimp only at hh
  subst hh
  show wpAny _ _ (storeInOwnDict (.ref x) (.ref C) (.str name tk) name v b) _ _ _
  unfold storeInOwnDict ownDictForStores
  repeat (first | with_reducible refine HandSPX.store_in_new ?_ ?_ | with_reducible refine wpAny_loadPart_at hx ?_ | with_reducible refine hcls.at ?_ | wp_step)
  · exact ⟨_, #[], _, (Heap.get?_update_ne _ _ _ _ hxs.symm).trans (Heap.get?_push_at rfl rfl), rfl, fun e he => absurd he (by simp), fun _ => rfl⟩
  · intro h' tk' hn' hs
    have hx₁ : (hp.push { cls := .type "dict", data := .dict #[] }).get? x = some { cls := .ref C, data := .fields fv } := Heap.get?_push_of_some _ hx
    refine hq h' tk' hp.objs.size (fun b o hb ho => ?_) (Nat.le_refl _) hxs.symm ?_ hn'
    · exact (hs.2 b (Nat.ne_of_lt (Heap.lt_size ho))).trans ((Heap.get?_update_ne _ _ _ _ hb).trans (Heap.get?_push_of_some _ ho))
    · exact (hs.2 x hxs).trans (Heap.get?_update_self _ hx₁ rfl)
end
section
open PySem.W
variable {prog : Program} {w : World} {A : Around} {s : Shared} {K : PySem.W.Frag} {mg : Str → Option Value} {base h₀ : Heap} {C fI e t0 : Addr} {B newId initId : String} {bmB : List Value} {f pS pV : Str} {bd : List Stmt} {fd : FuncData} {u : Value} {R : Result → Shared → Prop}
/-- __init__ runs -/
theorem ini_run (T : IniK prog K C fI B newId initId bmB f pS pV bd fd) (TB : IniB f pS pV bd) (M : Mod K mg base) (sg : mg "super" = none) (bk : ∀ b o, base.get? b = some o → h₀.get? b = some o) (hroom : A.depth < recursionLimit)
    (k0 : ∀ b o, h₀.get? b = some o → s.heap.get? b = some o) (hsz : h₀.objs.size ≤ s.heap.objs.size) (he : s.heap.get? e = some (excObj C t0 none .none)) (ht : s.heap.get? t0 = some (excTup [u])) (ne : e ≠ t0) (e0 : h₀.get? e = none) (te0 : h₀.get? t0 = none)
    (h : ∀ h' tk dx t1, (∀ b o, h₀.get? b = some o → h'.get? b = some o) → h'.get? e = some (excObj C t1 (some dx) .none) → h₀.get? dx = none → dx ≠ e → h'.Ns1 dx (fun y => if y = f then some u else none) → R (.ok (.ret .none)) { s with heap := h', toks := tk }) :
    codeAny (model prog w) A (.call (.ref fI) ⟨[.ref e, u], []⟩) R s := by
  obtain ⟨oc, od, osl, cc, cda, ccl, cdd, vs, ccs, file, tf, cl, cld, csl, ar, lk, hcd, ec, lkc, hvs, hfile, lcc, hclo, hpar, har⟩ := T.fn
  obtain ⟨p0, p1, p2, p3, p4, p5, p6, p7, p8, p9, hline, rfl⟩ := TB
  have X0 : K.In h₀ := M.kin.keeps bk
  have X : K.In s.heap := X0.keeps k0
  have fresh : ∀ {b : Addr} {o : Obj}, s.heap.get? b = some o → b ≠ s.heap.objs.size := fun z => Nat.ne_of_lt (Heap.lt_size z)
  refine ks_codeAny_call_defAt (fd := fd) (binds := [(pS, .ref e), (pV, u)]) hroom (X _ _ lk) rfl (M.nolimit.keeps fun b o z => k0 _ _ (bk _ _ z)) (codeRec_of X hcd) T.body (T.bnd s [.ref e, u] X rfl) T.nc
    (fun y hy => ?_) (fun h₁ hns hk₁ => ?_) T.co T.gen T.kind
  · simp only [List.mem_cons, List.not_mem_nil, or_false] at hy
    rcases hy with rfl | rfl
    · exact T.sP
    · exact T.sV
  have Fr1 : Fr h₀ s.heap.objs.size h₁ (fun x => [(pS, Value.ref e), (pV, u)].reverse.lookup x) := ⟨hns, fun b o z => hk₁ b o (k0 b o z), hsz⟩
  have N1 : News h₀ s.heap.objs.size h₁ [(e, excObj C t0 none .none)] := fun p hp => by
    simp only [List.mem_cons, List.not_mem_nil, or_false] at hp
    subst hp
    exact ⟨hk₁ _ _ he, fresh he, e0⟩
  have mV : (fun x => [(pS, Value.ref e), (pV, u)].reverse.lookup x) pV = some u := by
    show List.lookup pV [(pV, u), (pS, Value.ref e)] = some u
    rw [List.lookup_cons]; simp
  have mS : (fun x => [(pS, Value.ref e), (pV, u)].reverse.lookup x) pS = some (Value.ref e) := by
    show List.lookup pS [(pV, u), (pS, Value.ref e)] = some (.ref e)
    rw [List.lookup_cons, T.ne]; simp
  have hks : (callEnv fd s.heap.objs.size fI).kindOf "super" = some .globalImplicit := T.sS
  have hkc : (callEnv fd s.heap.objs.size fI).kindOf "__class__" = some .free := T.sC
  have hk : (callEnv fd s.heap.objs.size fI).scope.kind = .function := T.kind
  have hcells : (callEnv fd s.heap.objs.size fI).cells = [(("__class__" : Str), cc)] := hclo
  obtain ⟨mb, hb1, hb2⟩ := M.blt
  refine ks_wpAt_execs_cons (ks_wpAt_Expr_any ?_ ?_ rfl)
  · refine ks_wpAt_MethodCall (pl := plainOf (.Call (.Name "super" p0) [] [] p1) (callEnv fd s.heap.objs.size fI)) (ks_wpAt_super_base (env := callEnv fd s.heap.objs.size fI) hks hkc (by decide) rfl (hk₁ _ _ (X _ _ lk)) rfl hpar ec (hk₁ _ _ (X _ _ lkc)) rfl hvs hfile T.top ?_) ?he
    case he =>
      show (attributeBase _ _ _ _ >>= fun ov => (standAt p2.atName >>= fun _ => methodCall _ _ p2 p4 _ ov _ _ _)) = _
      refine congrArg (Bind.bind _) (funext fun ov => congrArg (Bind.bind _) (funext fun _ => ?_))
      exact mcall_line rfl hline
    have keep1 : ∀ b o, base.get? b = some o → h₁.get? b = some o := fun b o z => hk₁ _ _ (k0 _ _ (bk _ _ z))
    refine ks_loadName_global hk hks (loadGlobal_builtin (env := callEnv fd s.heap.objs.size fI) (by show h₁.Ns fd.globals mg; rw [T.glob]; exact M.glob.keeps keep1) sg (by show h₁.Ns fd.builtins mb; rw [T.blt]; exact hb1.keeps keep1) ((hb2 _ (by decide)).trans (by decide +kernel : bootBuiltins "super" = some (.type "super"))) ⟨rfl, ?_⟩)
    refine wpAny_loadName_free hk hkc (c := cc) (by rw [hcells]; rfl) ⟨_, hk₁ _ _ (X _ _ lcc), rfl⟩ ?_
    rw [har]
    refine wpAny_loadName_local hk T.sP hns mS ?_
    obtain ⟨cd, hcd', _⟩ := any_some T.hd
    have hD : ∃ oD, h₁.get? C = some oD ∧ oD.data = .cls cd := by
      unfold clsIn at hcd'
      split at hcd'
      · rename_i ho
        cases hcd'
        exact ⟨_, hk₁ _ _ (X _ _ ho), rfl⟩
      · cases hcd'
    obtain ⟨oD, hD1, hD2⟩ := hD
    refine ks_wpAny_isType_cls hD1 hD2 ⟨rfl, ?_⟩
    refine ks_wpAny_call_super hD1 hD2 (hk₁ _ _ he) rfl (fun c z => nomatch z) (looks_mroIn (X.keeps hk₁) T.mro) (fun h2 hso k2 => ?_)
    obtain ⟨F2, N2, l2⟩ := ks_newsPush (s := ⟨h₁, s.gens, s.drawn, s.toks + 2, s.os⟩) Fr1 N1 rfl hso k2
    refine kxs_method T.KF F2 X0 N2 List.mem_cons_self (InstAt.of_exc0 N2 (List.mem_cons_of_mem _ List.mem_cons_self)) T.opq T.sup T.sub (by decide) fun q h3 F3 N3 l3 => ?_
    refine kxs_callWith1 N3 List.mem_cons_self ?_ rfl rfl
    refine spliced_cons (ldc T.kind T.sV F3.ns mV (spliced_nil ⟨kxs_at N3 List.mem_cons_self, ?_⟩) T.dV)
    have le : ∀ p ∈ [(e, excObj C t0 none .none)], p.1 < h₁.objs.size := l2
    have q1 : h₁.objs.size ≠ e := Nat.ne_of_gt (le _ List.mem_cons_self)
    have q2 : q ≠ e := Nat.ne_of_gt (l3 _ (List.mem_cons_of_mem _ List.mem_cons_self))
    refine kxs_call (x := e) (C := C) (t := t0) (dv := none) (c2 := .none) F3 X0 N3 T.FB T.q List.mem_cons_self (.tail q2 (.tail q1 (.head (fun p hp => nomatch hp)))) (by show 1 ≤ sizeLine; rw [sizeLine_eq]; omega) fun t1 h4 F4 N4 l4 => ?_
    show _root_.PySem.wpAt _ _ _ (execs [Stmt.Assign [(Expr.Name pS p6).Attribute f p7] (Expr.Name pV p8) p9] (callEnv fd s.heap.objs.size fI)) _ _ _
    refine ks_wpAt_execs_cons (wpAt_of_wpAny (plainObj_wpAny_Assign_Attribute (ldc T.kind T.sV F4.ns mV (ldc T.kind T.sP F4.ns mS ?_ T.dP) T.dV) rfl))
    have X4 : K.In h4 := X0.keeps F4.keep
    have e4 : h4.get? e = some (excObj C t1 none .none) := (N4 (e, excObj C t1 none .none) (by simp)).1
    refine set_plain X4 (ox := excObj C t1 none .none) (od := none) ⟨e4, rfl, rfl, trivial⟩ T.sa ?_
    refine osa_newB T.SF X4 e4 T.ov T.tk T.hd fun h5 tk5 dx k5 big ne5 e5 n5 => ?_
    refine wpAt_of_wpAny (wpAny_execs_nil ?_)
    have nb : ∀ {b : Addr} {o : Obj}, h₀.get? b = some o → b ≠ e := fun {b o} z q => by rw [q, e0] at z; cases z
    refine h h5 tk5 dx t1 (fun b o z => k5 b o (nb z) (F4.keep b o z)) e5 ?_ ne5 n5
    cases z : h₀.get? dx with
    | none => rfl
    | some o => exact absurd (Nat.lt_of_lt_of_le (Heap.lt_size (F4.keep _ _ z)) big) (Nat.lt_irrefl _)
  · show (fd.scope.kind == .module && _) = false
    rw [T.kind]; rfl
end
section
variable {X : L2.Cx} {C : Ip.Cx} {G : Gx} {W : L2.WX} {g : Nat} {fI : Addr} {B newId initId : String} {bmB : List Value} {f pS pV : Str} {bd : List Stmt} {fd : FuncData} {x : Str} {a : E} {a' : Expr} {p pos : Pos} {k : Nat}
/-- X(e) -/
theorem mk_super (T : IniK X.prog X.K (G.ca g) fI B newId initId bmB f pS pV bd fd) (TB : IniB f pS pV bd) (sg : X.mg "super" = none) (hf : G.xf g = f) (gC : X.mg x = some (.ref (G.ca g))) (hg : Gl X x) (hdb : (x == ("__debug__" : Str)) = false) (hr : Room k X.A)
    (hs : notStar a' = true) (ha : PE X a' (tE C G W a)) : PMk X (.Call (.Name x p) [a'] [] pos) (tMk C G W g (.cons a .nil)) := by
  intro pins s σ H Q I ⟨env, w, hw, rel, er, h⟩
  subst hw
  have ns : noStars [a'] = true := by show (notStar a' && true) = true; rw [hs]; rfl
  have args := pa_cons ha pa_nil (star_head ns)
  refine wpAny_Call_Name_kw (ld_glob I hg gC ?_ hdb)
  unfold evEs at h
  have rd : tCons (tE C G W a) tNil σ w.H (fun vs H1 => ∃ w1 v d, vs = [v] ∧ w1.H = H1 ∧ Rel G w1 ∧ RV G w1 d v ∧ Out G w1 (Wat W σ) (fun w2 ds => noneLoc ds = true ∧ ∀ w3 cls dd, w3.η = w2.η → Ext w2 w3 → Rel G w3 → ExcK G w3 g ds cls dd → Q cls dd w3.H) ((evEs C .nil env w1.η).bind fun xs η => .ok (d :: xs) η)) :=
    ⟨env, w, rfl, rel, er, h.bind.mono fun w1 d e1 r1 h1 v q1 => ⟨w1, v, d, rfl, rfl, r1, q1, h1⟩⟩
  refine PySem.W.callWith_K (h₀ := X.base) I.ok.mod.kin T.kC (thn (args.run pos pins s σ w.H _ I rd) fun us s1 ⟨vs, H1, I1, r1, w1, v, d, ev, hH, rel1, q1, h1⟩ => ⟨I1.kIn, ?_⟩) (star_head ns) (star_tail ns)
  subst ev
  subst hH
  have h1' : Out G w1 (Wat W σ) (fun w2 ds => noneLoc ds = true ∧ ∀ w3 cls dd, w3.η = w2.η → Ext w2 w3 → Rel G w3 → ExcK G w3 g ds cls dd → Q cls dd w3.H) (.ok [d] w1.η) := by simpa only [evEs, R.bind] using h1
  obtain ⟨u, rfl, ru⟩ : ∃ u, us = [u] ∧ RelV v u := by
    cases r1 with
    | cons ra rb => cases rb; exact ⟨_, rfl, ra⟩
  show wpAny _ _ (call (.ref (G.ca g)) [u]) _ _ _
  obtain ⟨nl, fin⟩ := h1' w1 rfl (Ext.refl w1) rel1
  have nl : d.noLoc = true := by simpa only [noneLoc, Bool.and_true] using nl
  have rp := q1.rp nl
  obtain ⟨hp, gs, dr, tk, os⟩ := s1
  obtain ⟨nm, N, qn, bs, bm, hdct, sn, sub, ab, col, dd, k0, k1, k2, k3, k5, hC, hT⟩ := PySem.W.excInit_of I1.kIn T.q
  have one : [u].length ≤ sizeLine := by show 1 ≤ sizeLine; rw [sizeLine_eq]; omega
  refine wpAny_call (PySem.HandSPX.call_own T.FB hT hC (PySem.W.looks_findIn I1.kIn T.hi) (fun self => PySem.W.bind_fn I1.kIn self T.tI) one ?_)
  have kk : ∀ b o, hp.get? b = some o → ((hp.push (PySem.W.kdv_tup [u])).push (PySem.HandSPX.excO (G.ca g) hp.objs.size)).get? b = some o := fun b o e => Heap.get?_push_of_some _ (Heap.get?_push_of_some _ e)
  have he : ((hp.push (PySem.W.kdv_tup [u])).push (PySem.HandSPX.excO (G.ca g) hp.objs.size)).get? (hp.objs.size + 1) = some (PySem.HandSPX.excO (G.ca g) hp.objs.size) := by heap_get
  have ht : ((hp.push (PySem.W.kdv_tup [u])).push (PySem.HandSPX.excO (G.ca g) hp.objs.size)).get? hp.objs.size = some (PySem.W.kdv_tup [u]) := by heap_get
  have none_of : ∀ {b : Addr}, hp.objs.size ≤ b → hp.get? b = none := fun {b} hb => by
    cases z : hp.get? b with
    | none => rfl
    | some o => exact absurd (Nat.lt_of_lt_of_le (Heap.lt_size z) hb) (Nat.lt_irrefl _)
  have e0 : hp.get? (hp.objs.size + 1) = none := none_of (Nat.le_succ _)
  refine ini_run (mg := X.mg) (base := X.base) (h₀ := hp) (t0 := hp.objs.size) (s := ⟨(hp.push (PySem.W.kdv_tup [u])).push (PySem.HandSPX.excO (G.ca g) hp.objs.size), gs, dr, tk, os⟩) T TB I.ok.mod sg I1.bk ?_ kk ?_ he ht (Nat.succ_ne_self _) e0 (none_of (Nat.le_refl _)) fun h' tk' dx t1 kp' ee dn dne hns => ?_
  · show (X.A.under (.builtin "type.__call__" ⟨.ref (G.ca g) :: [u], []⟩)).depth < recursionLimit
    rw [make_depth]
    have := hr.dp
    omega
  · show hp.objs.size ≤ ((hp.push (PySem.W.kdv_tup [u])).push (PySem.HandSPX.excO (G.ca g) hp.objs.size)).objs.size
    rw [Heap.size_push, Heap.size_push]; omega
  · refine ⟨rfl, ?_⟩
    show MkP X pins σ Q (.ref (hp.objs.size + 1)) ⟨h', gs, dr, tk', os⟩
    obtain ⟨Gh, g1, g2⟩ := restrict h' fun b => decide (b ≠ hp.objs.size + 1)
    have gk : ∀ b, b ≠ hp.objs.size + 1 → Gh.get? b = h'.get? b := fun b hb => g1 b (decide_eq_true hb)
    have ge : Gh.get? (hp.objs.size + 1) = none := g2 _ (by simp)
    have nb : ∀ {b : Addr} {o : Obj}, hp.get? b = some o → b ≠ hp.objs.size + 1 := fun {b o} z q => by rw [q, e0] at z; cases z
    have kG : ∀ b o, hp.get? b = some o → Gh.get? b = some o := fun b o z => (gk b (nb z)).trans (kp' b o z)
    have hdx : w1.H dx = none := I1.hok.gone dn
    have hea : w1.H (hp.objs.size + 1) = none := I1.hok.gone e0
    have J : Inv X pins σ (upd w1.H dx (.xd [(f, v)])) ⟨Gh, gs, dr, tk', os⟩ := Inv.laidN (t' := tk') (o := .xd [(f, v)]) (h' := Gh) I1 kG dn hdx ⟨_, hns.at fun o z => (gk dx dne).trans z, fun g' => by
      have q := relO_put (f := f) (y := v) (u := u) (fs := []) (mA := fun _ => none) ru (fun _ => True.intro) g'
      exact q⟩
    have nlive : ¬ w1.Live dx := fun l => by
      obtain ⟨o, z⟩ := rel1.live_some l
      rw [hdx] at z; cases z
    let w2 : Wd := { w1 with H := upd w1.H dx (.xd [(f, v)]) }
    have ex : Ext w1 w2 := ⟨Nat.le_refl _, fun _ _ => rfl, fun b o z _ => (upd_ne (ne_of_none z hdx)).trans z, fun b o z n => n, rfl⟩
    have rel2 : Rel G w2 := {
      cell := fun i c e => by
        have q := rel1.cell i c e
        have av : ∀ {o}, w1.H (w1.mp i) = some o → w2.H (w1.mp i) = some o := fun {o} z => (upd_ne (ne_of_none z hdx)).trans z
        cases c with
        | lst xs => obtain ⟨vs, z, y⟩ := q; exact ⟨vs, av z, y.mono ex⟩
        | dct kvs => obtain ⟨o, xs, z, h2, h3, h4⟩ := q; exact ⟨o, xs, av z, h2, h3, h4.mono ex⟩
        | obj c fs => obtain ⟨dx', vs, z, y⟩ := q; exact ⟨dx', vs, av z, y.mono ex⟩
        | lsl xs j => obtain ⟨vs, z, y, hj⟩ := q; exact ⟨vs, av z, y.mono ex, hj⟩
        | dead => trivial
      inj := rel1.inj
      ngh := rel1.ngh
      ghs := fun b hb => let ⟨o, z⟩ := rel1.ghs b hb; ⟨o, (upd_ne (ne_of_none z hdx)).trans z⟩ }
    refine ⟨hp.objs.size + 1, _, _, ⟨Gh, gs, dr, tk', os⟩, _, .ref (G.ca g), some dx, rfl, J, fun b o z => ?_, ge, ee, ⟨rfl, rfl⟩, rfl, rfl, (upd_ne (Ne.symm dne)).trans hea, rfl, J.bare, raises_own T.exC T.tyC, ?_⟩
    · by_cases hba : b = hp.objs.size + 1
      · rw [hba, ge] at z; cases z
      · exact (gk b hba).symm.trans z
    · exact fin w2 _ _ rfl ex rel2 ⟨rfl, .inr ⟨d, dx, v, rfl, rfl, by rw [hf]; exact upd_same, nlive, rp.mono ex⟩⟩
end
end Ip
namespace Ip
open PySem PySem.Spec PyProof.Rows L2
section
variable {X : L2.Cx} {C : Ip.Cx} {G : Gx} {W : L2.WX} {g : Nat} {bmB : List Value} {B newId initId : String} {x : Str} {p pos : Pos}
/-- X() of an own class without an own __init__ -/
theorem mk_plain (F : ExcBaseFacts B newId initId bmB) (q : PySem.W.excIn X.K (G.ca g) bmB newId = true) (gC : X.mg x = some (.ref (G.ca g))) (kC : PySem.W.keepIn X.K (.ref (G.ca g)) = true) (r : Raises X (.ref (G.ca g))) (hg : Gl X x) (hdb : (x == ("__debug__" : Str)) = false) :
    PMk X (.Call (.Name x p) [] [] pos) (tMk C G W g .nil) := by
  intro pins s σ H Q I ⟨env, w, hw, rel, er, h⟩
  subst hw
  unfold evEs at h
  have fin : Q (.ref (G.ca g)) none w.H := (h w rfl (Ext.refl w) rel).2 w _ _ rfl (Ext.refl w) rel ⟨rfl, .inl ⟨rfl, rfl⟩⟩
  refine wpAny_Call_Name_kw (ld_glob I hg gC ?_ hdb)
  refine PySem.W.callWith_K0 I.kIn kC ?_
  show wpAny _ _ (call (.ref (G.ca g)) []) _ _ _
  obtain ⟨bm, N, nm, qn, bs, hdct, sn, sub, ab, col, dd, k0, k1, k2, k3, k5, mN, hC, hN, hni, T⟩ := exc_obj I.kIn q
  exact wpAny_call_exc_subT F T hC hN hni (fun h' e hm => mk_of I hm r fin (I.hok.gone hm.new)) (Nat.zero_le _)
end
end Ip
/-! the program's top: what the evaluator's proof wants of it, by Bools -/
namespace Ip
open PySem PySem.Spec PyProof.Rows L2
/-! ### arguments bound -/
theorem fm_congr {α β : Type} {f g : α → Option β} : ∀ {l : List α}, (∀ x ∈ l, f x = g x) → l.filterMap f = l.filterMap g
  | [], _ => rfl
  | a :: l, h => by rw [List.filterMap_cons, List.filterMap_cons, h a List.mem_cons_self, fm_congr fun x hx => h x (List.mem_cons_of_mem _ hx)]
theorem zip_lookup : ∀ {ps : List Str} {us : List Value}, us.length = ps.length → ps.Nodup → ps.filterMap (fun n => ((ps.zip us).lookup n).map (fun v => (n, v))) = ps.zip us := by
  intro ps
  induction ps with
  | nil => intro us _ _; rfl
  | cons p ps ih =>
    intro us hl nd
    cases us with
    | nil => cases hl
    | cons u us =>
      have hl' : us.length = ps.length := Nat.succ.inj hl
      obtain ⟨n1, n2⟩ := List.nodup_cons.mp nd
      rw [List.zip_cons_cons, List.filterMap_cons, List.lookup_cons]
      simp only [beq_self_eq_true, Option.map_some]
      congr 1
      refine Eq.trans (fm_congr ?_) (ih hl' n2)
      intro x hx
      rw [List.lookup_cons]
      have : (x == p) = false := by
        rw [beq_eq_false_iff_ne]
        intro e; subst e; exact n1 hx
      rw [this]
theorem zip_some : ∀ {ps : List Str} {us : List Value}, us.length = ps.length → ∀ n ∈ ps, ((ps.zip us).lookup n).isNone = false := by
  intro ps
  induction ps with
  | nil => intro us _ n hn; cases hn
  | cons p ps ih =>
    intro us hl n hn
    cases us with
    | nil => cases hl
    | cons u us =>
      rw [List.zip_cons_cons, List.lookup_cons]
      cases e : (n == p) with
      | true => rfl
      | false =>
        refine ih (Nat.succ.inj hl) n ?_
        rcases List.mem_cons.mp hn with rfl | h
        · simp at e
        · exact h
theorem filter_none {α : Type} {p : α → Bool} : ∀ {l : List α}, (∀ x ∈ l, p x = false) → l.filter p = []
  | [], _ => rfl
  | a :: l, h => by rw [List.filter_cons, h a List.mem_cons_self]; exact filter_none fun x hx => h x (List.mem_cons_of_mem _ hx)
theorem bind_plain {fd : FuncData} {ps : List Str} {us : List Value} (h1 : fd.params.posonlyargs = []) (h2 : fd.params.args.map (·.arg) = ps) (h3 : fd.params.vararg = none) (h4 : fd.params.kwonlyargs = []) (h5 : fd.params.kwarg = none)
    (hd : fd.defaults = .none) (nd : ps.Nodup) (hl : us.length = ps.length) : bindArgs fd ⟨us, []⟩ = pure (ps.zip us) := by
  have m0 : (ps.take ps.length).filter (fun n => ((ps.zip us).lookup n).isNone) = [] := filter_none fun x hx => zip_some hl x (List.mem_of_mem_take hx)
  have m1 := zip_lookup hl nd
  have q : seqItems? Value.none = (pure none : Sem (Option (Array Value))) := rfl
  unfold bindArgs
  simp only [h1, h2, h3, h4, h5, hd, q, List.map_nil, List.nil_append, List.append_nil, List.forIn_nil, pure_bind, hl, gt_iff_lt, Nat.lt_irrefl, decide_false, Bool.false_and, Bool.false_eq_true, if_false, Option.getD_none, List.length_nil, Nat.zero_sub, Nat.sub_zero, List.drop_nil, List.isEmpty_nil, Bool.not_true, List.drop_length, List.zip_nil_right, m0, m1]

/-! ### tables -/
/-- a plain def of the text -/
structure Fx where
  at_ : Str × Option Str
  name : Str
  qual : Str
  params : Arguments
  body : List Stmt
  scope : Scope
  N : List Str
  ps : List Str
def Fx.fd (d : Fx) : Fd := ⟨d.qual, d.params, d.body, d.scope, d.N, d.ps⟩
def Fx.de (d : Fx) : He.DefD := ⟨d.at_, d.name, d.qual, d.params, d.body, d.scope, [], []⟩
/-- an error's class: over LookupError or ValueError; what its __init__ keeps, its parameters -/
structure Ce where
  name : Str
  lk : Bool
  ini : Option (Str × Str × Str)
/-- an own class: its __init__, its methods -/
structure Oc where
  name : Str
  ini : Nat
  ms : List (Str × Nat)
structure Tx where
  fx : List (Option Fx)
  P : List Fn
  gl : List (Str × Ip.D)
  fnm : List (Option Str)
  ce : List (Option Ce)
  xfn : Str
  ats : List Str
  oc : List (Option Oc)
  gcdB : Bool
def ownL : List (Option Oc) → Nat → List Nat
  | [], _ => []
  | none :: r, c => ownL r (c + 1)
  | some _ :: r, c => c :: ownL r (c + 1)
def iniL : List (Option Oc) → Nat → List (Nat × Nat × Str)
  | [], _ => []
  | none :: r, c => iniL r (c + 1)
  | some o :: r, c => (c, o.ini, o.name) :: iniL r (c + 1)
def mthL : List (Option Oc) → Nat → List (Nat × Nat × Str)
  | [], _ => []
  | none :: r, c => mthL r (c + 1)
  | some o :: r, c => o.ms.map (fun q => (c, q.2, q.1)) ++ mthL r (c + 1)
def Tx.tb (T : Tx) : Tb := ⟨T.gl.map (·.1), T.fnm, T.ce.map fun c => c.bind fun c => match c.ini with
  | none => some c.name
  | some _ => none, T.ce.map fun c => c.bind fun c => match c.ini with
  | none => none
  | some _ => some c.name, T.ce.map fun c => c.map (·.name), T.xfn, T.ats, ownL T.oc 0, iniL T.oc 0, mthL T.oc 0, T.gcdB, T.fx.map fun o => match o with
  | some d => d.ps
  | none => []⟩
def Tx.glo (T : Tx) : List Ip.D := T.gl.map (·.2)
def Tx.eb (T : Tx) (g : Nat) (t : Ty) : Bool := match T.ce[g]? with
  | some (some c) => (match t with
    | .vErr => !c.lk
    | .lErr => c.lk
    | .own k => Nat.beq g k
    | .other => true
    | _ => false)
  | _ => false
def Tx.fn (T : Tx) : List He.DefD := T.fx.filterMap fun d => d.map Fx.de
/-! ### the text's own checks -/
def eqNames : List Str → List Str → Bool
  | [], [] => true
  | a :: as, b :: bs => eqStr a b && eqNames as bs
  | _, _ => false
theorem eqNames_ok : ∀ {a b : List Str}, eqNames a b = true → a = b
  | [], [], _ => rfl
  | [], _ :: _, h => by cases h
  | _ :: _, [], h => by cases h
  | a :: as, b :: bs, h => by
    have h' : (eqStr a b && eqNames as bs) = true := h
    rw [Bool.and_eq_true] at h'
    rw [eqStr_ok h'.1, eqNames_ok h'.2]
def memS (x : Str) : List Str → Bool
  | [] => false
  | y :: r => eqStr y x || memS x r
def nodupS : List Str → Bool
  | [] => true
  | x :: r => !memS x r && nodupS r
theorem eqStr_refl (a : Str) : eqStr a a = true := by rw [eqStr, eqL_eq]; simp
theorem memS_ok {x : Str} : ∀ {l : List Str}, memS x l = false → x ∉ l
  | [], _, h => nomatch h
  | y :: r, h, q => by
    have h' : (eqStr y x || memS x r) = false := h
    rw [Bool.or_eq_false_iff] at h'
    rcases List.mem_cons.mp q with rfl | q
    · rw [eqStr_refl] at h'; exact nomatch h'.1
    · exact memS_ok h'.2 q
theorem nodupS_ok : ∀ {l : List Str}, nodupS l = true → l.Nodup
  | [], _ => List.nodup_nil
  | x :: r, h => by
    have h' : (!memS x r && nodupS r) = true := h
    rw [Bool.and_eq_true, Bool.not_eq_true'] at h'
    exact List.nodup_cons.mpr ⟨memS_ok h'.1, nodupS_ok h'.2⟩
def sDbg : Str := sx [95, 95, 100, 101, 98, 117, 103, 95, 95]
def sCdc : Str := sx [95, 95, 99, 108, 97, 115, 115, 100, 105, 99, 116, 95, 95]
theorem sDbg_eq : sDbg = ("__debug__" : Str) := by decide +kernel
theorem sCdc_eq : sCdc = ("__classdict__" : Str) := by decide +kernel
def plainN (x : Str) : Bool := !eqStr x sDbg && !eqStr x sCdc
theorem ne_eqStr {x y : Str} (h : eqStr x y = false) : (x == y) = false := str_ne fun e => by subst e; rw [eqStr_refl] at h; cases h
theorem plainN_ok {l : List Str} (h : (l.all plainN) = true) : plainNames l = true := by
  unfold plainNames
  rw [List.all_eq_true] at h ⊢
  intro x hx
  have := h x hx
  unfold plainN at this
  rw [Bool.and_eq_true, Bool.not_eq_true', Bool.not_eq_true', sDbg_eq, sCdc_eq] at this
  rw [ne_eqStr this.1, ne_eqStr this.2]; rfl
def scB (N ps : List Str) (sc : Scope) : Bool := (match sc.kind with | .function => true | _ => false) && (!sc.isCoroutine && (!sc.isGenerator && (nodupS N && (eqNames (N.take ps.length) ps && ((ps.all fun x => locC sc x) && sc.names.all fun y => match y.2 with
  | .free => false
  | _ => true)))))
theorem scB_ok {N ps : List Str} {sc : Scope} (h : scB N ps sc = true) : FnScope N ps sc := by
  unfold scB at h
  simp only [Bool.and_eq_true, Bool.not_eq_true'] at h
  obtain ⟨h1, h2, h3, h4, h5, h6, h7⟩ := h
  refine ⟨?_, h2, h3, nodupS_ok h4, eqNames_ok h5, fun x hx => locC_ok (List.all_eq_true.mp h6 x hx), fun y hy e => ?_⟩
  · revert h1; cases sc.kind <;> first | exact fun _ => rfl | exact fun z => nomatch z
  · have := List.all_eq_true.mp h7 y hy
    rw [e] at this; cases this
def parB (p : Arguments) (ps : List Str) : Bool := p.posonlyargs.isEmpty && (eqNames (p.args.map (·.arg)) ps && (p.vararg.isNone && (p.kwonlyargs.isEmpty && p.kwarg.isNone)))
structure ParOk (p : Arguments) (ps : List Str) : Prop where
  h1 : p.posonlyargs = []
  h2 : p.args.map (·.arg) = ps
  h3 : p.vararg = none
  h4 : p.kwonlyargs = []
  h5 : p.kwarg = none
theorem parB_ok {p : Arguments} {ps : List Str} (h : parB p ps = true) : ParOk p ps := by
  unfold parB at h
  simp only [Bool.and_eq_true] at h
  obtain ⟨h1, h2, h3, h4, h5⟩ := h
  exact ⟨List.isEmpty_iff.mp h1, eqNames_ok h2, Option.isNone_iff_eq_none.mp h3, List.isEmpty_iff.mp h4, Option.isNone_iff_eq_none.mp h5⟩
def fnB (tb : Tb) (f : Fn) (d : Fx) : Bool := d.N.all plainN && (scB d.N d.ps d.scope && (parB d.params d.ps && (Nat.beq d.ps.length f.np && (Nat.beq d.N.length f.ns && (Nat.ble f.np f.ns && ckSs tb (csOf d.fd) f.body d.body)))))
def allB (tb : Tb) : List Fn → List (Option Fx) → Bool
  | [], _ => true
  | f :: fs, some d :: ds => fnB tb f d && allB tb fs ds
  | f :: fs, none :: ds => f.neverB && allB tb fs ds
  | f :: fs, [] => f.neverB && allB tb fs []
theorem allB_ok {tb : Tb} : ∀ {P : List Fn} {fx : List (Option Fx)} {g : Nat} {f : Fn}, allB tb P fx = true → P[g]? = some f → f.neverB = true ∨ ∃ d, fx[g]? = some (some d) ∧ fnB tb f d = true
  | [], _, _, _, _, e => by simp at e
  | f0 :: fs, some d :: ds, g, f, h, e => by
    have h' : (fnB tb f0 d && allB tb fs ds) = true := h
    rw [Bool.and_eq_true] at h'
    cases g with
    | zero => simp at e; subst e; exact .inr ⟨d, rfl, h'.1⟩
    | succ g => exact allB_ok (fx := ds) (g := g) h'.2 (by simpa using e)
  | f0 :: fs, none :: ds, g, f, h, e => by
    have h' : (f0.neverB && allB tb fs ds) = true := h
    rw [Bool.and_eq_true] at h'
    cases g with
    | zero => simp at e; subst e; exact .inl h'.1
    | succ g => exact allB_ok (fx := ds) (g := g) h'.2 (by simpa using e)
  | f0 :: fs, [], g, f, h, e => by
    have h' : (f0.neverB && allB tb fs []) = true := h
    rw [Bool.and_eq_true] at h'
    cases g with
    | zero => simp at e; subst e; exact .inl h'.1
    | succ g =>
      rcases allB_ok (fx := []) (g := g) h'.2 (by simpa using e) with q | ⟨d, q, _⟩
      · exact .inl q
      · cases q
/-- names of calls: a def that runs -/
def fnmB (P : List Fn) : List (Option Fx) → List (Option Str) → Nat → Bool
  | _, [], _ => true
  | d :: ds, none :: r, g => fnmB P ds r (g + 1)
  | some d :: ds, some x :: r, g => plainN x && (eqStr d.at_.1 x && (d.at_.2.isNone && ((match P[g]? with
    | some f => !f.neverB
    | none => false) && fnmB P ds r (g + 1))))
  | _, _, _ => false
theorem fnmB_ok {P : List Fn} : ∀ {fx : List (Option Fx)} {l : List (Option Str)} {k : Nat}, fnmB P fx l k = true → ∀ {g : Nat} {x : Str}, l[g]? = some (some x) → plainN x = true ∧ ∃ d f, fx[g]? = some (some d) ∧ d.at_ = (x, none) ∧ P[k + g]? = some f ∧ f.neverB = false := by
  intro fx l
  induction l generalizing fx with
  | nil => intro k h g x e; simp at e
  | cons a r ih =>
    intro k h g x e
    cases fx with
    | nil => cases a <;> simp only [fnmB, reduceCtorEq] at h
    | cons d ds =>
      have step : ∀ {g : Nat}, fnmB P ds r (k + 1) = true → r[g]? = some (some x) → plainN x = true ∧ ∃ d' f, ds[g]? = some (some d') ∧ d'.at_ = (x, none) ∧ P[k + (g + 1)]? = some f ∧ f.neverB = false := fun {g} q e => by
        have := ih q e
        rw [show k + 1 + g = k + (g + 1) by omega] at this
        exact this
      cases a with
      | none =>
        have h' : fnmB P ds r (k + 1) = true := by cases d <;> exact h
        cases g with
        | zero => simp at e
        | succ g => exact step h' (by simpa using e)
      | some y =>
        cases d with
        | none => simp only [fnmB, reduceCtorEq] at h
        | some d =>
          simp only [fnmB, Bool.and_eq_true] at h
          obtain ⟨h1, h2, h3, h4, h5⟩ := h
          cases g with
          | zero =>
            simp at e
            subst e
            cases q : P[k]? with
            | none => rw [q] at h4; cases h4
            | some f =>
              rw [q] at h4
              refine ⟨h1, d, f, rfl, ?_, rfl, by simpa using h4⟩
              rw [← eqStr_ok h2, ← Option.isNone_iff_eq_none.mp h3]
          | succ g => exact step h5 (by simpa using e)

/-! ### what the heap's written part says -/
section
variable (K : PySem.W.Frag)
mutual
def kvD (fa : Nat → Addr) : Ip.D → Value → Bool
  | .non, .none => true
  | .bl b, .bool c => b == c
  | .int i, .int j _ => eqI i j
  | .str s, .str t _ => eqStr s t
  | .fn g, .ref a => Nat.beq (fa g) a
  | .tup xs, .ref a => (match K.lookup a with
    | some ⟨.type c, none, .seq its _, _⟩ => decide (c = "tuple") && (decide (its.size ≤ sizeLine) && kvDs fa xs its.toList)
    | _ => false)
  | _, _ => false
def kvDs (fa : Nat → Addr) : List Ip.D → List Value → Bool
  | [], [] => true
  | d :: ds, u :: us => kvD fa d u && kvDs fa ds us
  | _, _ => false
end
end
section
variable {K : PySem.W.Frag} {G : Gx}
theorem eqI_ok {i j : Int} (h : eqI i j = true) : i = j := by
  cases i <;> cases j <;> simp only [eqI, reduceCtorEq] at h
  · rw [Nat.eq_of_beq_eq_true h]
  · rw [Nat.eq_of_beq_eq_true h]
mutual
theorem kvD_ok (hK : G.K = K) : ∀ (d : Ip.D) (u : Value), kvD K G.fa d u = true → ∃ v, RelV v u ∧ ∀ w, RP G w d v
  | .non, u, h => by cases u <;> simp only [kvD, reduceCtorEq] at h; exact ⟨.non, rfl, fun w => .non⟩
  | .bl b, u, h => by
    cases u <;> simp only [kvD, reduceCtorEq] at h
    rename_i c
    obtain rfl := eq_of_beq h
    exact ⟨.bl b, rfl, fun w => .bl b⟩
  | .int i, u, h => by
    cases u <;> simp only [kvD, reduceCtorEq] at h
    obtain rfl := eqI_ok h
    exact ⟨.int i, ⟨_, rfl⟩, fun w => .int i⟩
  | .str s, u, h => by
    cases u <;> simp only [kvD, reduceCtorEq] at h
    obtain rfl := eqStr_ok h
    exact ⟨.str s, ⟨_, rfl⟩, fun w => .str s⟩
  | .fn g, u, h => by
    cases u <;> simp only [kvD, reduceCtorEq] at h
    rename_i a
    obtain rfl := Nat.eq_of_beq_eq_true h
    exact ⟨.ref (G.fa g), rfl, fun w => .fn g⟩
  | .tup xs, u, h => by
    cases u <;> simp only [kvD, reduceCtorEq] at h
    rename_i a
    split at h
    · rename_i c its n sl lk
      simp only [Bool.and_eq_true, decide_eq_true_eq] at h
      obtain ⟨rfl, h2, h3⟩ := h
      obtain ⟨vs, r, q⟩ := kvDs_ok hK xs its.toList h3
      exact ⟨.ref a, rfl, fun w => .tup (.inr ⟨_, its, n, by rw [hK]; exact lk, rfl, rfl, rfl, h2, r⟩) (q w)⟩
    · cases h
  | .lst _, u, h => by cases u <;> simp only [kvD, reduceCtorEq] at h
  | .loc _, u, h => by cases u <;> simp only [kvD, reduceCtorEq] at h
  | .exc _ _, u, h => by cases u <;> simp only [kvD, reduceCtorEq] at h
theorem kvDs_ok (hK : G.K = K) : ∀ (ds : List Ip.D) (us : List Value), kvDs K G.fa ds us = true → ∃ vs, Vals vs us ∧ ∀ w, RPs G w ds vs
  | [], [], _ => ⟨[], .nil, fun w => .nil⟩
  | [], _ :: _, h => by simp only [kvDs, reduceCtorEq] at h
  | _ :: _, [], h => by simp only [kvDs, reduceCtorEq] at h
  | d :: ds, u :: us, h => by
    simp only [kvDs, Bool.and_eq_true] at h
    obtain ⟨v, r, q⟩ := kvD_ok hK d u h.1
    obtain ⟨vs, rs, qs⟩ := kvDs_ok hK ds us h.2
    exact ⟨v :: vs, .cons r rs, fun w => .cons (q w) (qs w)⟩
end
end
def bmOf (b : Bool) : List Value := match b with
  | true => [.type "LookupError", .type "Exception", .type "BaseException", .type "object"]
  | false => [.type "ValueError", .type "Exception", .type "BaseException", .type "object"]
def bnOf (b : Bool) : String := match b with | true => "LookupError" | false => "ValueError"
def newOf (b : Bool) : String := match b with | true => "LookupError.__new__" | false => "ValueError.__new__"
def iniOf (b : Bool) : String := match b with | true => "LookupError.__init__" | false => "ValueError.__init__"
theorem base_facts : ∀ b : Bool, ExcBaseFacts (bnOf b) (newOf b) (iniOf b) (bmOf b)
  | true => PySem.F.excBase_LookupError
  | false => PySem.F.excBase_ValueError
theorem store_facts : ∀ b : Bool, StoreFacts (bnOf b) (bmOf b) "object.__setattr__" "object"
  | true => PySem.F.store_LookupError
  | false => PySem.F.store_ValueError
theorem super_facts : ∀ b : Bool, PySem.W.KxsFacts (bnOf b) (iniOf b)
  | true => PySem.W.kxs_LookupError
  | false => PySem.W.kxs_ValueError
def optB {α : Type} [DecidableEq α] (a b : Option α) : Bool := decide (a = b)
/-- the class of an error -/
def excCB (K : PySem.W.Frag) (D : Addr) : Bool := optB (PySem.W.findIn K (.ref D) "__getattribute__") (some (some (.builtin "BaseException.__getattribute__"))) && (optB (PySem.W.findIn K (.ref D) "__getattr__") (some none) && (optB (PySem.W.subIn K (.ref D) (.type "BaseException")) (some true) &&
  (PySem.W.hasDictIn K D && (optB (PySem.W.findIn K (.ref D) "__class__") (some (some (.builtin "object.__class__"))) && (optB (PySem.W.specialIn K (.builtin "object.__class__") "__get__") (some (some (.builtin "getset_descriptor.__get__"))) &&
  (optB (PySem.W.takesIn K (.builtin "object.__class__")) (some true) && optB (PySem.W.mroIn K D (.type "object")) (some true)))))))
theorem excCB_ok {K : PySem.W.Frag} {D : Addr} (h : excCB K D = true) : ExcC K D := by
  unfold excCB optB at h
  simp only [Bool.and_eq_true, decide_eq_true_eq] at h
  obtain ⟨h1, h2, h3, h4, h5, h6, h7, h8⟩ := h
  exact ⟨h1, h2, h3, h4, h5, h6, h7, h8⟩
def kitB7 (K : PySem.W.Frag) (D : Addr) (b : Bool) : Bool := optB (PySem.W.kitOne K (.ref D) (.type "int")) (some false) && (optB (PySem.W.kitOne K (.ref D) (.type "bool")) (some false) && (optB (PySem.W.kitOne K (.ref D) (.type "str")) (some false) && (optB (PySem.W.kitOne K (.ref D) (.type "list")) (some false) &&
  (optB (PySem.W.kitOne K (.ref D) (.type "tuple")) (some false) && (optB (PySem.W.kitOne K (.ref D) (.type "ValueError")) (some (!b)) && optB (PySem.W.kitOne K (.ref D) (.type "LookupError")) (some b))))))
/-- the body: super().__init__(v); self.f = v -/
def iniBodyB (f pS pV : Str) : List Stmt → Bool
  | [.Expr (.Call (.Attribute (.Call (.Name x0 _) [] [] _) x1 p2) [.Name x2 _] [] p4) _, .Assign [.Attribute (.Name x3 _) x4 _] (.Name x5 _) _] =>
    eqStr x0 "super" && (eqStr x1 "__init__" && (eqStr x2 pV && (eqStr x3 pS && (eqStr x4 f && (eqStr x5 pV && (p2.endLine == p4.line))))))
  | _ => false
theorem iniBodyB_ok {f pS pV : Str} {bd : List Stmt} (h : iniBodyB f pS pV bd = true) : IniB f pS pV bd := by
  unfold iniBodyB at h
  split at h
  · simp only [Bool.and_eq_true] at h
    obtain ⟨h1, h2, h3, h4, h5, h6, h7⟩ := h
    rw [eqStr_ok h1, eqStr_ok h2, eqStr_ok h3, eqStr_ok h4, eqStr_ok h5, eqStr_ok h6]
    exact ⟨_, _, _, _, _, _, _, _, _, _, h7, rfl⟩
  · cases h
def cellB (K : PySem.W.Frag) (C cc : Addr) : Bool := match K.lookup cc with
  | some ⟨_, _, .cell (some (.ref a)), _⟩ => Nat.beq a C
  | _ => false
def fileB (K : PySem.W.Frag) (file : Str) (cd : Value) : Bool := match cd with
  | .ref cda => (match K.lookup cda with
    | some ⟨_, _, .fields vs, _⟩ => (match (vs[2]? : Option Value) with
      | some (.str x _) => (file == x)
      | _ => false)
    | _ => false)
  | _ => false
def iniFn (K : PySem.W.Frag) (prog : Program) (C : Addr) (f pS pV : Str) (fd : FuncData) : Bool := PySem.W.codeIn K fd.code fd.qualname && ((match fd.closure with
    | [(x, cc)] => eqStr x "__class__" && cellB K C cc
    | _ => false) && (fileB K prog.main.file fd.code && ((match fd.defaults with
    | .none => true
    | _ => false) && (parB fd.params [pS, pV] && ((match fd.body with
    | .stmts bd => iniBodyB f pS pV bd
    | _ => false) && (Nat.beq fd.globals mainGlobals && (Nat.beq fd.builtins builtinsNs && ((match fd.scope.kind with | .function => true | _ => false) && (!fd.scope.isCoroutine && (!fd.scope.isGenerator && ((fd.scope.names.all fun y => match y.2 with
    | .cell => false
    | _ => true) && (glbC fd.scope "super" && ((match lk "__class__" fd.scope.names with
    | some .free => true
    | _ => false) && (lclC fd.scope pS && lclC fd.scope pV))))))))))))))
def iniKB (K : PySem.W.Frag) (prog : Program) (C : Addr) (b : Bool) (f pS pV : Str) : Bool :=
  PySem.W.excInitIn K C (bmOf b) (newOf b) && (PySem.W.excOver K C (bmOf b) && (optB (PySem.W.findIn K (.ref C) "__init__") (some (some (.ref (He.ma K C "__init__")))) && (optB (PySem.W.typeIn K (.ref (He.ma K C "__init__"))) (some (.type "function")) &&
  (optB (PySem.W.findIn K (.ref C) "__setattr__") (some (some (.builtin "object.__setattr__"))) && (optB (PySem.W.takerIn K C f) (some none) && (PySem.W.hasDictIn K C && (optB (PySem.W.ks_superIn K C C "__init__") (some (some (.builtin (iniOf b)))) &&
  (optB (PySem.W.subIn K (.ref C) (.type (bnOf b))) (some true) && (optB (PySem.W.mroIn K C (.ref C)) (some true) && (optB (PySem.W.nsIn K cStatics "thirdparty.any") (some none) && ((prog.main.scope.names.lookup ("super" : Str)).isNone &&
  (plainN pS && (plainN pV && (!eqStr pS pV && (match K.lookup (He.ma K C "__init__") with
    | some ⟨_, _, .func fd, _⟩ => iniFn K prog C f pS pV fd
    | _ => false)))))))))))))))
theorem iniKB_ok {K : PySem.W.Frag} {prog : Program} {C : Addr} {b : Bool} {f pS pV : Str} (h : iniKB K prog C b f pS pV = true) (kC : PySem.W.keepIn K (.ref C) = true) (exC : PySem.W.subIn K (.ref C) (.type "BaseException") = some true) (tyC : PySem.W.typeIn K (.ref C) = some (.type "type")) :
    ∃ bd fd, IniK prog K C (He.ma K C "__init__") (bnOf b) (newOf b) (iniOf b) (bmOf b) f pS pV bd fd ∧ IniB f pS pV bd := by
  unfold iniKB optB at h
  simp only [Bool.and_eq_true, decide_eq_true_eq, Bool.not_eq_true'] at h
  obtain ⟨h1, h2, h3, h4, h5, h6, h7, h8, h9, h10, h11, h12, h13, h14, h15, h16⟩ := h
  split at h16
  · rename_i oc od fd osl lk'
    unfold iniFn at h16
    simp only [Bool.and_eq_true, Bool.not_eq_true'] at h16
    obtain ⟨i1, i2, i3, i4, i5, i6, i7, i8, i9, i10, i11, i12, i13, i14, i15, i16⟩ := h16
    have par := parB_ok i5
    unfold plainN at h13 h14
    rw [Bool.and_eq_true, Bool.not_eq_true', Bool.not_eq_true', sDbg_eq, sCdc_eq] at h13 h14
    split at i2
    · rename_i x cc hclo
      rw [Bool.and_eq_true] at i2
      split at i6
      · rename_i bd hbd
        unfold cellB at i2
        split at i2
        · rename_i cl cld a csl lcc
          unfold fileB at i3
          split at i3
          · rename_i cda hco
            split at i3
            · rename_i ccl cdd vs ccs lcd
              split at i3
              · rename_i file tf hvs
                have hx := eqStr_ok i2.1
                have ha := Nat.eq_of_beq_eq_true i2.2
                subst ha
                have dn : fd.defaults = .none := by revert i4; cases fd.defaults <;> first | exact fun _ => rfl | exact fun z => nomatch z
                refine ⟨bd, fd, ?_, iniBodyB_ok i6⟩
                refine { FB := base_facts b, SF := store_facts b, KF := super_facts b, q := h1, ov := h2, hi := h3, tI := h4, kC := kC, exC := exC, tyC := tyC, sa := h5, tk := h6, hd := h7, sup := h8, sub := h9, mro := h10, opq := h11, top := ?_, fn := ?_, body := hbd, glob := Nat.eq_of_beq_eq_true i7, blt := Nat.eq_of_beq_eq_true i8, kind := ?_, co := i10, gen := i11, nc := ?_, sS := glbC_ok i13, sC := ?_, sP := lclC_ok i15, sV := lclC_ok i16, dP := ne_eqStr h13.1, dV := ne_eqStr h14.1, ne := ne_eqStr h15, bnd := ?_ }
                · rw [Option.isNone_iff_eq_none.mp h12]; rfl
                · obtain ⟨a1, rest, e1⟩ : ∃ a1 rest, fd.params.args = a1 :: rest := by
                    cases e : fd.params.args with
                    | nil => have := par.h2; rw [e] at this; cases this
                    | cons a1 rest => exact ⟨a1, rest, rfl⟩
                  have e2 : a1.arg = pS := by have := par.h2; rw [e1, List.map_cons] at this; exact (List.cons.inj this).1
                  exact ⟨oc, od, osl, cc, cda, ccl, cdd, vs, ccs, file, tf, cl, cld, csl, a1, lk', i1, hco, lcd, hvs, i3, lcc, by rw [hclo, hx], by rw [par.h1, e1]; rfl, e2⟩
                · revert i9; cases fd.scope.kind <;> first | exact fun _ => rfl | exact fun z => nomatch z
                · intro y hy e
                  have := List.all_eq_true.mp i12 y hy
                  rw [e] at this; cases this
                · rw [lk_eq] at i14
                  split at i14
                  · assumption
                  · cases i14
                · intro s us _ hl
                  rw [List.append_nil] at hl ⊢
                  exact .of_eq (bind_plain par.h1 par.h2 par.h3 par.h4 par.h5 dn (by
                    refine List.nodup_cons.mpr ⟨fun m => ?_, by simp⟩
                    simp at m
                    subst m
                    rw [eqStr_refl] at h15; cases h15) hl)
              · cases i3
            · cases i3
          · cases i3
        · exact nomatch i2.2
      · cases i6
    · cases i2
  · cases h16

/-! ### all of it -/
def Tx.ca (T : Tx) (K : PySem.W.Frag) (g : Nat) : Addr := match T.ce[g]? with
  | some (some c) => He.ga K c.name
  | _ => (match T.oc[g]? with
    | some (some o) => He.ga K o.name
    | _ => mainGlobals)
def Tx.fnmF (T : Tx) (f : Nat) : Str := match T.ats[f]? with
  | some x => x
  | none => ⟨#[f + 1114112]⟩
/-- a name as written -/
def plainA (x : Str) : Bool := match x.cps.toList with
  | [c] => Nat.blt c 1114112
  | _ => true
theorem plainA_no {x : Str} {f : Nat} (h : plainA x = true) : x ≠ ⟨#[f + 1114112]⟩ := fun e => by
  subst e
  have : Nat.blt (f + 1114112) 1114112 = true := h
  rw [bltN, decide_eq_true_eq] at this
  omega
theorem fnmF_inj {T : Tx} (h1 : nodupS T.ats = true) (h2 : T.ats.all plainA = true) : ∀ f f', T.fnmF f = T.fnmF f' → f = f' := fun f f' e => by
  have nd := nodupS_ok h1
  have pl : ∀ {g : Nat} {x : Str}, T.ats[g]? = some x → plainA x = true := fun q => List.all_eq_true.mp h2 _ (List.mem_of_getElem? q)
  unfold Tx.fnmF at e
  split at e
  · rename_i x hx
    split at e
    · rename_i y hy
      subst e
      exact nodup_ix nd hx hy
    · exact absurd e (plainA_no (pl hx))
  · split at e
    · rename_i y hy
      exact absurd e.symm (plainA_no (pl hy))
    · injection e with e
      have := congrArg Array.toList e
      simp at this
      exact this
theorem fnmF_not {T : Tx} {m : Str} (h1 : memS m T.ats = false) (h2 : plainA m = true) : ∀ f, T.fnmF f ≠ m := fun f e => by
  unfold Tx.fnmF at e
  split at e
  · rename_i x hx
    subst e
    exact memS_ok h1 (List.mem_of_getElem? hx)
  · exact plainA_no h2 e.symm
def sIni : Str := sx [95, 95, 105, 110, 105, 116, 95, 95]
theorem sIni_eq : sIni = ("__init__" : Str) := by decide +kernel
/-- the def g is the class's method m, and runs -/
def mthB (T : Tx) (x m : Str) (g : Nat) : Bool := (match T.fx[g]? with
  | some (some d) => eqStr d.at_.1 x && (match d.at_.2 with
    | some y => eqStr y m
    | none => false)
  | _ => false) && (match T.P[g]? with
  | some f => !f.neverB
  | none => false)
theorem mthB_ok {T : Tx} {x m : Str} {g : Nat} (h : mthB T x m g = true) : (∃ d, T.fx[g]? = some (some d) ∧ d.at_ = (x, some m)) ∧ ∃ f, T.P[g]? = some f ∧ f.neverB = false := by
  unfold mthB at h
  rw [Bool.and_eq_true] at h
  obtain ⟨h1, h2⟩ := h
  refine ⟨?_, ?_⟩
  · split at h1
    · rename_i d e
      rw [Bool.and_eq_true] at h1
      obtain ⟨a, b⟩ := h1
      split at b
      · rename_i y ey
        refine ⟨d, e, ?_⟩
        rw [← eqStr_ok a, ← eqStr_ok b, ← ey]
      · cases b
    · cases h1
  · split at h2
    · rename_i f e
      exact ⟨f, e, by simpa using h2⟩
    · cases h2
def ocSt (T : Tx) (o : Oc) : Bool := plainN o.name && (mthB T o.name sIni o.ini && o.ms.all fun q => mthB T o.name q.1 q.2 && (!memS q.1 T.ats && plainA q.1))
def ocStAll (T : Tx) : List (Option Oc) → Bool
  | [] => true
  | none :: r => ocStAll T r
  | some o :: r => ocSt T o && ocStAll T r
/-- what the heap says of it -/
def ocK (T : Tx) (K : PySem.W.Frag) (o : Oc) : Bool := (He.Fa.glo o.name).ok K && ((He.Fa.cls o.name).ok K && ((T.ats.all fun x => (He.Fa.noat o.name x).ok K) && ((He.Fa.mkr o.name).ok K && ((o.ms.all fun q => (He.Fa.meth o.name q.1).ok K) && T.ce.all fun c => match c with
  | some c => !Nat.beq (He.ga K o.name) (He.ga K c.name)
  | none => true))))
def ocKAll (T : Tx) (K : PySem.W.Frag) : List (Option Oc) → Nat → Bool
  | [], _ => true
  | none :: r, c => ocKAll T K r (c + 1)
  | some o :: r, c => ocK T K o && ((match T.ce[c]? with
    | some (some _) => false
    | _ => true) && ocKAll T K r (c + 1))
theorem ocStAll_ok {T : Tx} : ∀ {l : List (Option Oc)} {c : Nat} {o : Oc}, ocStAll T l = true → l[c]? = some (some o) → ocSt T o = true
  | [], _, _, _, e => by simp at e
  | none :: r, 0, _, _, e => by simp at e
  | none :: r, c + 1, o, h, e => ocStAll_ok (l := r) (c := c) h (by simpa using e)
  | some o0 :: r, c, o, h, e => by
    have h' : (ocSt T o0 && ocStAll T r) = true := h
    rw [Bool.and_eq_true] at h'
    cases c with
    | zero => simp at e; subst e; exact h'.1
    | succ c => exact ocStAll_ok (l := r) (c := c) h'.2 (by simpa using e)
theorem ocKAll_ok {T : Tx} {K : PySem.W.Frag} : ∀ {l : List (Option Oc)} {k c : Nat} {o : Oc}, ocKAll T K l k = true → l[c]? = some (some o) → ocK T K o = true ∧ ∀ z, T.ce[k + c]? ≠ some (some z)
  | [], _, _, _, _, e => by simp at e
  | none :: r, k, 0, _, _, e => by simp at e
  | none :: r, k, c + 1, o, h, e => by
    have := ocKAll_ok (l := r) (k := k + 1) (c := c) h (by simpa using e)
    rw [show k + 1 + c = k + (c + 1) by omega] at this
    exact this
  | some o0 :: r, k, c, o, h, e => by
    have h' : (ocK T K o0 && ((match T.ce[k]? with
      | some (some _) => false
      | _ => true) && ocKAll T K r (k + 1))) = true := h
    rw [Bool.and_eq_true, Bool.and_eq_true] at h'
    cases c with
    | zero =>
      simp at e; subst e
      refine ⟨h'.1, fun z q => ?_⟩
      rw [Nat.add_zero] at q
      rw [q] at h'
      exact nomatch h'.2.1
    | succ c =>
      have := ocKAll_ok (l := r) (k := k + 1) (c := c) h'.2.2 (by simpa using e)
      rw [show k + 1 + c = k + (c + 1) by omega] at this
      exact this
theorem ownL_ok : ∀ {l : List (Option Oc)} {k c : Nat}, c ∈ ownL l k → ∃ i o, c = k + i ∧ l[i]? = some (some o)
  | [], _, _, h => by simp [ownL] at h
  | none :: r, k, c, h => by
    obtain ⟨i, o, e, q⟩ := ownL_ok (l := r) (k := k + 1) (by simpa only [ownL] using h)
    exact ⟨i + 1, o, by omega, by simpa using q⟩
  | some o0 :: r, k, c, h => by
    simp only [ownL, List.mem_cons] at h
    rcases h with rfl | h
    · exact ⟨0, o0, rfl, rfl⟩
    · obtain ⟨i, o, e, q⟩ := ownL_ok (l := r) (k := k + 1) h
      exact ⟨i + 1, o, by omega, by simpa using q⟩
theorem iniL_ok : ∀ {l : List (Option Oc)} {k : Nat} {t : Nat × Nat × Str}, t ∈ iniL l k → ∃ i o, t = (k + i, o.ini, o.name) ∧ l[i]? = some (some o)
  | [], _, _, h => by simp [iniL] at h
  | none :: r, k, c, h => by
    obtain ⟨i, o, e, q⟩ := iniL_ok (l := r) (k := k + 1) (by simpa only [iniL] using h)
    exact ⟨i + 1, o, by rw [e, show k + 1 + i = k + (i + 1) by omega], by simpa using q⟩
  | some o0 :: r, k, c, h => by
    simp only [iniL, List.mem_cons] at h
    rcases h with rfl | h
    · exact ⟨0, o0, rfl, rfl⟩
    · obtain ⟨i, o, e, q⟩ := iniL_ok (l := r) (k := k + 1) h
      exact ⟨i + 1, o, by rw [e, show k + 1 + i = k + (i + 1) by omega], by simpa using q⟩
theorem mthL_ok : ∀ {l : List (Option Oc)} {k : Nat} {t : Nat × Nat × Str}, t ∈ mthL l k → ∃ i o q, t = (k + i, q.2, q.1) ∧ l[i]? = some (some o) ∧ q ∈ o.ms
  | [], _, _, h => by simp [mthL] at h
  | none :: r, k, c, h => by
    obtain ⟨i, o, p, e, q, m⟩ := mthL_ok (l := r) (k := k + 1) (by simpa only [mthL] using h)
    exact ⟨i + 1, o, p, by rw [e, show k + 1 + i = k + (i + 1) by omega], by simpa using q, m⟩
  | some o0 :: r, k, c, h => by
    simp only [mthL, List.mem_append, List.mem_map] at h
    rcases h with ⟨p, m, rfl⟩ | h
    · exact ⟨0, o0, p, rfl, rfl, m⟩
    · obtain ⟨i, o, p, e, q, m⟩ := mthL_ok (l := r) (k := k + 1) h
      exact ⟨i + 1, o, p, by rw [e, show k + 1 + i = k + (i + 1) by omega], by simpa using q, m⟩
theorem inT_ok {l : List (Nat × Nat × Str)} {c g : Nat} {x : Str} (h : inT l c g x = true) : (c, g, x) ∈ l := by
  unfold inT at h
  obtain ⟨t, m, e⟩ := List.any_eq_true.mp h
  simp only [Bool.and_eq_true] at e
  obtain ⟨a, b, d⟩ := t
  obtain ⟨e1, e2, e3⟩ := e
  rw [← Nat.eq_of_beq_eq_true e1, ← Nat.eq_of_beq_eq_true e2, ← eqStr_ok e3]
  exact m
def Tx.fa (T : Tx) (law : Fx) (K : PySem.W.Frag) (g : Nat) : Addr := match T.fx[g]? with
  | some (some d) => He.fAd K d.at_
  | _ => He.fAd K law.at_
def Tx.pso (T : Tx) (g : Nat) : List Str := match T.fx[g]? with
  | some (some d) => d.ps
  | _ => []
def Tx.G (T : Tx) (law : Fx) (K : PySem.W.Frag) (w : World) : Gx := ⟨K, T.fa law K, T.ca K, fun _ => T.xfn, T.fnmF, fun k => k.hash w, T.pso, none⟩
def ceB (T : Tx) (prog : Program) (K : PySem.W.Frag) (c : Ce) : Bool := PySem.W.keepIn K (.ref (He.ga K c.name)) && (optB (PySem.W.subIn K (.ref (He.ga K c.name)) (.type "BaseException")) (some true) && (optB (PySem.W.typeIn K (.ref (He.ga K c.name))) (some (.type "type")) &&
  (excCB K (He.ga K c.name) && (kitB7 K (He.ga K c.name) c.lk && (optB (PySem.W.findIn K (.ref (He.ga K c.name)) T.xfn) (some none) && (!Nat.beq (He.ga K c.name) mainGlobals && (optB (PySem.W.nsIn K mainGlobals c.name) (some (some (.ref (He.ga K c.name)))) && (plainN c.name && (match c.ini with
    | none => PySem.W.excIn K (He.ga K c.name) (bmOf c.lk) (newOf c.lk)
    | some (f, pS, pV) => eqStr T.xfn f && iniKB K prog (He.ga K c.name) c.lk f pS pV)))))))))
def ceAll (T : Tx) (prog : Program) (K : PySem.W.Frag) : List (Option Ce) → Bool
  | [] => true
  | none :: r => ceAll T prog K r
  | some c :: r => ceB T prog K c && ceAll T prog K r
theorem ceAll_ok {T : Tx} {prog : Program} {K : PySem.W.Frag} : ∀ {l : List (Option Ce)} {g : Nat} {c : Ce}, ceAll T prog K l = true → l[g]? = some (some c) → ceB T prog K c = true
  | [], _, _, _, e => by simp at e
  | none :: r, 0, _, _, e => by simp at e
  | none :: r, g + 1, c, h, e => ceAll_ok (l := r) (g := g) h (by simpa using e)
  | some c0 :: r, g, c, h, e => by
    have h' : (ceB T prog K c0 && ceAll T prog K r) = true := h
    rw [Bool.and_eq_true] at h'
    cases g with
    | zero => simp at e; subst e; exact h'.1
    | succ g => exact ceAll_ok (l := r) (g := g) h'.2 (by simpa using e)
/-- two classes: which catches which -/
def exmB (T : Tx) (K : PySem.W.Frag) : Bool := (List.range T.ce.length).all fun g => (List.range T.ce.length).all fun g' => match T.ce[g]?, T.ce[g']? with
  | some (some c), some (some c') => optB (PySem.W.exmOne K (.ref (He.ga K c'.name)) (.ref (He.ga K c.name))) (some (Nat.beq g g')) && (Nat.beq g g' || !Nat.beq (He.ga K c.name) (He.ga K c'.name))
  | _, _ => true
def notLst (o : Obj) : Bool := match o.cls with
  | .type c => !decide (c = "list")
  | _ => true
def Tx.kB (T : Tx) (law : Fx) (prog : Program) (K : PySem.W.Frag) : Bool := ceAll T prog K T.ce && (exmB T K && ((T.gl.all fun p => plainN p.1 && match PySem.W.nsIn K mainGlobals p.1 with
    | some (some u) => kvD K (T.fa law K) p.2 u
    | _ => false) && ((T.fnm.all fun x => match x with
    | none => true
    | some x => optB (PySem.W.nsIn K mainGlobals x) (some (some (.ref (He.ga K x))))) && ((bltAll.all fun x => optB (PySem.W.nsIn K mainGlobals x) (some none)) && (optB (PySem.W.nsIn K mainGlobals "super") (some none) && ((K.all fun q => notLst q.2) && (ocKAll T K T.oc 0 && (!T.gcdB || optB (PySem.W.nsIn K mainGlobals "gcd") (some (some (.builtin "math.gcd")))))))))))
def Tx.stB (T : Tx) : Bool := (allB T.tb T.P T.fx && fnmB T.P T.fx T.fnm 0) && (nodupS T.ats && (T.ats.all plainA && ocStAll T T.oc))
def spLaw (K : PySem.W.Frag) : Sp := fun vs H Q _ => ∃ (a : Addr) (ns : List Int), vs = [.ref a] ∧ ns.length ≤ 63 ∧ SqL K H a (ns.map V.int) ∧ ∀ H', Q (.bl true) H'
theorem glob_mem {l : List (Str × Ip.D)} {k : Nat} {x : Str} (h : (l.map (·.1))[k]? = some x) : ∃ d, l[k]? = some (x, d) := by
  rw [List.getElem?_map] at h
  cases e : l[k]? with
  | none => rw [e] at h; cases h
  | some p => rw [e] at h; cases h; exact ⟨p.2, rfl⟩
section
variable {T : Tx} {law : Fx} {prog : Program} {w : World} {K : PySem.W.Frag} {h : Heap} {mg : Str → Option Value}
theorem pg_of (KX : K.In h) (Gm : h.Ns mainGlobals mg) (c : He.SaysD [] T.fn K) (kb : T.kB law prog K = true) (st : T.stB = true) {li : Nat} (hl : T.fx[li]? = some (some law)) {base : Heap} : Pg prog w K mg base (T.G law K w) T.P T.glo T.tb T.eb T.pso := by
  unfold Tx.kB at kb
  simp only [Bool.and_eq_true] at kb
  obtain ⟨k1, k2, k3, k4, k5, k6, k7, k8, k9⟩ := kb
  unfold Tx.stB at st
  simp only [Bool.and_eq_true] at st
  obtain ⟨⟨s1, s2⟩, s3, s4, s5⟩ := st
  have defs : ∀ {g : Nat} {d : Fx}, T.fx[g]? = some (some d) → ∃ fd, FunD K d.name d.qual d.params d.body d.scope [] [] (He.fAd K d.at_) fd := fun {g d} e => by
    have m : d.de ∈ T.fn := List.mem_filterMap.mpr ⟨some d, List.mem_of_getElem? e, rfl⟩
    obtain ⟨fd, F⟩ := c.defs m
    exact ⟨fd, F⟩
  have fa_of : ∀ {g : Nat} {d : Fx}, T.fx[g]? = some (some d) → T.fa law K g = He.fAd K d.at_ := fun {g d} e => by unfold Tx.fa; rw [e]
  have ca_of : ∀ {g : Nat} {c : Ce}, T.ce[g]? = some (some c) → T.ca K g = He.ga K c.name := fun {g c} e => by unfold Tx.ca; rw [e]
  have oca : ∀ {c : Nat} {o : Oc}, T.oc[c]? = some (some o) → (∀ z, T.ce[0 + c]? ≠ some (some z)) → T.ca K c = He.ga K o.name := fun {c o} e n => by
    unfold Tx.ca
    split
    · rename_i z hz
      exact absurd hz (by have := n z; rwa [Nat.zero_add] at this)
    · rw [e]
  have eb_of : ∀ {g : Nat}, T.eb g .other = true → ∃ c, T.ce[g]? = some (some c) := fun {g} e => by
    unfold Tx.eb at e
    split at e
    · exact ⟨_, ‹_›⟩
    · cases e
  have lt_of : ∀ {g : Nat} {c : Ce}, T.ce[g]? = some (some c) → g ∈ List.range T.ce.length := fun {g c} e => List.mem_range.mpr (List.getElem?_eq_some_iff.mp e).1
  have two : ∀ {g g' : Nat} {c c' : Ce}, T.ce[g]? = some (some c) → T.ce[g']? = some (some c') → PySem.W.exmOne K (.ref (He.ga K c'.name)) (.ref (He.ga K c.name)) = some (Nat.beq g g') ∧ (Nat.beq g g' = true ∨ He.ga K c.name ≠ He.ga K c'.name) := fun {g g' c c'} e e' => by
    unfold exmB at k2
    have := List.all_eq_true.mp (List.all_eq_true.mp k2 g (lt_of e)) g' (lt_of e')
    simp only [e, e', Bool.and_eq_true, Bool.or_eq_true, Bool.not_eq_true', optB, decide_eq_true_eq] at this
    refine ⟨this.1, this.2.imp id fun q z => ?_⟩
    rw [z, Nat.beq_refl] at q; cases q
  have one : ∀ {g : Nat} {c : Ce}, T.ce[g]? = some (some c) → ceB T prog K c = true := fun e => ceAll_ok k1 e
  refine { hK := rfl, hH := fun _ => rfl, psG := fun _ => rfl, fps := fun g ps e => ?_, cur := rfl, kp := fun g => ?_, glo := fun k x e => ?_, fnm := fun g x e => ?_, blt := fun x hx => ?_, fnI := fnmF_inj s3 s4, ats := fun f nm e => ?_, own := fun c h => ?_, omk := fun c g x h => ?_, omt := fun c g m h => ?_, gcd := fun h => ?_, defs := fun g f e => ?_, mkr0 := fun X C W g x p pos h1 h2 h3 h4 h5 h6 e hg => ?_, mkr1 := fun X C W g x a a' p pos k h1 h2 h3 h4 h5 h6 hr e hg hs ha => ?_, exn := fun g x e => ?_, exc := fun g e => ?_, caI := fun g g' e q => ?_ }
  · have e' : (T.fx.map fun o => match o with
      | some d => d.ps
      | none => [])[g]? = some ps := e
    rw [List.getElem?_map] at e'
    show T.pso g = ps
    unfold Tx.pso
    cases eg : T.fx[g]? with
    | none => rw [eg] at e'; cases e'
    | some o =>
      rw [eg] at e'
      cases o with
      | none => cases e'; rfl
      | some d => cases e'; rfl
  · show PySem.W.keepIn K (.ref (T.fa law K g)) = true
    unfold Tx.fa
    split
    · obtain ⟨fd, F⟩ := defs ‹_›
      exact F.kp
    · obtain ⟨fd, F⟩ := defs hl
      exact F.kp
  · obtain ⟨d, ed⟩ := glob_mem e
    have := List.all_eq_true.mp k3 _ (List.mem_of_getElem? ed)
    rw [Bool.and_eq_true] at this
    obtain ⟨a1, a2⟩ := this
    unfold plainN at a1
    rw [Bool.and_eq_true, Bool.not_eq_true', Bool.not_eq_true', sDbg_eq, sCdc_eq] at a1
    split at a2
    · rename_i u hu
      obtain ⟨v, r, q⟩ := kvD_ok (G := T.G law K w) rfl d u a2
      refine ⟨ne_eqStr a1.1, d, v, u, ?_, PySem.W.mg_of KX Gm hu, r, q⟩
      unfold Tx.glo
      rw [List.getElem?_map, ed]; rfl
    · cases a2
  · obtain ⟨a1, d, f, e1, e2, e3, e4⟩ := fnmB_ok s2 e
    have a4 := List.all_eq_true.mp k4 _ (List.mem_of_getElem? e)
    simp only [optB, decide_eq_true_eq] at a4
    unfold plainN at a1
    rw [Bool.and_eq_true, Bool.not_eq_true', Bool.not_eq_true', sDbg_eq, sCdc_eq] at a1
    rw [Nat.zero_add] at e3
    refine ⟨ne_eqStr a1.1, ?_, f, e3, e4⟩
    show mg x = some (.ref (T.fa law K g))
    rw [fa_of e1, e2]
    exact PySem.W.mg_of KX Gm a4
  · have := List.all_eq_true.mp k5 x hx
    simp only [optB, decide_eq_true_eq] at this
    exact PySem.W.mg_none_of KX Gm this
  · show T.fnmF f = nm
    unfold Tx.fnmF
    have e : T.ats[f]? = some nm := e
    rw [e]
  · have m : c ∈ ownL T.oc 0 := by
      unfold ownB at h
      obtain ⟨k, hk, e⟩ := List.any_eq_true.mp h
      rw [← Nat.eq_of_beq_eq_true e]; exact hk
    obtain ⟨i, o, ec, eo⟩ := ownL_ok m
    rw [Nat.zero_add] at ec
    subst ec
    obtain ⟨q, nc⟩ := ocKAll_ok k8 eo
    rw [show (T.G law K w).ca c = He.ga K o.name from oca eo nc]
    unfold ocK at q
    simp only [Bool.and_eq_true] at q
    refine ⟨He.cls_ok q.2.1, fun f nm e => ?_⟩
    exact He.noat_ok (List.all_eq_true.mp q.2.2.1 nm (List.mem_of_getElem? e))
  · obtain ⟨i, o, et, eo⟩ := iniL_ok (inT_ok h)
    rw [Nat.zero_add] at et
    injection et with et1 et2
    injection et2 with et2 et3
    subst et1 et2 et3
    obtain ⟨q, nc⟩ := ocKAll_ok k8 eo
    have st := ocStAll_ok s5 eo
    unfold ocK at q
    unfold ocSt at st
    simp only [Bool.and_eq_true] at q st
    obtain ⟨⟨d, ed, ea⟩, ff⟩ := mthB_ok st.2.1
    have pn := st.1
    unfold plainN at pn
    rw [Bool.and_eq_true, Bool.not_eq_true', Bool.not_eq_true', sDbg_eq, sCdc_eq] at pn
    refine ⟨ne_eqStr pn.1, ?_, ?_, ff⟩
    · rw [show (T.G law K w).ca c = He.ga K o.name from oca eo nc]
      exact He.glo_ok KX Gm q.1
    · rw [show (T.G law K w).ca c = He.ga K o.name from oca eo nc, show (T.G law K w).fa o.ini = He.fAd K d.at_ from fa_of ed, ea, sIni_eq]
      exact He.mkr_ok q.2.2.2.1
  · obtain ⟨i, o, p, et, eo, pm⟩ := mthL_ok (inT_ok h)
    rw [Nat.zero_add] at et
    injection et with et1 et2
    injection et2 with et2 et3
    subst et1 et2 et3
    obtain ⟨q, nc⟩ := ocKAll_ok k8 eo
    have st := ocStAll_ok s5 eo
    unfold ocK at q
    unfold ocSt at st
    simp only [Bool.and_eq_true] at q st
    have sm := List.all_eq_true.mp st.2.2 p pm
    simp only [Bool.and_eq_true, Bool.not_eq_true'] at sm
    obtain ⟨⟨d, ed, ea⟩, ff⟩ := mthB_ok sm.1
    rw [show (T.G law K w).ca c = He.ga K o.name from oca eo nc, show (T.G law K w).fa p.2 = He.fAd K d.at_ from fa_of ed, ea]
    exact ⟨He.cls_ok q.2.1, He.meth_ok (List.all_eq_true.mp q.2.2.2.2.1 p pm), fnmF_not sm.2.1 sm.2.2, ff⟩
  · have h' : T.gcdB = true := h
    rw [h'] at k9
    have : optB (PySem.W.nsIn K mainGlobals "gcd") (some (some (.builtin "math.gcd"))) = true := k9
    simp only [optB, decide_eq_true_eq] at this
    exact PySem.W.mg_of KX Gm this
  · rcases allB_ok s1 e with q | ⟨d, e1, q⟩
    · exact .inl q
    · obtain ⟨fd, F⟩ := defs e1
      unfold fnB at q
      simp only [Bool.and_eq_true] at q
      obtain ⟨q1, q2, q3, q4, q5, q6, q7⟩ := q
      have par := parB_ok q3
      have S := scB_ok q2
      have nd : d.ps.Nodup := by rw [← S.pre]; exact S.nd.sublist (List.take_sublist _ _)
      refine .inr ⟨d.name, d.fd, fd, by rw [show (T.G law K w).fa g = He.fAd K d.at_ from fa_of e1]; exact F, S, fun s us _ hl => ?_, fun l nl a1 a2 s => ?_, ?_, Nat.eq_of_beq_eq_true q4, Nat.eq_of_beq_eq_true q5, Nat.le_of_ble_eq_true q6, plainN_ok q1, q7⟩
      · have hl' : us.length = d.ps.length := by rw [List.append_nil] at hl; exact hl
        have := FunD.bindsA (ps := d.ps) F (fun kV doc pm an cdv ct us hl => bind_plain par.h1 par.h2 par.h3 par.h4 par.h5 rfl nd hl) s us hl'
        rw [List.append_nil]; exact this
      · obtain ⟨oc, od, dV, kV, doc, pm, an, cdv, ct, osl, rfl, lk, hcd, hD, hK⟩ := F.ex
        rcases hD with ⟨_, rfl⟩ | ⟨e, _⟩
        · exact .of_eq (bind_kw par.h1 par.h2 par.h3 par.h4 par.h5 rfl nl a1 a2)
        · exact absurd rfl e
      · show d.ps = T.pso g
        unfold Tx.pso; rw [e1]
  · unfold Tx.tb at e
    dsimp only at e
    rw [List.getElem?_map] at e
    cases ec : T.ce[g]? with
    | none => rw [ec] at e; cases e
    | some oc =>
      rw [ec] at e
      cases oc with
      | none => cases e
      | some cc =>
        simp only [Option.map_some, Option.bind_some, Option.some.injEq] at e
        cases ei : cc.ini with
        | some z => rw [ei] at e; cases e
        | none =>
          rw [ei] at e
          obtain rfl := Option.some.inj e
          have o := one ec
          unfold ceB at o
          simp only [Bool.and_eq_true, Bool.not_eq_true', optB, decide_eq_true_eq, ei] at o
          obtain ⟨o1, o2, o3, o4, o5, o6, o7, o8, o9, o10⟩ := o
          unfold plainN at o9
          rw [Bool.and_eq_true, Bool.not_eq_true', Bool.not_eq_true', sDbg_eq, sCdc_eq] at o9
          have hca : (T.G law K w).ca g = He.ga K cc.name := ca_of ec
          rw [← hca] at o1 o2 o3 o8 o10
          subst h3
          exact mk_plain (base_facts cc.lk) o10 (by rw [h4]; exact PySem.W.mg_of KX Gm o8) o1 (raises_own o2 o3) hg (ne_eqStr o9.1)
  · unfold Tx.tb at e
    dsimp only at e
    rw [List.getElem?_map] at e
    cases ec : T.ce[g]? with
    | none => rw [ec] at e; cases e
    | some oc =>
      rw [ec] at e
      cases oc with
      | none => cases e
      | some cc =>
        simp only [Option.map_some, Option.bind_some, Option.some.injEq] at e
        cases ei : cc.ini with
        | none => rw [ei] at e; cases e
        | some z =>
          obtain ⟨f, pS, pV⟩ := z
          rw [ei] at e
          obtain rfl := Option.some.inj e
          have o := one ec
          unfold ceB at o
          simp only [Bool.and_eq_true, Bool.not_eq_true', optB, decide_eq_true_eq, ei] at o
          obtain ⟨o1, o2, o3, o4, o5, o6, o7, o8, o9, o10, o11⟩ := o
          unfold plainN at o9
          rw [Bool.and_eq_true, Bool.not_eq_true', Bool.not_eq_true', sDbg_eq, sCdc_eq] at o9
          have hca : (T.G law K w).ca g = He.ga K cc.name := ca_of ec
          obtain ⟨bd, fd, TI, TB⟩ := iniKB_ok o11 o1 o2 o3
          rw [← hca] at TI o8
          subst h1 h3
          exact mk_super TI TB (by rw [h4]; exact PySem.W.mg_none_of KX Gm (by simpa only [optB, decide_eq_true_eq] using k6)) (eqStr_ok o10) (by rw [h4]; exact PySem.W.mg_of KX Gm o8) hg (ne_eqStr o9.1) hr hs ha
  · unfold Tx.tb at e
    dsimp only at e
    rw [List.getElem?_map] at e
    cases ec : T.ce[g]? with
    | none => rw [ec] at e; cases e
    | some oc =>
      rw [ec] at e
      cases oc with
      | none => cases e
      | some cc =>
        have e' : cc.name = x := Option.some.inj (Option.some.inj e)
        subst e'
        have o := one ec
        unfold ceB at o
        simp only [Bool.and_eq_true, Bool.not_eq_true', optB, decide_eq_true_eq] at o
        obtain ⟨o1, o2, o3, o4, o5, o6, o7, o8, o9, o10⟩ := o
        unfold plainN at o9
        rw [Bool.and_eq_true, Bool.not_eq_true', Bool.not_eq_true', sDbg_eq, sCdc_eq] at o9
        have hca : (T.G law K w).ca g = He.ga K cc.name := ca_of ec
        refine ⟨ne_eqStr o9.1, by rw [hca]; exact PySem.W.mg_of KX Gm o8, fun g' e' => ?_⟩
        obtain ⟨c', ec'⟩ := eb_of e'
        rw [hca, show (T.G law K w).ca g' = He.ga K c'.name from ca_of ec']
        exact (two ec ec').1
  · obtain ⟨cc, ec⟩ := eb_of e
    have o := one ec
    unfold ceB at o
    simp only [Bool.and_eq_true, Bool.not_eq_true', optB, decide_eq_true_eq] at o
    obtain ⟨o1, o2, o3, o4, o5, o6, o7, o8, o9, o10⟩ := o
    have hca : (T.G law K w).ca g = He.ga K cc.name := ca_of ec
    rw [hca]
    refine ⟨excCB_ok o4, fun t n ht => ?_, rfl, o6⟩
    unfold kitB7 at o5
    simp only [Bool.and_eq_true, optB, decide_eq_true_eq] at o5
    obtain ⟨p1, p2, p3, p4, p5, p6, p7⟩ := o5
    unfold Tx.eb
    rw [ec]
    cases t <;> simp only [tyNE, tyN, Option.some.injEq, reduceCtorEq] at ht <;> subst ht
    · exact p1
    · exact p2
    · exact p3
    · exact p4
    · exact p5
    · exact p6
    · exact p7
  · obtain ⟨cc, ec⟩ := eb_of e
    have o := one ec
    unfold ceB at o
    simp only [Bool.and_eq_true, Bool.not_eq_true', optB, decide_eq_true_eq] at o
    obtain ⟨o1, o2, o3, o4, o5, o6, o7, o8, o9, o10⟩ := o
    have hca : (T.G law K w).ca g = He.ga K cc.name := ca_of ec
    rw [hca] at q
    have q' : T.ca K g' = He.ga K cc.name := q
    unfold Tx.ca at q'
    split at q'
    · rename_i c' ec'
      rcases (two ec ec').2 with b | b
      · exact (Nat.eq_of_beq_eq_true b).symm
      · exact absurd q'.symm b
    · split at q'
      · rename_i ob eo
        obtain ⟨kk, _⟩ := ocKAll_ok k8 eo
        unfold ocK at kk
        simp only [Bool.and_eq_true] at kk
        have := List.all_eq_true.mp kk.2.2.2.2.2 _ (List.mem_of_getElem? ec)
        dsimp only at this
        rw [q', Nat.beq_refl] at this
        cases this
      · rw [← q', Nat.beq_refl] at o7; cases o7
end

section
variable {T : Tx} {law : Fx} {prog : Program} {w : World} {K : PySem.W.Frag} {h : Heap} {mg : Str → Option Value}
theorem no_lists (kb : T.kB law prog K = true) {a : Addr} {o : Obj} (e : K.lookup a = some o) : o.cls ≠ .type "list" := fun z => by
  unfold Tx.kB at kb
  simp only [Bool.and_eq_true] at kb
  have := List.all_eq_true.mp kb.2.2.2.2.2.2.1 _ (He.lookup_mem e)
  unfold notLst at this
  rw [z] at this
  simp at this
/-- the law keeps its promise -/
theorem facts_of (KX : K.In h) (Gm : h.Ns mainGlobals mg) (c : He.SaysD [] T.fn K) (kb : T.kB law prog K = true) (st : T.stB = true) {li n Wn : Nat} {fl : Fn} {x y : Str} {f : Addr} (hl : T.fx[li]? = some (some law)) (hP : T.P[li]? = some fl) (hn : fl.neverB = false) (hy : law.at_ = (y, none)) (hps : law.ps = [x]) (hfa : mg y = some (.ref f))
    (hgy : PySem.W.nsIn K mainGlobals y = some (some (.ref (He.ga K y)))) (ev : ∀ is : List Int, is.length ≤ 63 → ∃ η, callN T.P T.glo T.eb Wn n li [.lst (is.map .int)] [] = .ok (.bl true) η) :
    ∃ fd : FuncData, (∀ (s : Shared) (v : Value), BindsTo s fd ⟨[v], []⟩ [(x, v)]) ∧ ∀ base : Heap, K.In base → base.Ns mainGlobals mg → FnOk prog w K mg base CX0 (2 * n) f fd [x] (spLaw K) := by
  obtain ⟨fd0, F0⟩ : ∃ fd, FunD K law.name law.qual law.params law.body law.scope [] [] (He.fAd K law.at_) fd := c.defs (List.mem_filterMap.mpr ⟨some law, List.mem_of_getElem? hl, rfl⟩)
  have pg : ∀ base : Heap, Pg prog w K mg base (T.G law K w) T.P T.glo T.tb T.eb T.pso := fun base => pg_of KX Gm c kb st hl
  have hf : (T.G law K w).fa li = f := by
    show T.fa law K li = f
    unfold Tx.fa
    rw [hl]
    show He.fAd K law.at_ = f
    rw [hy]
    exact Value.ref.inj (Option.some.inj ((PySem.W.mg_of KX Gm hgy).symm.trans hfa))
  have hpso : T.pso li = [x] := by unfold Tx.pso; rw [hl]; exact hps
  have lv : ∀ base : Heap, ∃ fd, FnOk prog w K mg base (L2.CX prog w) (2 * n) f fd [x] (spN (T.G law K w) T.P T.glo T.eb Wn n li) ∧ Binds K fd [x] [] ∧ KwB fd [x] ∧ (K.lookup f).map (·.data) = some (.func fd) := fun base => by
    have := fn_level (Wn := Wn) (pg base) n li fl hP hn
    rw [hf, hpso] at this
    exact this
  obtain ⟨fd, _, B, _, e1⟩ := lv h
  have rvI : ∀ {w0 : Wd} (ns : List Int), RPs (T.G law K w) w0 (ns.map Ip.D.int) (ns.map V.int) := fun {w0} ns => by
    induction ns with
    | nil => exact .nil
    | cons i r ih => exact .cons (.int i) ih
  have efd : fd0 = fd := by
    have z := fun_dat F0
    have hf' : He.fAd K law.at_ = f := by
      have : T.fa law K li = f := hf
      unfold Tx.fa at this
      rw [hl] at this
      exact this
    rw [hf', e1] at z
    injection z with z
    injection z with z
    exact z.symm
  have par : ParOk law.params [x] := by
    have s1 := st
    unfold Tx.stB at s1
    simp only [Bool.and_eq_true] at s1
    rcases allB_ok s1.1.1 hP with q | ⟨d, e, q⟩
    · rw [hn] at q; cases q
    · obtain rfl : law = d := Option.some.inj (Option.some.inj (hl.symm.trans e))
      unfold fnB at q
      simp only [Bool.and_eq_true] at q
      rw [← hps]
      exact parB_ok q.2.2.1
  refine ⟨fd, fun s v => ?_, fun base kin hns => ?_⟩
  · have := FunD.bindsA (ps := [x]) F0 (fun kV doc pm an cdv ct us hl => bind_plain par.h1 par.h2 par.h3 par.h4 par.h5 rfl (by simp) hl) s [v] rfl
    rw [efd] at this
    exact this
  · obtain ⟨fd', F', _, _, e2⟩ := lv base
    obtain rfl : fd' = fd := by
      rw [e1] at e2
      have := Option.some.inj e2
      injection this with z
      exact z.symm
    refine ⟨fun vs H Q E hs => ?_, fun A outer s H args us vs Q E hr e0 hb hv hs => ?_⟩
    · obtain ⟨a, ns, rfl, _⟩ := hs; rfl
    · obtain ⟨a, ns, rfl, hlen, hS, hQ⟩ := hs
      obtain ⟨η, hev⟩ := ev ns hlen
      let w0 : Wd := ⟨fun _ => 0, [], H, fun _ => False⟩
      have nl : ¬ w0.Live a := fun l => l.elim (fun ⟨i, c, q, _⟩ => by simp [w0] at q) (fun z => z)
      have lst : LstAt w0 a (ns.map V.int) := by
        refine ⟨?_, nl⟩
        rcases hS with (h1 | h2) | ⟨o, its, m, h1, h2, _⟩
        · exact .inl h1
        · exact .inr h2
        · exact absurd h2 (no_lists kb h1)
      have rel0 : Rel (T.G law K w) w0 := ⟨fun i c e => by simp [w0] at e, fun i j c d e => by simp [w0] at e, fun i c e => by simp [w0] at e, fun b hb => hb.elim⟩
      have run := F'.run A outer s H args us [V.ref a] Q (fun _ _ _ => False) hr e0 hb hv ⟨w0, [.lst (ns.map .int)], rfl, rel0, ⟨.inl (.lst lst (rvI ns)), trivial⟩, by
        show Out _ w0 _ _ (callN T.P T.glo T.eb Wn n li [.lst (ns.map .int)] [])
        rw [hev]
        intro w' _ _ _ v q
        rcases q with q | ⟨_, z, _⟩ | ⟨_, _, _, _, _, z, _⟩
        · cases q; exact hQ w'.H
        · cases z
        · cases z⟩
      refine codeAny_mono run fun r s' hr' => ?_
      cases r with
      | ok fl => cases fl <;> exact hr'
      | error e =>
        obtain ⟨_, _, _, _, _, _, _, _, _, _, _, _, z⟩ := hr'
        exact z.elim
end

theorem law_at {T : Tx} {law : Fx} {prog : Program} {K : PySem.W.Frag} {li : Nat} {y : Str} (kb : T.kB law prog K = true) (e : T.fnm[li]? = some (some y)) : PySem.W.nsIn K mainGlobals y = some (some (.ref (He.ga K y))) := by
  unfold Tx.kB at kb
  simp only [Bool.and_eq_true] at kb
  have a4 := List.all_eq_true.mp kb.2.2.2.1 _ (List.mem_of_getElem? e)
  simpa only [optB, decide_eq_true_eq] using a4
/-! ### the Hook -/
/-- objects at hand: the module's names, what its defs, classes and tuples need -/
def obAt (g : Addr → Option Obj) (a : Addr) : PySem.W.Frag := match g a with
  | some o => [(a, o)]
  | none => []
def obTup (g : Addr → Option Obj) : Nat → Value → PySem.W.Frag
  | n + 1, .ref a => (match g a with
    | some o => (match o.data with
      | .seq its _ => (a, o) :: its.toList.flatMap (obTup g n)
      | _ => [])
    | none => [])
  | _, _ => []
def obVal (g : Addr → Option Obj) (v : Value) : PySem.W.Frag := match v with
  | .ref a => obAt g a
  | _ => []
def obFn (g : Addr → Option Obj) (a : Addr) (o : Obj) : PySem.W.Frag := match o.data with
  | .func fd => (a, o) :: (obVal g fd.code ++ fd.closure.flatMap fun q => obAt g q.2)
  | _ => []
def obNs (g : Addr → Option Obj) (a : Addr) : PySem.W.Frag := match g a with
  | some o => (match o.data with
    | .dict es _ => (a, o) :: es.toList.flatMap fun (e : DictEntry) => (match e.val with
      | .ref b => (match g b with
        | some ob => obFn g b ob
        | none => [])
      | _ => [])
    | _ => [])
  | none => []
def obTop (g : Addr → Option Obj) (n : Nat) (v : Value) : PySem.W.Frag := match v with
  | .ref a => (match g a with
    | some o => (match o.data with
      | .func _ => obFn g a o
      | .cls cd => (a, o) :: obNs g cd.ns
      | .seq _ _ => obTup g n (.ref a)
      | _ => [])
    | none => [])
  | _ => []
def frI (g : Addr → Option Obj) (n : Nat) : PySem.W.Frag := (match g mainGlobals with
  | some o => (mainGlobals, o) :: (match o.data with
    | .dict es _ => obAt g cStatics ++ es.toList.flatMap fun (e : DictEntry) => obTop g n e.val
    | _ => [])
  | none => []).filter fun q => notLst q.2
section
variable {g : Addr → Option Obj} {p : Addr × Obj}
theorem obAt_ok {a : Addr} (h : p ∈ obAt g a) : g p.1 = some p.2 := by
  unfold obAt at h
  split at h
  · rename_i o e
    rw [List.mem_singleton] at h; subst h; exact e
  · cases h
theorem obTup_ok : ∀ {n : Nat} {v : Value}, p ∈ obTup g n v → g p.1 = some p.2
  | 0, v, h => by cases v <;> simp [obTup] at h
  | n + 1, v, h => by
    cases v <;> simp only [obTup, List.not_mem_nil] at h
    split at h
    · rename_i o e
      split at h
      · rcases List.mem_cons.mp h with rfl | h
        · exact e
        · obtain ⟨x, _, h⟩ := List.mem_flatMap.mp h
          exact obTup_ok h
      · cases h
    · cases h
theorem obVal_ok {v : Value} (h : p ∈ obVal g v) : g p.1 = some p.2 := by
  cases v <;> simp only [obVal, List.not_mem_nil] at h
  exact obAt_ok h
theorem obFn_ok {a : Addr} {o : Obj} (e : g a = some o) (h : p ∈ obFn g a o) : g p.1 = some p.2 := by
  unfold obFn at h
  split at h
  · rcases List.mem_cons.mp h with rfl | h
    · exact e
    · rcases List.mem_append.mp h with h | h
      · exact obVal_ok h
      · obtain ⟨x, _, h⟩ := List.mem_flatMap.mp h
        exact obAt_ok h
  · cases h
theorem obNs_ok {a : Addr} (h : p ∈ obNs g a) : g p.1 = some p.2 := by
  unfold obNs at h
  split at h
  · rename_i o e
    split at h
    · rcases List.mem_cons.mp h with rfl | h
      · exact e
      · obtain ⟨x, _, h⟩ := List.mem_flatMap.mp h
        skip
        split at h
        · split at h
          · exact obFn_ok ‹_› h
          · cases h
        · cases h
    · cases h
  · cases h
theorem obTop_ok {n : Nat} {v : Value} (h : p ∈ obTop g n v) : g p.1 = some p.2 := by
  unfold obTop at h
  split at h
  · split at h
    · rename_i o e
      split at h
      · exact obFn_ok e h
      · rcases List.mem_cons.mp h with rfl | h
        · exact e
        · exact obNs_ok h
      · exact obTup_ok h
      · cases h
    · cases h
  · cases h
end
theorem frI_in {h : Heap} {n : Nat} : (frI h.get? n).In h := fun a o e => by
  have m := (List.mem_filter.mp (He.lookup_mem e)).1
  split at m
  · rename_i ob eb
    rcases List.mem_cons.mp m with z | m
    · cases z; exact eb
    · split at m
      · rcases List.mem_append.mp m with m | m
        · exact obAt_ok (p := (a, o)) m
        · obtain ⟨x, _, m⟩ := List.mem_flatMap.mp m
          exact obTop_ok (p := (a, o)) m
      · cases m
  · cases m
def forceK {α : Type} : PySem.W.Frag → (PySem.W.Frag → α) → α
  | [], k => k []
  | p :: r, k => forceK r fun r' => k (p :: r')
theorem forceK_eq {α : Type} : ∀ (K : PySem.W.Frag) (k : PySem.W.Frag → α), forceK K k = k K
  | [], _ => rfl
  | p :: r, k => forceK_eq r fun r' => k (p :: r')
def obsI (n : Nat) (T : Tx) (law : Fx) (prog : Program) (g : Addr → Option Obj) : He.AlD × Bool := forceK (frI g n) fun K => (He.obsD [] T.fn K, T.kB law prog K)
def hookI (n : Nat) (T : Tx) (law : Fx) (prog : Program) : PySem.W.Hook where
  α := He.AlD × Bool
  obs := fun s => obsI n T law prog s.heap.get?
  val := fun _ => (He.valD T.fn, true)
  says := fun _ h => ∃ K : PySem.W.Frag, K.In h ∧ He.SaysD [] T.fn K ∧ T.kB law prog K = true
  of := fun _ s e => by
    have e : obsI n T law prog s.heap.get? = (He.valD T.fn, true) := e
    unfold obsI at e
    rw [forceK_eq] at e
    exact ⟨_, frI_in, (Prod.mk.inj e).1, (Prod.mk.inj e).2⟩
  keeps := fun _ _ _ ⟨K, hK, c⟩ k => ⟨K, PySem.W.Frag.In.keeps hK k, c⟩
theorem obsI_eq {n : Nat} {T : Tx} {law : Fx} {prog : Program} {g : Addr → Option Obj} {s : Shared} (h : ∀ a, g a = s.heap.get? a) : obsI n T law prog g = (hookI n T law prog).obs s := by
  have e : g = s.heap.get? := funext h
  rw [e]; rfl
/-- how a law ends -/
def okB (r : R Ip.D) : Bool := match r with
  | .ok (.bl true) _ => true
  | _ => false
theorem okB_ok {r : R Ip.D} (h : okB r = true) : ∃ η, r = .ok (.bl true) η := by
  unfold okB at h
  split at h
  · exact ⟨_, rfl⟩
  · cases h

/-! ### a call, unfolded -/
section
variable {P : List Fn} {glo : List Ip.D} {eb : Nat → Ty → Bool} {W n g : Nat} {xs : List Ip.D} {η : Hs} {f : Fn}
theorem callN_succ (hf : P[g]? = some f) (hl : Nat.beq xs.length f.np = true) : callN P glo eb W (n + 1) g xs η = callEnd f.rc η (evSs ⟨callN P glo eb W n, glo, eb, W⟩ f.body (Ip.start f xs) η) := by
  simp only [callN, hf, hl]
/-- return a() and b() -/
theorem law_two {a b : Nat} {d : Ip.D} (hf : P[g]? = some f) (hl : Nat.beq [d].length f.np = true) (hb : f.body = .cons (.ret (.and (.cons (.call a .nil) (.cons (.call b .nil) .nil)))) .nil) (ha : callN P glo eb W n a [] [] = .ok (.bl true) []) (hb' : callN P glo eb W n b [] [] = .ok (.bl true) []) :
    okB (callN P glo eb W (n + 1) g [d] []) = true := by
  rw [callN_succ hf hl, hb]
  simp only [evSs, evS, evE, evAnd, evEs, R.bind, ha, hb', tru, callEnd, fin, okB]
  cases f.rc <;> rfl
end
theorem map3 {σ α β γ : Type} {E : Option σ} {f : σ → α} {g : σ → β} {h : σ → γ} {a : α} {b : β} {c : γ} (x : E.map f = some a) (y : E.map g = some b) (z : E.map h = some c) : E.map (fun s => (f s, g s, h s)) = some (a, b, c) := by
  cases E with
  | none => cases x
  | some s => cases x; cases y; cases z; rfl
end Ip
namespace Ip
def pickB (o cl ka kb : Nat) : Ss := Ss.cons (S.ite (E.notE (E.call o (Es.nil))) (Ss.cons (S.ret (E.bl false)) (Ss.nil)) (Ss.nil)) (Ss.cons (S.ret (E.callv (E.ix (E.lst false (Es.cons (E.glo ka) (Es.cons (E.glo kb) (Es.nil)))) (E.bi false .int (Es.cons (E.cmp .eq (E.bin false .mod (E.bi false .int (Es.cons (E.ix (E.call cl (Es.cons (E.var 0) (Es.cons (E.int 1) (Es.nil)))) (E.int 0)) (Es.nil))) (E.int 4)) (E.int 3)) (Es.nil)))) (Es.nil))) (Ss.nil))
/-- two parts, one by the script's number -/
theorem law_pick {P : List Fn} {glo : List Ip.D} {eb : Nat → Ty → Bool} {W n g o cl ka kb a b : Nat} {f : Fn} {is : List Int} (hf : P[g]? = some f) (hp : f.np = 1) (hs : f.ns = 1) (hr : f.rc = false) (hb : f.body = pickB o cl ka kb)
    (hc : P[cl]? = some cellsF) (hl : is.length ≤ 63) (ga : glo[ka]? = some (.fn a)) (gb : glo[kb]? = some (.fn b))
    (eo : callN P glo eb W (n + 1) o [] [] = .ok (.bl true) []) (ea : callN P glo eb W (n + 1) a [] [] = .ok (.bl true) []) (ebb : callN P glo eb W (n + 1) b [] [] = .ok (.bl true) []) :
    okB (callN P glo eb W (n + 2) g [.lst (is.map .int)] []) = true := by
  obtain ⟨c, hcell⟩ := cells_ok (glo := glo) (eb := eb) (W := W) (n := n) hc hl
  rw [callN_succ hf (by rw [hp]; rfl), hb, hr]
  have st : start f [Ip.D.lst (is.map .int)] = [some (.lst (is.map .int))] := by unfold start; rw [hp, hs]; rfl
  rw [st]
  unfold pickB
  have e4 : eqI 4 0 = false := rfl
  cases ht : eqI (c.fmod 4) 3 <;>
  simp [evSs, evS, evE, evEs, R.bind, eo, hcell, ga, gb, ea, ebb, tru, mkL, Pr.r, getIx, dctAt, seqAt, lstAt, atI, bi, b2i, binop, oki_eq', e4, ht, cmpop, noneLoc, Ip.D.noLoc, sizeMax, callEnd, fin, okB]
end Ip
/-! some calls known beforehand; loops in parts -/
namespace Ip
section
variable (tab : Nat → Nat → List Ip.D → Hs → Option (R Ip.D)) (P : List Fn) (glo : List Ip.D) (eb : Nat → Ty → Bool) (W : Nat)
/-- callN, where some calls are looked up -/
def callO : Nat → Nat → List Ip.D → Hs → R Ip.D
  | 0, _, _, _ => .bad
  | n + 1, g, xs, η => match tab n g xs η with
    | some r => r
    | none => match P[g]? with
      | none => .bad
      | some f => match Nat.beq xs.length f.np with
        | true => callEnd f.rc η (evSs ⟨callO n, glo, eb, W⟩ f.body (Ip.start f xs) η)
        | false => .bad
end
section
variable {tab : Nat → Nat → List Ip.D → Hs → Option (R Ip.D)} {P : List Fn} {glo : List Ip.D} {eb : Nat → Ty → Bool} {W : Nat}
theorem callO_eq (h : ∀ n g xs η r, tab n g xs η = some r → callN P glo eb W (n + 1) g xs η = r) : ∀ n, callO tab P glo eb W n = callN P glo eb W n
  | 0 => by funext g xs η; rfl
  | n + 1 => by
    funext g xs η
    have ih := callO_eq h n
    unfold callO
    cases e : tab n g xs η with
    | some r => exact (h n g xs η r e).symm
    | none =>
      simp only [callN, ih]
      try rfl
/-- turns of a loop, none of which leaves it -/
def runs (asg : Ip.D → Env → Hs → R Env) (b : Env → Hs → R F) : List Ip.D → Env → Hs → R Env
  | [], env, η => .ok env η
  | x :: xs, env, η => (asg x env η).bind fun env η => (b env η).bind fun f η => match f with
    | .nx env => runs asg b xs env η
    | _ => .bad
theorem runs_ok {asg : Ip.D → Env → Hs → R Env} {b : Env → Hs → R F} {ys : List Ip.D} : ∀ {xs : List Ip.D} {env env1 : Env} {η η1 : Hs}, runs asg b xs env η = .ok env1 η1 → floop [] asg b (xs ++ ys) env η = floop [] asg b ys env1 η1
  | [], env, env1, η, η1, h => by
    cases h
    rfl
  | x :: xs, env, env1, η, η1, h => by
    rw [List.cons_append]
    conv => lhs; unfold floop
    unfold runs at h
    simp only [chk]
    cases e1 : asg x env η with
    | ex _ _ => rw [e1] at h; cases h
    | bad => rw [e1] at h; cases h
    | ok env2 η2 =>
      rw [e1] at h
      simp only [R.bind] at h ⊢
      cases e2 : b env2 η2 with
      | ex _ _ => rw [e2] at h; cases h
      | bad => rw [e2] at h; cases h
      | ok f η3 =>
        rw [e2] at h
        simp only at h ⊢
        cases f with
        | nx env3 => exact runs_ok h
        | _ => cases h
/-- a comprehension over the same value again and again -/
theorem cloop_same {asg : Ip.D → Hs → R Env} {test : Env → Hs → R Bool} {elt : Env → Hs → R Ip.D} {x d : Ip.D} {env : Env} {η : Hs} (h1 : asg x η = .ok env η) (h2 : test env η = .ok true η) (h3 : elt env η = .ok d η) (h4 : d.noLoc = true) :
    ∀ (m : Nat) (acc : List Ip.D), acc.length + m < sizeMax → cloop [] asg test elt (List.replicate m x) η acc = .ok (acc.reverse ++ List.replicate m d) η
  | 0, acc, _ => by simp [cloop, chk]
  | m + 1, acc, h => by
    have hz : Nat.blt acc.length sizeMax = true := by rw [bltN, decide_eq_true_eq]; omega
    rw [List.replicate_succ]
    unfold cloop
    simp only [chk, h1, R.bind, h2, h3, h4, hz, Bool.and_self]
    rw [cloop_same h1 h2 h3 h4 m (d :: acc) (by rw [List.length_cons]; omega)]
    simp [List.replicate_succ]
theorem alls_same : ∀ m, alls (List.replicate m (Ip.D.bl true)) = some true
  | 0 => rfl
  | m + 1 => by rw [List.replicate_succ]; simp [alls, alls_same m]
theorem comp_same {C : Ip.Cx} {elt e : E} {i : Nat} {own : List Nat} {env : Env} {η : Hs} {x d : Ip.D} {m : Nat} (h0 : evE C e env η = .ok (.tup (List.replicate m x)) η) (h1 : evE C elt ((Ip.wipe env own).set i (some x)) η = .ok d η) (h2 : d.noLoc = true) (hm : m < sizeMax) :
    evE C (.comp false elt (.name i) own (.of e) .nil) env η = .ok (.lst (List.replicate m d)) η := by
  have hc := cloop_same (asg := fun x η => (asT C (.name i) x (Ip.wipe env own) η).calm) (test := fun env η => (evIfs C .nil env η).calm) (elt := fun env η => (evE C elt env η).calm) (x := x) (d := d) (env := (Ip.wipe env own).set i (some x)) (η := η) (by rw [asT]; rfl) (by rw [evIfs]; rfl) (by rw [h1]; rfl) h2 m [] (by rw [List.length_nil, Nat.zero_add]; exact hm)
  rw [evE, evIt, h0]
  simp only [R.bind, walk, guardOf]
  rw [hc]
  simp only [List.reverse_nil, List.nil_append, mkL, Pr.r]
end
end Ip
/-! the laws' drawing of a number -/
namespace Ip
def boxF (s0 : Int) : Fn := ⟨2, 3, true, Ss.cons (S.asg (T.name 2) (E.ifx (E.cmp .lt (E.var 1) (E.bi false .len (Es.cons (E.var 0) (Es.nil)))) (E.ix (E.var 0) (E.var 1)) (E.int 0))) (Ss.cons (S.ret (E.lst true (Es.cons (E.bin false .mul (E.bi false .abs (Es.cons (E.var 2) (Es.nil))) (E.bi false .int (Es.cons (E.cmp .ge (E.bi false .abs (Es.cons (E.var 2) (Es.nil))) (E.bin false .pow (E.int 10) (E.int 18))) (Es.nil)))) (Es.cons (E.bin false .add (E.bin false .add (E.bin false .mod (E.bi false .int (Es.cons (E.var 2) (Es.nil))) (E.int 2305843009213693951)) (E.bin false .mul (E.int 39373) (E.var 1))) (E.int s0)) (Es.cons (E.int 0) (Es.nil)))))) (Ss.nil))⟩
def takeF : Fn := ⟨2, 6, false, Ss.cons (S.ite (E.cmp .gt (E.ix (E.var 0) (E.int 0)) (E.int 0)) (Ss.cons (S.asg (T.name 2) (E.bin false .mod (E.bi false .int (Es.cons (E.ix (E.var 0) (E.int 0)) (Es.nil))) (E.var 1))) (Ss.cons (S.asg (T.sub (E.var 0) (E.int 0)) (E.bin false .fdiv (E.ix (E.var 0) (E.int 0)) (E.var 1))) (Ss.cons (S.ret (E.var 2)) (Ss.nil)))) (Ss.nil)) (Ss.cons (S.asg (T.sub (E.var 0) (E.int 2)) (E.bin false .add (E.ix (E.var 0) (E.int 2)) (E.int 1))) (Ss.cons (S.asg (T.name 3) (E.bin false .mod (E.bi false .int (Es.cons (E.bin false .mul (E.bin false .add (E.ix (E.var 0) (E.int 1)) (E.bin false .mul (E.int 48271) (E.ix (E.var 0) (E.int 2)))) (E.bin false .add (E.int 39373) (E.ix (E.var 0) (E.int 2)))) (Es.nil))) (E.int 2147483647))) (Ss.cons (S.asg (T.name 4) (E.bin false .add (E.bin false .mod (E.bi false .int (Es.cons (E.var 3) (Es.nil))) (E.int 40009)) (E.int 7))) (Ss.cons (S.asg (T.name 5) (E.bin false .mod (E.bi false .int (Es.cons (E.bin false .mul (E.bin false .add (E.bin false .add (E.var 3) (E.ix (E.var 0) (E.int 2))) (E.bin false .fdiv (E.ix (E.var 0) (E.int 1)) (E.int 1000003))) (E.var 4)) (Es.nil))) (E.int 2147483629))) (Ss.cons (S.ret (E.bin false .mod (E.bi false .int (Es.cons (E.bin false .fdiv (E.bin false .mod (E.bi false .int (Es.cons (E.bin false .add (E.bin false .mul (E.var 5) (E.int 48271)) (E.var 3)) (Es.nil))) (E.int 2147483587)) (E.int 64)) (Es.nil))) (E.var 1))) (Ss.nil))))))⟩
section
variable {P : List Fn} {glo : List Ip.D} {eb : Nat → Ty → Bool} {W n g : Nat}
theorem small_b2i (b : Bool) (i : Int) : (small64 i || small64 (b2i b)) = true := by cases b <;> simp [b2i, small64, two64, bltN]
theorem box_ok {c s0 : Int} (hf : P[g]? = some (boxF s0)) : ∃ a b : Int, 0 ≤ a ∧ callN P glo eb W (n + 1) g [.lst [.int c], .int 0] [] = .ok (.loc 0) [.lst [.int a, .int b, .int 0]] := by
  refine ⟨(c.natAbs : Int) * b2i (!ltI (c.natAbs : Int) (10 ^ 18)), c.fmod 2305843009213693951 + 39373 * 0 + s0, ?_, ?_⟩
  · refine Int.mul_nonneg (Int.natCast_nonneg _) ?_
    cases (!ltI (c.natAbs : Int) (10 ^ 18)) <;> decide
  · rw [callN_succ hf rfl]
    have s1 : small64 39373 = true := rfl
    have s2 : small64 10 = true := rfl
    have z : eqI 2305843009213693951 0 = false := rfl
    have l01 : ltI 0 1 = true := rfl
    simp [boxF, start, evSs, evS, evE, evEs, R.bind, cmpop, lessD, bi, seqAt, lstAt, oki_eq', Pr.r, l01, tru, getIx, dctAt, atI, asT, binop, z, s1, s2, small_b2i, noneLoc, Ip.D.noLoc, sizeMax, mkL, callEnd, fin, plainCells, beqN, bltN]
theorem take_ok {a b K : Int} (hf : P[g]? = some takeF) (hk : 0 < K) (hk2 : K < 1073741824) : ∃ r a' c' : Int, 0 ≤ r ∧ r < K ∧ callN P glo eb W (n + 1) g [.loc 0, .int K] [.lst [.int a, .int b, .int 0]] = .ok (.int r) [.lst [.int a', .int b, .int c']] := by
  have s1 : small64 48271 = true := rfl
  have s2 : small64 39374 = true := rfl
  have z1 : eqI 2147483647 0 = false := rfl
  have z2 : eqI 40009 0 = false := rfl
  have z3 : eqI 2147483629 0 = false := rfl
  have z4 : eqI 2147483587 0 = false := rfl
  have z5 : eqI 1000003 0 = false := rfl
  have z6 : eqI 64 0 = false := rfl
  have zk : eqI K 0 = false := by rw [eqI_eq, decide_eq_false_iff_not]; omega
  have zk2 : ¬ (1073741824 ≤ K.natAbs) := by omega
  have sw : ∀ x : Int, small64 (x.fmod 40009 + 7) = true := fun x => by
    have h1 := Int.fmod_nonneg_of_pos x (show (0 : Int) < 40009 by decide)
    have h2 := Int.fmod_lt_of_pos x (show (0 : Int) < 40009 by decide)
    unfold small64 two64
    rw [bltN, decide_eq_true_eq]
    omega
  have md : ∀ x : Int, 0 ≤ x.fmod K ∧ x.fmod K < K := fun x => ⟨Int.fmod_nonneg_of_pos _ hk, Int.fmod_lt_of_pos _ hk⟩
  rw [callN_succ hf rfl]
  cases hp : ltI 0 a with
  | true =>
    refine ⟨a.fmod K, a.fdiv K, 0, (md a).1, (md a).2, ?_⟩
    simp [takeF, start, evSs, evS, evE, evEs, R.bind, getIx, dctAt, seqAt, lstAt, atI, Pr.r, cmpop, lessD, hp, tru, binop, bi, zk, zk2, oki_eq', asT, setIx, ixN, Ip.D.noLoc, callEnd, fin, bltN, beqN]
  | false =>
    let once : Int := ((b + 48271) * 39374).fmod 2147483647
    let twice : Int := ((once + 1 + b.fdiv 1000003) * (once.fmod 40009 + 7)).fmod 2147483629
    refine ⟨(((twice * 48271 + once).fmod 2147483587).fdiv 64).fmod K, a, 1, (md _).1, (md _).2, ?_⟩
    simp [takeF, start, evSs, evS, evE, evEs, R.bind, getIx, dctAt, seqAt, lstAt, atI, Pr.r, cmpop, lessD, hp, tru, binop, bi, z1, z2, z3, z4, z5, z6, zk, s1, s2, sw, oki_eq', asT, setIx, ixN, Ip.D.noLoc, callEnd, fin, bltN, beqN, once, twice]
def drawB (o tk bx cl ka kb : Nat) : Ss := Ss.cons (S.ite (E.notE (E.call o (Es.nil))) (Ss.cons (S.ret (E.bl false)) (Ss.nil)) (Ss.nil)) (Ss.cons (S.asg (T.name 1) (E.call tk (Es.cons (E.call bx (Es.cons (E.call cl (Es.cons (E.var 0) (Es.cons (E.int 1) (Es.nil)))) (Es.cons (E.int 0) (Es.nil)))) (Es.cons (E.int 2) (Es.nil))))) (Ss.cons (S.ret (E.callv (E.ix (E.lst false (Es.cons (E.glo ka) (Es.cons (E.glo kb) (Es.nil)))) (E.var 1)) (Es.nil))) (Ss.nil)))
/-- two parts, one drawn by the script's number -/
theorem law_draw {tk bx o cl ka kb pa pb : Nat} {f : Fn} {is : List Int} {s0 : Int} (hf : P[g]? = some f) (hp : f.np = 1) (hs : f.ns = 2) (hr : f.rc = false) (hb : f.body = drawB o tk bx cl ka kb)
    (hc : P[cl]? = some cellsF) (hx : P[bx]? = some (boxF s0)) (ht : P[tk]? = some takeF) (hl : is.length ≤ 63) (ga : glo[ka]? = some (.fn pa)) (gb : glo[kb]? = some (.fn pb))
    (eo : callN P glo eb W (n + 1) o [] [] = .ok (.bl true) []) (ea : ∀ a' b' c' : Int, ∃ η, callN P glo eb W (n + 1) pa [] [.lst [.int a', .int b', .int c']] = .ok (.bl true) (.lst [.int a', .int b', .int c'] :: η)) (eb' : ∀ a' b' c' : Int, ∃ η, callN P glo eb W (n + 1) pb [] [.lst [.int a', .int b', .int c']] = .ok (.bl true) (.lst [.int a', .int b', .int c'] :: η)) :
    okB (callN P glo eb W (n + 2) g [.lst (is.map .int)] []) = true := by
  obtain ⟨c, hcell⟩ := cells_ok (glo := glo) (eb := eb) (W := W) (n := n) hc hl
  obtain ⟨a, b, ha0, hbox⟩ := box_ok (glo := glo) (eb := eb) (W := W) (n := n) (c := c) hx
  obtain ⟨r, a', c', r0, r1, htake⟩ := take_ok (glo := glo) (eb := eb) (W := W) (n := n) (a := a) (b := b) (K := 2) ht (by decide) (by decide)
  obtain ⟨η1, h1⟩ := ea a' b c'
  obtain ⟨η2, h2⟩ := eb' a' b c'
  rw [callN_succ hf (by rw [hp]; rfl), hb, hr]
  have st : start f [Ip.D.lst (is.map .int)] = [some (.lst (is.map .int)), none] := by unfold start; rw [hp, hs]; rfl
  rw [st]
  unfold drawB
  have hr2 : r = 0 ∨ r = 1 := by omega
  rcases hr2 with rfl | rfl
  · cases η1 <;> simp [evSs, evS, evE, evEs, R.bind, eo, hcell, hbox, htake, ga, gb, h1, h2, tru, mkL, Pr.r, getIx, dctAt, seqAt, lstAt, atI, asT, noneLoc, Ip.D.noLoc, sizeMax, callEnd, fin, plainCells, beqN, okB]
  · cases η2 <;> simp [evSs, evS, evE, evEs, R.bind, eo, hcell, hbox, htake, ga, gb, h1, h2, tru, mkL, Pr.r, getIx, dctAt, seqAt, lstAt, atI, asT, noneLoc, Ip.D.noLoc, sizeMax, callEnd, fin, plainCells, beqN, okB]
end
end Ip
/-! a def's body, statement by statement -/
namespace Ip
section
variable {X : Cx} {s : S} {r : Ss} {env env' : Env} {η η' : Hs} {i : Nat}
theorem step_nx (h : evS X s env η = .ok (.nx env') η') : evSs X (.cons s r) env η = evSs X r env' η' := by
  rw [evSs, h]; rfl
theorem step_frz (h : freeze i env η = some (env', η')) : evSs X (.frz i r) env η = evSs X r env' η' := by
  rw [evSs, h]
theorem step_frzL (h : freezeL i env η = some η') : evSs X (.frzL i r) env η = evSs X r env η' := by
  rw [evSs, h]
theorem step_rt {d : Ip.D} (h : evS X s env η = .ok (.rt d) η') : evSs X (.cons s r) env η = .ok (.rt d) η' := by
  rw [evSs, h]; rfl
theorem for_run {t : Ip.T} {it : It} {b : Ss} {xs : List Ip.D} {g : Guard} (h : evIt X it env η = .ok (xs, g) η') : evS X (.for t it b) env η = floop g (fun d env η => asT X t d env η) (fun env η => evSs X b env η) xs env η' := by
  rw [evS, h]; rfl
variable {P : List Fn} {glo : List Ip.D} {eb : Nat → Ty → Bool} {W n g : Nat}
theorem call_by {f : Fn} {η1 : Hs} (hf : P[g]? = some f) (hl : f.np = 0) (hb : evSs ⟨callN P glo eb W n, glo, eb, W⟩ f.body (start f []) η = .ok (.rt (.bl true)) (η ++ η1)) (hc : plainCells η.length (η ++ η1) = true) : callN P glo eb W (n + 1) g [] η = .ok (.bl true) η := by
  rw [callN_succ hf (by rw [hl]; rfl), hb]
  unfold callEnd
  dsimp only
  unfold fin
  split
  · rename_i h
    rw [beqN, decide_eq_true_eq, List.length_append] at h
    have : η1 = [] := List.eq_nil_of_length_eq_zero (by omega)
    rw [this, List.append_nil]
  · try rw [if_pos hc]
    show R.ok _ ((η ++ η1).take η.length) = _
    rw [List.take_left]
end
end Ip
/-! a call's run does not look at what stands in the heap ahead of it -/
namespace Ip
mutual
def shD (k : Nat) : D → D
  | .loc i => .loc (k + i)
  | .tup xs => .tup (shDs k xs)
  | .lst xs => .lst (shDs k xs)
  | .exc g xs => .exc g (shDs k xs)
  | .non => .non
  | .bl b => .bl b
  | .int i => .int i
  | .str s => .str s
  | .fn g => .fn g
def shDs (k : Nat) : List D → List D
  | [] => []
  | x :: xs => shD k x :: shDs k xs
end
theorem shDs_map (k : Nat) : ∀ xs : List D, shDs k xs = xs.map (shD k)
  | [] => rfl
  | x :: xs => by rw [shDs, shDs_map k xs, List.map_cons]
def shO (k : Nat) (o : Option D) : Option D := o.map (shD k)
def shE (k : Nat) (e : Env) : Env := e.map (shO k)
def shP (k : Nat) (p : D × D) : D × D := (shD k p.1, shD k p.2)
def shF (k : Nat) (p : Nat × D) : Nat × D := (p.1, shD k p.2)
def shC (k : Nat) : Cell → Cell
  | .lst xs => .lst (shDs k xs)
  | .dct kvs => .dct (kvs.map (shP k))
  | .obj c fs => .obj c (fs.map (shF k))
  | .lsl xs j => .lsl (shDs k xs) (k + j)
  | .dead => .dead
section
variable (η0 : Hs)
abbrev kk : Nat := η0.length
def up (η : Hs) : Hs := η0 ++ η.map (shC η0.length)
def shR {α β : Type} (f : α → β) : R α → R β
  | .ok a h => .ok (f a) (up η0 h)
  | .ex x h => .ex (shD η0.length x) (up η0 h)
  | .bad => .bad
def shPr : Pr → Pr
  | .ok d h => .ok (shD η0.length d) (up η0 h)
  | .bad => .bad
end
section
variable {η0 : Hs} {α β γ δ : Type}
theorem sh_bind {f : α → β} {g : γ → δ} {r : R α} {k : α → Hs → R γ} {k' : β → Hs → R δ} (h : ∀ a η, k' (f a) (up η0 η) = shR η0 g (k a η)) : (shR η0 f r).bind k' = shR η0 g (r.bind k) := by
  cases r with
  | ok a η => exact h a η
  | ex x η => rfl
  | bad => rfl
theorem sh_bind' {f : α → β} {g : γ → δ} {r : R α} {r' : R β} {k : α → Hs → R γ} {k' : β → Hs → R δ} (e : r' = shR η0 f r) (h : ∀ a η, k' (f a) (up η0 η) = shR η0 g (k a η)) : r'.bind k' = shR η0 g (r.bind k) := by rw [e]; exact sh_bind h
theorem sh_calm {f : α → β} {r : R α} : (shR η0 f r).calm = shR η0 f r.calm := by cases r <;> rfl
theorem sh_r {p : Pr} : (shPr η0 p).r = shR η0 (shD η0.length) p.r := by cases p <;> rfl
theorem up_len {η : Hs} : (up η0 η).length = η0.length + η.length := by unfold up; rw [List.length_append, List.length_map]
theorem up_get {η : Hs} {i : Nat} : (up η0 η)[η0.length + i]? = (η[i]?).map (shC η0.length) := by
  unfold up
  rw [List.getElem?_append_right (Nat.le_add_right _ _), Nat.add_sub_cancel_left, List.getElem?_map]
theorem up_set {η : Hs} {i : Nat} {c : Cell} : (up η0 η).set (η0.length + i) (shC η0.length c) = up η0 (η.set i c) := by
  unfold up
  rw [List.set_append_right _ _ (Nat.le_add_right _ _), Nat.add_sub_cancel_left, List.map_set]
theorem up_app {η : Hs} {c : Cell} : up η0 η ++ [shC η0.length c] = up η0 (η ++ [c]) := by
  unfold up
  rw [List.append_assoc, List.map_append]; rfl
theorem up_take {η : Hs} {n : Nat} : (up η0 η).take (η0.length + n) = up η0 (η.take n) := by
  unfold up
  rw [List.take_append, List.take_of_length_le (Nat.le_add_right _ _), Nat.add_sub_cancel_left, List.map_take]
end
/-! ### data -/
section
variable {k : Nat}
theorem sh_noLoc : ∀ d : D, (shD k d).noLoc = d.noLoc := fun d => by cases d <;> rfl
theorem sh_isExc : ∀ d : D, (shD k d).isExc = d.isExc := fun d => by cases d <;> rfl
theorem sh_isNon : ∀ d : D, (shD k d).isNon = d.isNon := fun d => by cases d <;> rfl
theorem sh_len : ∀ xs : List D, (shDs k xs).length = xs.length := fun xs => by rw [shDs_map, List.length_map]
theorem sh_get (xs : List D) (i : Nat) : (shDs k xs)[i]? = (xs[i]?).map (shD k) := by rw [shDs_map, List.getElem?_map]
theorem sh_isEmpty (xs : List D) : (shDs k xs).isEmpty = xs.isEmpty := by cases xs <;> rfl
theorem sh_append (xs ys : List D) : shDs k (xs ++ ys) = shDs k xs ++ shDs k ys := by simp [shDs_map]
theorem sh_reverse (xs : List D) : shDs k xs.reverse = (shDs k xs).reverse := by simp [shDs_map]
theorem sh_take (xs : List D) (n : Nat) : shDs k (xs.take n) = (shDs k xs).take n := by simp [shDs_map, List.map_take]
theorem sh_drop (xs : List D) (n : Nat) : shDs k (xs.drop n) = (shDs k xs).drop n := by simp [shDs_map, List.map_drop]
theorem sh_set (xs : List D) (n : Nat) (d : D) : shDs k (xs.set n d) = (shDs k xs).set n (shD k d) := by simp [shDs_map, List.map_set]
theorem sh_dropLast (xs : List D) : shDs k xs.dropLast = (shDs k xs).dropLast := by simp [shDs_map, List.map_dropLast]
theorem sh_getLast (xs : List D) : (shDs k xs).getLast? = xs.getLast?.map (shD k) := by simp [shDs_map, List.getLast?_map]
theorem sh_rep (xs : List D) : ∀ n : Nat, shDs k (List.replicate n xs).flatten = (List.replicate n (shDs k xs)).flatten
  | 0 => rfl
  | n + 1 => by rw [List.replicate_succ, List.flatten_cons, sh_append, sh_rep xs n, List.replicate_succ, List.flatten_cons]
theorem sh_noneLoc : ∀ xs : List D, noneLoc (shDs k xs) = noneLoc xs
  | [] => rfl
  | x :: xs => by rw [shDs, noneLoc, noneLoc, sh_noLoc, sh_noneLoc xs]
mutual
theorem sh_data : ∀ (d : D) (n : Nat), (shD k d).data n = d.data n
  | .tup xs, 0 => rfl
  | .tup xs, n + 1 => by rw [shD, D.data, D.data]; exact sh_datas xs n
  | .lst xs, 0 => rfl
  | .lst xs, n + 1 => by rw [shD, D.data, D.data]; exact sh_datas xs n
  | .non, n => by rw [shD]
  | .bl _, n => by rw [shD]
  | .int _, n => by rw [shD]
  | .str _, n => by rw [shD]
  | .loc _, n => by cases n <;> rfl
  | .fn _, n => by rw [shD]
  | .exc _ _, n => by cases n <;> rfl
theorem sh_datas : ∀ (xs : List D) (n : Nat), datas (shDs k xs) n = datas xs n
  | [], n => rfl
  | x :: xs, n => by rw [shDs, datas, datas, sh_data x n, sh_datas xs n]
end
mutual
theorem sh_eqD : ∀ x y : D, eqD (shD k x) (shD k y) = eqD x y
  | .tup xs, y => by cases y <;> simp only [shD, eqD]; exact sh_eqDs xs _
  | .lst xs, y => by cases y <;> simp only [shD, eqD]; exact sh_eqDs xs _
  | .non, y => by cases y <;> simp only [shD, eqD]
  | .bl _, y => by cases y <;> simp only [shD, eqD]
  | .int _, y => by cases y <;> simp only [shD, eqD]
  | .str _, y => by cases y <;> simp only [shD, eqD]
  | .loc _, y => by cases y <;> simp only [shD, eqD]
  | .fn _, y => by cases y <;> simp only [shD, eqD]
  | .exc _ _, y => by cases y <;> simp only [shD, eqD]
theorem sh_eqDs : ∀ xs ys : List D, eqDs (shDs k xs) (shDs k ys) = eqDs xs ys
  | [], [] => rfl
  | [], _ :: _ => rfl
  | _ :: _, [] => rfl
  | x :: xs, y :: ys => by rw [shDs, shDs, eqDs, eqDs, sh_eqD x y, sh_eqDs xs ys]
end
mutual
theorem sh_alikeD : ∀ x y : D, alikeD (shD k x) (shD k y) = alikeD x y
  | .tup xs, y => by cases y <;> simp only [shD, alikeD]; exact sh_alikeDs xs _
  | .lst xs, y => by cases y <;> simp only [shD, alikeD]; exact sh_alikeDs xs _
  | .non, y => by cases y <;> simp only [shD, alikeD]
  | .bl _, y => by cases y <;> simp only [shD, alikeD]
  | .int _, y => by cases y <;> simp only [shD, alikeD]
  | .str _, y => by cases y <;> simp only [shD, alikeD]
  | .loc _, y => by cases y <;> simp only [shD, alikeD]
  | .fn _, y => by cases y <;> simp only [shD, alikeD]
  | .exc _ _, y => by cases y <;> simp only [shD, alikeD]
theorem sh_alikeDs : ∀ xs ys : List D, alikeDs (shDs k xs) (shDs k ys) = alikeDs xs ys
  | [], _ => by cases ‹List D› <;> rfl
  | _ :: _, [] => rfl
  | x :: xs, y :: ys => by rw [shDs, shDs, alikeDs, alikeDs, sh_alikeD x y, sh_alikeDs xs ys]
end
mutual
theorem sh_ltD : ∀ x y : D, ltD (shD k x) (shD k y) = ltD x y
  | .tup xs, y => by cases y <;> simp only [shD, ltD]; exact sh_ltDs xs _
  | .lst xs, y => by cases y <;> simp only [shD, ltD]; exact sh_ltDs xs _
  | .non, y => by cases y <;> simp only [shD, ltD]
  | .bl _, y => by cases y <;> simp only [shD, ltD]
  | .int _, y => by cases y <;> simp only [shD, ltD]
  | .str _, y => by cases y <;> simp only [shD, ltD]
  | .loc _, y => by cases y <;> simp only [shD, ltD]
  | .fn _, y => by cases y <;> simp only [shD, ltD]
  | .exc _ _, y => by cases y <;> simp only [shD, ltD]
theorem sh_ltDs : ∀ xs ys : List D, ltDs (shDs k xs) (shDs k ys) = ltDs xs ys
  | [], [] => rfl
  | [], _ :: _ => rfl
  | _ :: _, [] => rfl
  | x :: xs, y :: ys => by rw [shDs, shDs, ltDs, ltDs, sh_eqD x y, sh_ltDs xs ys, sh_ltD x y]
end
theorem sh_lessD (x y : D) : lessD (shD k x) (shD k y) = lessD x y := by
  have any : (if (shD k x).data 60 && (shD k y).data 60 && alikeD (shD k x) (shD k y) && !(shD k x).isNon then some (ltD (shD k x) (shD k y)) else none) = (if x.data 60 && y.data 60 && alikeD x y && !x.isNon then some (ltD x y) else none) := by
    rw [sh_data, sh_data, sh_alikeD, sh_isNon, sh_ltD]
  cases x <;> first
    | exact any
    | (cases y <;> first | exact any | rfl)
mutual
theorem sh_fits : ∀ (t : Kd) (d : D), t.fits (shD k d) = t.fits d
  | .bl, d => by cases d <;> simp only [shD, Kd.fits]
  | .int, d => by cases d <;> simp only [shD, Kd.fits]
  | .str, d => by cases d <;> simp only [shD, Kd.fits]
  | .of t, d => by cases d <;> simp only [shD, Kd.fits]; exact sh_fitAll t _
  | .tup ts, d => by cases d <;> simp only [shD, Kd.fits]; exact sh_fitEach ts _
theorem sh_fitAll : ∀ (t : Kd) (xs : List D), fitAll t (shDs k xs) = fitAll t xs
  | t, [] => by simp only [shDs, fitAll]
  | t, x :: xs => by simp only [shDs, fitAll]; rw [sh_fits t x, sh_fitAll t xs]
theorem sh_fitEach : ∀ (ts : List Kd) (xs : List D), fitEach ts (shDs k xs) = fitEach ts xs
  | [], [] => by simp only [shDs, fitEach]
  | [], _ :: _ => by simp only [shDs, fitEach]
  | _ :: _, [] => by simp only [shDs, fitEach]
  | t :: ts, x :: xs => by simp only [shDs, fitEach]; rw [sh_fits t x, sh_fitEach ts xs]
end
mutual
theorem sh_kdOf : ∀ d : D, kdOf (shD k d) = kdOf d
  | .tup [] => by simp only [shD, shDs, kdOf]
  | .tup (x :: xs) => by simp only [shD, shDs, kdOf]; rw [sh_kdOf x, sh_fitAll, sh_kdsOf xs]
  | .lst _ => by simp only [shD, kdOf]
  | .non => by simp only [shD]
  | .bl _ => by simp only [shD]
  | .int _ => by simp only [shD]
  | .str _ => by simp only [shD]
  | .loc _ => by simp only [shD, kdOf]
  | .fn _ => by simp only [shD]
  | .exc _ _ => by simp only [shD, kdOf]
theorem sh_kdsOf : ∀ xs : List D, kdsOf (shDs k xs) = kdsOf xs
  | [] => by simp only [shDs]
  | x :: xs => by simp only [shDs, kdsOf]; rw [sh_kdOf x, sh_kdsOf xs]
end
theorem sh_firstFit (ys : List D) : ∀ xs : List D, firstFit (shDs k ys) (shDs k xs) = firstFit ys xs
  | [] => rfl
  | x :: xs => by rw [shDs, firstFit, firstFit, sh_kdOf, sh_fitAll, sh_firstFit ys xs]
theorem sh_noEmpty : ∀ xs : List D, noEmpty (shDs k xs) = noEmpty xs
  | [] => rfl
  | x :: xs => by
    cases x with
    | tup ys => cases ys <;> simp only [shDs, shD, noEmpty]; exact sh_noEmpty xs
    | _ => simp only [shDs, shD, noEmpty]; exact sh_noEmpty xs
theorem sh_canSort (xs : List D) : canSort (shDs k xs) = canSort xs := by
  unfold canSort
  rw [sh_noEmpty, sh_datas]
  cases xs with
  | nil => rfl
  | cons x xs => rw [show shDs k (x :: xs) = shD k x :: shDs k xs by rw [shDs]]; congr 1; exact sh_firstFit (x :: xs) (x :: xs)
theorem sh_insL (x : D) : ∀ xs : List D, insL (shD k x) (shDs k xs) = shDs k (insL x xs)
  | [] => rfl
  | y :: ys => by
    rw [shDs, insL, insL, sh_ltD]
    split
    · rw [shDs, sh_insL x ys]
    · rw [shDs, shDs]
theorem sh_isort : ∀ xs : List D, isort (shDs k xs) = shDs k (isort xs)
  | [] => rfl
  | x :: xs => by rw [shDs, isort, isort, sh_isort xs, sh_insL]
theorem sh_isortO (xs : List D) : isortO (shDs k xs) = (isortO xs).map (shDs k) := by
  unfold isortO
  rw [sh_canSort, sh_isort]
  split <;> rfl
theorem sh_canBest (xs : List D) : canBest (shDs k xs) = canBest xs := by unfold canBest; rw [sh_datas, sh_firstFit]
theorem sh_minDs : ∀ (xs : List D) (b : D), minDs (shD k b) (shDs k xs) = shD k (minDs b xs)
  | [], b => rfl
  | x :: xs, b => by
    rw [shDs, minDs, minDs, sh_ltD]
    split <;> exact sh_minDs xs _
theorem sh_maxDs : ∀ (xs : List D) (b : D), maxDs (shD k b) (shDs k xs) = shD k (maxDs b xs)
  | [], b => rfl
  | x :: xs, b => by
    rw [shDs, maxDs, maxDs, sh_ltD]
    split <;> exact sh_maxDs xs _
theorem sh_intsO : ∀ xs : List D, intsO (shDs k xs) = intsO xs
  | [] => rfl
  | x :: xs => by cases x <;> simp only [shDs, shD, intsO]; rw [sh_intsO xs]
theorem sh_tupsO : ∀ xs : List D, tupsO (shDs k xs) = tupsO xs
  | [] => rfl
  | x :: xs => by cases x <;> simp only [shDs, shD, tupsO]; rw [sh_intsO, sh_tupsO xs]
theorem sh_alls : ∀ xs : List D, alls (shDs k xs) = alls xs
  | [] => rfl
  | x :: xs => by cases x <;> simp only [shDs, shD, alls]; rw [sh_alls xs]
theorem sh_anys : ∀ xs : List D, anys (shDs k xs) = anys xs
  | [] => rfl
  | x :: xs => by cases x <;> simp only [shDs, shD, anys]; rw [sh_anys xs]
theorem sh_memD (x : D) : ∀ xs : List D, memD (shD k x) (shDs k xs) = memD x xs
  | [] => rfl
  | y :: ys => by rw [shDs, memD, memD, sh_eqD, sh_memD x ys]
theorem sh_findD (x : D) : ∀ (xs : List D) (n : Nat), findD (shD k x) (shDs k xs) n = findD x xs n
  | [], _ => rfl
  | y :: ys, n => by rw [shDs, findD, findD, sh_eqD, sh_findD x ys]
theorem sh_countD (x : D) : ∀ xs : List D, countD (shD k x) (shDs k xs) = countD x xs
  | [] => rfl
  | y :: ys => by rw [shDs, countD, countD, sh_eqD, sh_countD x ys]
theorem sh_ints (is : List Int) : shDs k (is.map .int) = is.map .int := by rw [shDs_map, List.map_map]; rfl
mutual
theorem sh_keyD : ∀ (d : D) (n : Nat), keyD (shD k d) n = keyD d n
  | .tup xs, 0 => rfl
  | .tup xs, n + 1 => by rw [shD, keyD, keyD]; exact sh_keysD xs n
  | .lst xs, n => by cases n <;> rfl
  | .non, n => by rw [shD]
  | .bl _, n => by rw [shD]
  | .int _, n => by rw [shD]
  | .str _, n => by rw [shD]
  | .loc _, n => by cases n <;> rfl
  | .fn _, n => by rw [shD]
  | .exc _ _, n => by cases n <;> rfl
theorem sh_keysD : ∀ (xs : List D) (n : Nat), keysD (shDs k xs) n = keysD xs n
  | [], n => rfl
  | x :: xs, n => by rw [shDs, keysD, keysD, sh_keyD x n, sh_keysD xs n]
end
theorem sh_tupKey (d : D) : tupKey (shD k d) = tupKey d := by cases d <;> simp only [shD, tupKey]; exact sh_keysD _ _
theorem sh_dLook (x : D) : ∀ kvs : List (D × D), dLook (shD k x) (kvs.map (shP k)) = (dLook x kvs).map (shD k)
  | [] => rfl
  | p :: r => by
    rw [List.map_cons, dLook, dLook, show (shP k p).1 = shD k p.1 from rfl, sh_eqD]
    split
    · rfl
    · exact sh_dLook x r
theorem sh_dPut (x d : D) : ∀ kvs : List (D × D), dPut (shD k x) (shD k d) (kvs.map (shP k)) = (dPut x d kvs).map (shP k)
  | [] => rfl
  | p :: r => by
    rw [List.map_cons, dPut, dPut, show (shP k p).1 = shD k p.1 from rfl, sh_eqD]
    split
    · rfl
    · rw [List.map_cons, sh_dPut x d r]
theorem sh_fLook (f : Nat) : ∀ fs : List (Nat × D), fLook f (fs.map (shF k)) = (fLook f fs).map (shD k)
  | [] => rfl
  | p :: r => by
    rw [List.map_cons, fLook, fLook, show (shF k p).1 = p.1 from rfl]
    split
    · rfl
    · exact sh_fLook f r
theorem sh_fPut (f : Nat) (d : D) : ∀ fs : List (Nat × D), fPut f (shD k d) (fs.map (shF k)) = (fPut f d fs).map (shF k)
  | [] => rfl
  | p :: r => by
    rw [List.map_cons, fPut, fPut, show (shF k p).1 = p.1 from rfl]
    split
    · rfl
    · rw [List.map_cons, sh_fPut f d r]
mutual
theorem sh_same : ∀ x y : D, same (shD k x) (shD k y) = same x y
  | .tup xs, y => by cases y <;> simp only [shD, same]; exact sh_sames xs _
  | .lst xs, y => by cases y <;> simp only [shD, same]; exact sh_sames xs _
  | .non, y => by cases y <;> simp only [shD, same]
  | .bl _, y => by cases y <;> simp only [shD, same]
  | .int _, y => by cases y <;> simp only [shD, same]
  | .str _, y => by cases y <;> simp only [shD, same]
  | .loc i, y => by
    cases y <;> simp only [shD, same]
    rename_i j
    cases e : Nat.beq i j with
    | true => rw [Nat.eq_of_beq_eq_true e, Nat.beq_refl]
    | false =>
      cases e2 : Nat.beq (k + i) (k + j) with
      | false => rfl
      | true =>
        have := Nat.eq_of_beq_eq_true e2
        have : i = j := by omega
        rw [this, Nat.beq_refl] at e
        cases e
  | .fn _, y => by cases y <;> simp only [shD, same]
  | .exc _ _, y => by cases y <;> simp only [shD, same]
theorem sh_sames : ∀ xs ys : List D, sames (shDs k xs) (shDs k ys) = sames xs ys
  | [], [] => rfl
  | [], _ :: _ => rfl
  | _ :: _, [] => rfl
  | x :: xs, y :: ys => by rw [shDs, shDs, sames, sames, sh_same x y, sh_sames xs ys]
end
end
end Ip
namespace Ip
section
variable {η0 : Hs}
theorem sh_lstAt (d : D) (η : Hs) : lstAt (up η0 η) (shD η0.length d) = (lstAt η d).map (shDs η0.length) := by
  cases d <;> simp only [shD, lstAt, Option.map_none, Option.map_some]
  rename_i i
  rw [up_get]
  cases η[i]? with
  | none => rfl
  | some c => cases c <;> rfl
theorem sh_seqAt (d : D) (η : Hs) : seqAt (up η0 η) (shD η0.length d) = (seqAt η d).map (shDs η0.length) := by
  cases d with
  | tup xs => simp only [shD, seqAt, Option.map_some]
  | _ => simp only [seqAt, shD]; first | rfl | exact sh_lstAt (.lst _) η | exact sh_lstAt (.loc _) η
theorem sh_deref (d : D) (η : Hs) : deref (up η0 η) (shD η0.length d) = (deref η d).map (shD η0.length) := by
  cases d <;> simp only [shD, deref, Option.map_none, Option.map_some]
  rename_i i
  rw [up_get]
  cases η[i]? with
  | none => rfl
  | some c => cases c <;> simp only [Option.map_some, shC, Option.map_none, shD]
theorem sh_dctAt (d : D) (η : Hs) : dctAt (up η0 η) (shD η0.length d) = (dctAt η d).map (List.map (shP η0.length)) := by
  cases d <;> simp only [shD, dctAt, Option.map_none]
  rename_i i
  rw [up_get]
  cases η[i]? with
  | none => rfl
  | some c => cases c <;> rfl
theorem sh_tru (d : D) (η : Hs) : tru (up η0 η) (shD η0.length d) = tru η d := by
  cases d <;> simp only [shD, tru, sh_isEmpty]
  rename_i i
  rw [up_get]
  cases η[i]? with
  | none => rfl
  | some c => cases c <;> simp only [Option.map_some, shC, sh_isEmpty]
theorem sh_mkL (c : Bool) (xs : List D) (η : Hs) : mkL c (shDs η0.length xs) (up η0 η) = shPr η0 (mkL c xs η) := by
  cases c with
  | false => simp only [mkL, shPr, shD]
  | true =>
    simp only [mkL, shPr, shD, up_len]
    rw [← up_app]
    rfl
theorem sh_oki (i : Int) (η : Hs) : oki i (up η0 η) = shPr η0 (oki i η) := by
  unfold oki
  cases i with
  | ofNat n => cases n <;> rfl
  | negSucc n => cases n <;> rfl
theorem sh_bad : shPr η0 .bad = .bad := rfl
theorem sh_ok (d : D) (η : Hs) : shPr η0 (.ok d η) = .ok (shD η0.length d) (up η0 η) := rfl
theorem sh_if {c : Prop} [Decidable c] (p q : Pr) : shPr η0 (if c then p else q) = if c then shPr η0 p else shPr η0 q := by split <;> rfl
theorem sh_binop (c : Bool) (o : Op2) (x y : D) (η : Hs) : binop c o (shD η0.length x) (shD η0.length y) (up η0 η) = shPr η0 (binop c o x y η) := by
  have k := η0.length
  have add : (match lstAt (up η0 η) (shD η0.length x), lstAt (up η0 η) (shD η0.length y) with
      | some xs, some ys => if Nat.ble (xs.length + ys.length) sizeMax then mkL c (xs ++ ys) (up η0 η) else .bad
      | _, _ => .bad : Pr) = shPr η0 (match lstAt η x, lstAt η y with
      | some xs, some ys => if Nat.ble (xs.length + ys.length) sizeMax then mkL c (xs ++ ys) η else .bad
      | _, _ => .bad) := by
    rw [sh_lstAt, sh_lstAt]
    cases lstAt η x <;> cases lstAt η y <;> simp only [Option.map_none, Option.map_some, sh_bad]
    rw [sh_len, sh_len, ← sh_append, sh_if, sh_mkL, sh_bad]
  have mul : ∀ j : Int, (match lstAt (up η0 η) (shD η0.length x) with
      | some xs => if Nat.ble (xs.length * j.toNat) sizeMax && Nat.ble j.natAbs 9223372036854775807 then mkL c (List.replicate j.toNat xs).flatten (up η0 η) else .bad
      | none => .bad : Pr) = shPr η0 (match lstAt η x with
      | some xs => if Nat.ble (xs.length * j.toNat) sizeMax && Nat.ble j.natAbs 9223372036854775807 then mkL c (List.replicate j.toNat xs).flatten η else .bad
      | none => .bad) := fun j => by
    rw [sh_lstAt]
    cases lstAt η x <;> simp only [Option.map_none, Option.map_some, sh_bad]
    rw [sh_len, ← sh_rep, sh_if, sh_mkL, sh_bad]
  cases o with
  | add =>
    cases x <;> first
      | exact add
      | (cases y <;> first
        | exact add
        | (simp only [shD, binop, sh_oki, sh_if, sh_bad, sh_ok, sh_len, sh_append]))
  | sub => cases x <;> cases y <;> simp only [shD, binop, sh_oki, sh_bad]
  | mul =>
    cases y with
    | int j =>
      cases x with
      | tup xs =>
        cases j with
        | ofNat j => simp only [shD, binop, sh_oki, sh_if, sh_bad, sh_ok, sh_len, sh_isEmpty, sh_rep]
        | negSucc j =>
          have e1 : binop c .mul (shD η0.length (.tup xs)) (shD η0.length (.int (.negSucc j))) (up η0 η) = .bad := by simp [shD, binop, lstAt]
          have e2 : binop c .mul (.tup xs) (.int (.negSucc j)) η = .bad := by simp [binop, lstAt]
          rw [e1, e2]; rfl
      | int i => simp only [shD, binop, sh_oki, sh_if, sh_bad]
      | _ => exact mul j
    | _ => cases x <;> simp only [shD, binop, sh_bad]
  | fdiv => cases x <;> cases y <;> simp only [shD, binop, sh_oki, sh_bad, sh_if]
  | mod => cases x <;> cases y <;> simp only [shD, binop, sh_oki, sh_bad, sh_if]
  | pow =>
    cases x <;> cases y <;> first
      | (simp only [shD, binop, sh_bad]; done)
      | (rename_i j; cases j <;> simp only [shD, binop, sh_oki, sh_bad, sh_if])
theorem sh_atI (xs : List D) (i : Int) : atI (shDs η0.length xs) i = (atI xs i).map (shD η0.length) := by
  cases i with
  | ofNat n => simp only [atI]; exact sh_get xs n
  | negSucc n =>
    simp only [atI, sh_len]
    split
    · exact sh_get xs _
    · rfl
theorem sh_lastIx (x : D) (i : Int) (η : Hs) : lastIx (up η0 η) (shD η0.length x) i = shPr η0 (lastIx η x i) := by
  cases x <;> simp only [shD, lastIx, sh_bad]
  rename_i l
  cases i with
  | ofNat n => rfl
  | negSucc n =>
    cases n with
    | succ n => rfl
    | zero =>
      simp only [up_get]
      cases η[l]? with
      | none => rfl
      | some c => cases c <;> rfl
theorem sh_getIx (x y : D) (η : Hs) : getIx (up η0 η) (shD η0.length x) (shD η0.length y) = shPr η0 (getIx η x y) := by
  unfold getIx
  rw [sh_dctAt]
  cases dctAt η x with
  | some kvs =>
    simp only [Option.map_some, sh_tupKey, sh_dLook]
    split
    · cases dLook y kvs <;> rfl
    · rfl
  | none =>
    simp only [Option.map_none]
    cases y with
    | int i =>
      have any : (match seqAt (up η0 η) (shD η0.length x) with
          | some xs => match atI xs i with
            | some d => .ok d (up η0 η)
            | none => .bad
          | none => lastIx (up η0 η) (shD η0.length x) i : Pr) = shPr η0 (match seqAt η x with
          | some xs => match atI xs i with
            | some d => .ok d η
            | none => .bad
          | none => lastIx η x i) := by
        rw [sh_seqAt]
        cases seqAt η x with
        | none => exact sh_lastIx x i η
        | some xs =>
          simp only [Option.map_some, sh_atI]
          cases atI xs i <;> rfl
      cases x with
      | str s =>
        simp only [shD]
        split
        · cases atI s.cps.toList i <;> rfl
        · rfl
      | _ => exact any
    | _ => rfl
theorem sh_cut (xs : List D) (lo hi : Option Int) : cut (shDs η0.length xs) lo hi = shDs η0.length (cut xs lo hi) := by
  unfold cut
  rw [sh_len, sh_take, sh_drop]
theorem sh_slice (c : Bool) (x : D) (lo hi : Option Int) (η : Hs) : slice c (shD η0.length x) lo hi (up η0 η) = shPr η0 (slice c x lo hi η) := by
  have any : (match lstAt (up η0 η) (shD η0.length x) with
      | some xs => mkL c (cut xs lo hi) (up η0 η)
      | none => .bad : Pr) = shPr η0 (match lstAt η x with
      | some xs => mkL c (cut xs lo hi) η
      | none => .bad) := by
    rw [sh_lstAt]
    cases lstAt η x with
    | none => rfl
    | some xs => simp only [Option.map_some]; rw [sh_cut, sh_mkL]
  cases x with
  | tup xs => simp only [shD, slice, sh_cut, sh_ok]
  | _ => exact any
theorem sh_part (b : Bool) (d : D) : part b (shD η0.length d) = part b d := by cases b <;> cases d <;> rfl
theorem sh_setIx (o i v : D) (η : Hs) : setIx (up η0 η) (shD η0.length o) (shD η0.length i) (shD η0.length v) = (setIx η o i v).map (up η0) := by
  cases o with
  | loc l =>
    simp only [shD, setIx, up_get]
    cases η[l]? with
    | none => rfl
    | some c =>
      cases c with
      | lst xs =>
        cases i <;> simp only [Option.map_some, shC, shD, Option.map_none]
        rw [sh_len]
        cases ixN xs.length _ with
        | none => rfl
        | some j =>
          simp only [sh_noLoc]
          split
          · rw [← sh_set, show Cell.lst (shDs η0.length (xs.set j v)) = shC η0.length (.lst (xs.set j v)) from rfl, up_set]; rfl
          · rfl
      | dct kvs =>
        simp only [Option.map_some, shC, sh_tupKey, sh_noLoc, List.length_map]
        split
        · rw [sh_dPut, show Cell.dct ((dPut i v kvs).map (shP η0.length)) = shC η0.length (.dct (dPut i v kvs)) from rfl, up_set]; rfl
        · rfl
      | _ => rfl
  | _ => rfl
theorem sh_setFld (c : Nat) (o : D) (f : Nat) (v : D) (η : Hs) : setFld (up η0 η) c (shD η0.length o) f (shD η0.length v) = (setFld η c o f v).map (up η0) := by
  cases o with
  | loc l =>
    simp only [shD, setFld, up_get]
    cases η[l]? with
    | none => rfl
    | some cc =>
      cases cc with
      | obj c' fs =>
        simp only [Option.map_some, shC, sh_isExc, List.length_map]
        split
        · rw [sh_fPut, show Cell.obj c' ((fPut f v fs).map (shF η0.length)) = shC η0.length (.obj c' (fPut f v fs)) from rfl, up_set]; rfl
        · rfl
      | _ => rfl
  | _ => rfl
theorem sh_okD (d : D) : (shD η0.length d).ok = d.ok := sh_data d 60
theorem sh_cmpop (o : Cm) (x y : D) (η : Hs) : cmpop o (shD η0.length x) (shD η0.length y) (up η0 η) = cmpop o x y η := by
  have eqs : ∀ t : Bool → Bool, (match deref (up η0 η) (shD η0.length x), deref (up η0 η) (shD η0.length y) with
      | some x, some y => if x.ok && y.ok then some (t (eqD x y)) else none
      | _, _ => none) = (match deref η x, deref η y with
      | some x, some y => if x.ok && y.ok then some (t (eqD x y)) else none
      | _, _ => none) := fun t => by
    rw [sh_deref, sh_deref]
    cases deref η x <;> cases deref η y <;> simp only [Option.map_none, Option.map_some, sh_okD, sh_eqD]
  cases o with
  | eq => cases x <;> first | exact eqs id | (cases y <;> first | exact eqs id | rfl)
  | ne => cases x <;> first | exact eqs (!·) | (cases y <;> first | exact eqs (!·) | rfl)
  | lt => exact sh_lessD x y
  | gt => exact sh_lessD y x
  | le => cases x <;> cases y <;> rfl
  | ge => cases x <;> cases y <;> rfl
  | inn =>
    simp only [cmpop, sh_dctAt]
    cases dctAt η y with
    | some kvs => simp only [Option.map_some, sh_tupKey, sh_dLook, Option.isSome_map]
    | none =>
      simp only [Option.map_none, sh_seqAt]
      cases seqAt η y with
      | none => rfl
      | some ys => simp only [Option.map_some, sh_okD, sh_datas, sh_memD]
  | nin =>
    simp only [cmpop, sh_dctAt]
    cases dctAt η y with
    | some kvs => simp only [Option.map_some, sh_tupKey, sh_dLook, Option.isNone_map]
    | none =>
      simp only [Option.map_none, sh_seqAt]
      cases seqAt η y with
      | none => rfl
      | some ys => simp only [Option.map_some, sh_okD, sh_datas, sh_memD]
theorem sh_rngL {k : Nat} : ∀ (n : Nat) (i st : Int), shDs k (rngL n i st) = rngL n i st
  | 0, _, _ => rfl
  | n + 1, i, st => by
    have f : ∀ {α : Type} (i : Int) (g : Int → α), forceI i g = g i := fun i g => by cases i with
      | ofNat n => cases n <;> rfl
      | negSucc n => cases n <;> rfl
    rw [rngL, f, shDs, sh_rngL n]; rfl
theorem sh_rngItems {k : Nat} (xs : List D) : rngItems (shDs k xs) = (rngItems xs).map (shDs k) := by
  match xs with
  | [] => rfl
  | [a] => cases a <;> simp only [shDs, shD, rngItems, Option.map_none]; split <;> simp only [Option.map_some, Option.map_none, sh_rngL]
  | [a, b] => cases a <;> cases b <;> simp only [shDs, shD, rngItems, Option.map_none]; split <;> simp only [Option.map_some, Option.map_none, sh_rngL]
  | [a, b, c] => cases a <;> cases b <;> cases c <;> simp only [shDs, shD, rngItems, Option.map_none]; split <;> simp only [Option.map_some, Option.map_none, sh_rngL]
  | a :: b :: c :: d :: r => cases a <;> cases b <;> cases c <;> rfl
end
end Ip
namespace Ip
section
variable {η0 : Hs}
theorem sh_decD {k : Nat} : ∀ (n : Nat) (c : Int), shDs k (decD n c) = decD n c
  | 0, _ => rfl
  | n + 1, c => by
    have f : ∀ {α : Type} (i : Int) (g : Int → α), forceI i g = g i := fun i g => by cases i with
      | ofNat n => cases n <;> rfl
      | negSucc n => cases n <;> rfl
    rw [decD, f, f, shDs, sh_decD n]; rfl
theorem sh_setT {k : Nat} (ts : List (List Int)) : shDs k (setT ts) = setT ts := by
  unfold setT
  rw [shDs_map, List.map_map]
  exact List.map_congr_left fun c _ => by show shD k (.tup _) = _; rw [shD, sh_decD]
theorem bi_1 (c : Bool) (f : Bi) (hf : f = .abs ∨ f = .int ∨ f = .bool ∨ f = .len ∨ f = .all ∨ f = .any ∨ f = .list ∨ f = .tuple ∨ f = .sum ∨ f = .sorted ∨ f = .sset ∨ f = .str) (x y : D) (r : List D) (η : Hs) : bi c f (x :: y :: r) η = .bad := by
  rcases hf with rfl | rfl | rfl | rfl | rfl | rfl | rfl | rfl | rfl | rfl | rfl | rfl <;> cases x <;> rfl
theorem bi_0 (c : Bool) (f : Bi) (hf : f = .abs ∨ f = .int ∨ f = .bool ∨ f = .len ∨ f = .all ∨ f = .any ∨ f = .list ∨ f = .tuple ∨ f = .sum ∨ f = .sorted ∨ f = .sset ∨ f = .str) (η : Hs) : bi c f [] η = .bad := by
  rcases hf with rfl | rfl | rfl | rfl | rfl | rfl | rfl | rfl | rfl | rfl | rfl | rfl <;> rfl
/-- of two, three, four ints -/
theorem sh_many (c : Bool) (f : Bi) (hf : f = .max ∨ f = .min ∨ f = .gcd ∨ f = .comb) (x y : D) (r : List D) (η : Hs) : bi c f (shDs η0.length (x :: y :: r)) (up η0 η) = shPr η0 (bi c f (x :: y :: r) η) := by
  rcases hf with rfl | rfl | rfl | rfl
  · cases x <;> first
      | (rcases r with _ | ⟨z, _ | ⟨u, _ | ⟨t, r⟩⟩⟩ <;> rfl)
      | (cases y <;> first
        | (rcases r with _ | ⟨z, _ | ⟨u, _ | ⟨t, r⟩⟩⟩ <;> rfl)
        | (rcases r with _ | ⟨z, r⟩
           · rfl
           · cases z <;> first
               | (rcases r with _ | ⟨u, _ | ⟨t, r⟩⟩ <;> rfl)
               | (rcases r with _ | ⟨u, r⟩
                  · rfl
                  · cases u <;> (rcases r with _ | ⟨t, r⟩ <;> rfl))))
  · cases x <;> first
      | (rcases r with _ | ⟨z, _ | ⟨u, _ | ⟨t, r⟩⟩⟩ <;> rfl)
      | (cases y <;> first
        | (rcases r with _ | ⟨z, _ | ⟨u, _ | ⟨t, r⟩⟩⟩ <;> rfl)
        | (rcases r with _ | ⟨z, r⟩
           · rfl
           · cases z <;> first
               | (rcases r with _ | ⟨u, _ | ⟨t, r⟩⟩ <;> rfl)
               | (rcases r with _ | ⟨u, r⟩
                  · rfl
                  · cases u <;> (rcases r with _ | ⟨t, r⟩ <;> rfl))))
  · cases x <;> first
      | (rcases r with _ | ⟨z, r⟩ <;> rfl)
      | (cases y <;> first
        | (rcases r with _ | ⟨z, r⟩ <;> rfl)
        | (rcases r with _ | ⟨z, r⟩
           · simp only [shDs, shD, bi, sh_oki]
           · rfl))
  · cases x <;> first
      | (rcases r with _ | ⟨z, r⟩ <;> rfl)
      | (rename_i i; cases i <;> first
        | (rcases r with _ | ⟨z, r⟩ <;> rfl)
        | (cases y <;> first
          | (rcases r with _ | ⟨z, r⟩ <;> rfl)
          | (rename_i j; cases j <;> first
            | (rcases r with _ | ⟨z, r⟩ <;> rfl)
            | (rcases r with _ | ⟨z, r⟩
               · simp only [shDs, shD, bi, sh_oki]
               · rfl))))
theorem sh_bi (c : Bool) (f : Bi) (xs : List D) (η : Hs) : bi c f (shDs η0.length xs) (up η0 η) = shPr η0 (bi c f xs η) := by
  by_cases hf : f = .abs ∨ f = .int ∨ f = .bool ∨ f = .len ∨ f = .all ∨ f = .any ∨ f = .list ∨ f = .tuple ∨ f = .sum ∨ f = .sorted ∨ f = .sset ∨ f = .str
  · rcases xs with _ | ⟨x, _ | ⟨y, r⟩⟩
    · rw [bi_0 c f hf, show shDs η0.length [] = [] from rfl, bi_0 c f hf]; rfl
    · rcases hf with rfl | rfl | rfl | rfl | rfl | rfl | rfl | rfl | rfl | rfl | rfl | rfl
      · cases x <;> simp only [shDs, shD, bi, sh_oki, sh_bad]
      · cases x <;> simp only [shDs, shD, bi, sh_bad, sh_ok]
      · cases x <;> simp only [shDs, shD, bi, sh_bad, sh_ok]
      · have any : (match seqAt (up η0 η) (shD η0.length x) with
          | some ys => oki (.ofNat ys.length) (up η0 η)
          | none => .bad : Pr) = shPr η0 (match seqAt η x with
          | some ys => oki (.ofNat ys.length) η
          | none => .bad) := by
          rw [sh_seqAt]
          cases seqAt η x <;> simp only [Option.map_none, Option.map_some, sh_bad, sh_len, sh_oki]
        cases x <;> first
          | exact any
          | (simp only [shDs, shD, bi, sh_if, sh_bad, sh_ok])
      · simp only [shDs, bi, sh_lstAt]
        cases lstAt η x <;> simp only [Option.map_none, Option.map_some, sh_bad, sh_alls]
        rename_i ys
        cases alls ys <;> rfl
      · simp only [shDs, bi, sh_lstAt]
        cases lstAt η x <;> simp only [Option.map_none, Option.map_some, sh_bad, sh_anys]
        rename_i ys
        cases anys ys <;> rfl
      · simp only [shDs, bi, sh_seqAt]
        cases seqAt η x <;> simp only [Option.map_none, Option.map_some, sh_bad, sh_mkL]
      · simp only [shDs, bi, sh_seqAt]
        cases seqAt η x <;> simp only [Option.map_none, Option.map_some, sh_bad, sh_ok, shD]
      · simp only [shDs, bi, sh_seqAt]
        cases seqAt η x <;> simp only [Option.map_none, Option.map_some, sh_bad, sh_intsO]
        rename_i ys
        cases intsO ys <;> simp only [sh_bad, sh_oki]
      · simp only [shDs, bi, sh_seqAt]
        cases seqAt η x <;> simp only [Option.map_none, Option.map_some, sh_bad, sh_isortO]
        rename_i ys
        cases isortO ys <;> simp only [Option.map_none, Option.map_some, sh_bad, sh_mkL]
      · simp only [shDs, bi, sh_seqAt, sh_lstAt]
        cases seqAt η x <;> simp only [Option.map_none, Option.map_some, sh_bad, sh_intsO, sh_len]
        rename_i ys
        cases intsO ys with
        | some is => simp only [sh_if, sh_bad, ← sh_mkL, sh_ints]
        | none =>
          simp only [sh_tupsO]
          cases lstAt η x <;> cases tupsO ys <;> simp only [Option.map_none, Option.map_some, sh_bad, sh_if, ← sh_mkL, sh_setT]
      · cases x <;> rfl
    · rw [bi_1 c f hf, show shDs η0.length (x :: y :: r) = shD η0.length x :: shD η0.length y :: shDs η0.length r from rfl, bi_1 c f hf]; rfl
  · by_cases hg : f = .max ∨ f = .min ∨ f = .gcd ∨ f = .comb
    · rcases xs with _ | ⟨x, _ | ⟨y, r⟩⟩
      · rcases hg with rfl | rfl | rfl | rfl <;> rfl
      · have best : ∀ (g : D → List D → D), (∀ (b : D) (ys : List D), g (shD η0.length b) (shDs η0.length ys) = shD η0.length (g b ys)) → (match seqAt (up η0 η) (shD η0.length x) with
            | some (y :: ys) => if canBest (y :: ys) then .ok (g y ys) (up η0 η) else .bad
            | _ => .bad : Pr) = shPr η0 (match seqAt η x with
            | some (y :: ys) => if canBest (y :: ys) then .ok (g y ys) η else .bad
            | _ => .bad) := fun g hg => by
          rw [sh_seqAt]
          cases seqAt η x with
          | none => rfl
          | some ys =>
            cases ys with
            | nil => rfl
            | cons y ys =>
              simp only [Option.map_some, shDs]
              rw [show shD η0.length y :: shDs η0.length ys = shDs η0.length (y :: ys) by rw [shDs], sh_canBest, hg, sh_if]; rfl
        rcases hg with rfl | rfl | rfl | rfl
        · exact best maxDs fun b ys => sh_maxDs ys b
        · exact best minDs fun b ys => sh_minDs ys b
        · cases x <;> rfl
        · cases x <;> first | rfl | (rename_i i; cases i <;> rfl)
      · exact sh_many c f hg x y r η
    · cases f <;> first
        | (simp at hf; done)
        | (simp at hg; done)
        | (simp only [bi, sh_rngItems]; cases rngItems xs <;> simp only [Option.map_none, Option.map_some, sh_bad, sh_ok, shD, sh_mkL])
theorem sh_mt (c : Bool) (m : Mt) (o : D) (xs : List D) (η : Hs) : mt c m (shD η0.length o) (shDs η0.length xs) (up η0 η) = shPr η0 (mt c m o xs η) := by
  cases m with
  | append =>
    cases o with
    | loc l =>
      rcases xs with _ | ⟨x, _ | ⟨y, r⟩⟩
      · rfl
      · simp only [shDs, shD, mt, up_get]
        cases η[l]? with
        | none => rfl
        | some cc =>
          cases cc with
          | lst ys =>
            simp only [Option.map_some, shC, sh_noLoc, sh_len]
            have e : Cell.lst (shDs η0.length ys ++ [shD η0.length x]) = shC η0.length (.lst (ys ++ [x])) := by rw [shC, sh_append]; rfl
            rw [e, up_set]
            cases x <;> simp only [shD, sh_if, sh_bad, sh_ok]
            rename_i j
            rw [show Cell.lsl (shDs η0.length ys) (η0.length + j) = shC η0.length (.lsl ys j) from rfl, up_set]
          | _ => rfl
      · rfl
    | _ => rcases xs with _ | ⟨x, _ | ⟨y, r⟩⟩ <;> rfl
  | extend =>
    cases o with
    | loc l =>
      rcases xs with _ | ⟨x, _ | ⟨y, r⟩⟩
      · rfl
      · simp only [shDs, mt, shD, up_get, sh_lstAt]
        cases η[l]? with
        | none => cases lstAt η x <;> rfl
        | some cc =>
          cases cc with
          | lst ys =>
            cases lstAt η x with
            | none => rfl
            | some zs =>
              simp only [Option.map_some, shC, sh_len]
              rw [← sh_append, show Cell.lst (shDs η0.length (ys ++ zs)) = shC η0.length (.lst (ys ++ zs)) from rfl, up_set, sh_if]; rfl
          | _ => cases lstAt η x <;> rfl
      · rfl
    | _ => rcases xs with _ | ⟨x, _ | ⟨y, r⟩⟩ <;> rfl
  | pop =>
    cases o with
    | loc l =>
      rcases xs with _ | ⟨x, r⟩
      · simp only [shDs, mt, shD, up_get]
        cases η[l]? with
        | none => rfl
        | some cc =>
          cases cc with
          | lst ys =>
            simp only [Option.map_some, shC, sh_getLast]
            cases ys.getLast? with
            | none => rfl
            | some y =>
              simp only [Option.map_some]
              rw [← sh_dropLast, show Cell.lst (shDs η0.length ys.dropLast) = shC η0.length (.lst ys.dropLast) from rfl, up_set]; rfl
          | _ => rfl
      · rfl
    | _ => rcases xs with _ | ⟨x, r⟩ <;> rfl
  | index =>
    rcases xs with _ | ⟨x, _ | ⟨y, r⟩⟩
    · cases o <;> rfl
    · simp only [shDs, mt, sh_seqAt]
      cases seqAt η o <;> simp only [Option.map_none, Option.map_some, sh_bad, sh_okD, sh_datas, sh_findD]
      rename_i ys
      cases findD x ys 0 <;> simp only [sh_if, sh_oki, sh_bad]
    · cases o <;> rfl
  | count =>
    rcases xs with _ | ⟨x, _ | ⟨y, r⟩⟩
    · cases o <;> rfl
    · simp only [shDs, mt, sh_seqAt]
      cases seqAt η o <;> simp only [Option.map_none, Option.map_some, sh_bad, sh_okD, sh_datas, sh_countD, sh_if, sh_oki]
    · cases o <;> rfl
  | _ => cases o <;> rfl
theorem sh_recv (m : Mt) (o : D) (η : Hs) : recv m (up η0 η) (shD η0.length o) = recv m η o := by
  cases o <;> simp only [shD, recv]
  rename_i l
  rw [up_get]
  cases η[l]? with
  | none => rfl
  | some c => cases c <;> rfl
theorem sh_isTy (eb : Nat → Ty → Bool) (d : D) (t : Ty) : isTy eb (shD η0.length d) t = isTy eb d t := by cases d <;> cases t <;> rfl
theorem sh_isAny (eb : Nat → Ty → Bool) (d : D) : ∀ ts : List Ty, isAny eb (shD η0.length d) ts = isAny eb d ts
  | [] => rfl
  | t :: ts => by rw [isAny, isAny, sh_isTy, sh_isAny eb d ts]
theorem sh_isiOk (o : D) (η : Hs) : isiOk (up η0 η) (shD η0.length o) = isiOk η o := by
  cases o <;> simp only [shD, isiOk]
  rename_i l
  rw [up_get]
  cases η[l]? with
  | none => rfl
  | some c => cases c <;> rfl
theorem sh_zipD {k : Nat} : ∀ xs ys : List D, zipD (shDs k xs) (shDs k ys) = shDs k (zipD xs ys)
  | [], ys => by cases ys <;> rfl
  | _ :: _, [] => rfl
  | x :: xs, y :: ys => by rw [shDs, shDs, zipD, zipD, sh_zipD xs ys, shDs, shD]; rfl
theorem sh_enumD {k : Nat} : ∀ (n : Nat) (xs : List D), enumD n (shDs k xs) = shDs k (enumD n xs)
  | _, [] => rfl
  | n, x :: xs => by rw [shDs, enumD, enumD, sh_enumD (n + 1) xs, shDs, shD]; rfl
theorem sh_two (x y : D) (η : Hs) : two (up η0 η) (shD η0.length x) (shD η0.length y) = (two η x y).map fun p => (shDs η0.length p.1, shDs η0.length p.2) := by
  unfold two
  rw [sh_seqAt, sh_seqAt]
  cases seqAt η x <;> cases seqAt η y <;> rfl
theorem sh_walk (x : D) (η : Hs) : walk (up η0 η) (shD η0.length x) = (walk η x).map (shDs η0.length) := by
  cases x with
  | tup xs => simp only [shD, walk, Option.map_some]
  | _ => simp only [walk, shD]; first | rfl | exact sh_lstAt (.lst _) η | exact sh_lstAt (.loc _) η
def shG (k : Nat) (g : Guard) : Guard := g.map fun p => (k + p.1, shDs k p.2)
theorem sh_guardOf (x : D) (η : Hs) : guardOf (up η0 η) (shD η0.length x) = shG η0.length (guardOf η x) := by
  cases x <;> simp only [shD, guardOf, shG, List.map_nil]
  rename_i l
  rw [up_get]
  cases η[l]? with
  | none => rfl
  | some c => cases c <;> rfl
theorem sh_chk : ∀ (g : Guard) (η : Hs), chk (shG η0.length g) (up η0 η) = chk g η
  | [], _ => rfl
  | p :: r, η => by
    have ih := sh_chk r η
    show ((match (up η0 η)[η0.length + p.1]? with
      | some (.lst xs) => sames xs (shDs η0.length p.2)
      | _ => false) && chk (shG η0.length r) (up η0 η)) = _
    rw [ih, up_get, chk]
    cases η[p.1]? with
    | none => rfl
    | some c => cases c <;> simp only [Option.map_some, shC, sh_sames]
end
end Ip
namespace Ip
structure ShX (η0 : Hs) (X : Cx) : Prop where
  call : ∀ g xs η, X.call g (shDs η0.length xs) (up η0 η) = shR η0 (shD η0.length) (X.call g xs η)
  glo : ∀ (i : Nat) (d : D), X.glo[i]? = some d → shD η0.length d = d
theorem shE_get {k : Nat} (env : Env) (i : Nat) : (shE k env)[i]? = (env[i]?).map (shO k) := by unfold shE; rw [List.getElem?_map]
theorem shE_set {k : Nat} (env : Env) (i : Nat) (d : D) : (shE k env).set i (some (shD k d)) = shE k (env.set i (some d)) := by unfold shE; rw [List.map_set]; rfl
theorem shE_none {k : Nat} (env : Env) (i : Nat) : (shE k env).set i none = shE k (env.set i none) := by unfold shE; rw [List.map_set]; rfl
theorem sh_wipe {k : Nat} (env : Env) : ∀ vs : List Nat, wipe (shE k env) vs = shE k (wipe env vs)
  | [] => rfl
  | v :: vs => by rw [wipe, wipe, sh_wipe env vs, shE_none]
theorem sh_noExc {k : Nat} : ∀ env : Env, noExc (shE k env) = noExc env
  | [] => rfl
  | none :: r => by show noExc (none :: shE k r) = _; rw [noExc, noExc] <;> first | exact sh_noExc r | exact fun _ _ h => by cases h
  | some d :: r => by
    have ih := sh_noExc (k := k) r
    cases d <;> first | rfl | exact ih
theorem sh_permute {k : Nat} : ∀ (is : List Nat) (xs : List D), permute is (shDs k xs) = (permute is xs).map (shDs k)
  | [], _ => rfl
  | i :: is, xs => by
    unfold permute
    rw [sh_get, sh_permute is xs]
    cases xs[i]? <;> cases permute is xs <;> rfl
theorem sh_setAll {k : Nat} : ∀ (is : List Nat) (ds : List D) (env : Env), setAll is (shDs k ds) (shE k env) = (setAll is ds env).map (shE k)
  | [], [], _ => rfl
  | [], _ :: _, _ => rfl
  | _ :: _, [], _ => rfl
  | i :: is, d :: ds, env => by rw [shDs, setAll, setAll, shE_set, sh_setAll is ds]
def shFl (k : Nat) : F → F
  | .nx env => .nx (shE k env)
  | .rt d => .rt (shD k d)
  | .bk env => .bk (shE k env)
  | .ct env => .ct (shE k env)
section
variable {η0 : Hs}
theorem sh_cloop {g : Guard} {asg asg' : D → Hs → R Env} {test test' : Env → Hs → R Bool} {elt elt' : Env → Hs → R D} (h1 : ∀ x η, asg' (shD η0.length x) (up η0 η) = shR η0 (shE η0.length) (asg x η)) (h2 : ∀ env η, test' (shE η0.length env) (up η0 η) = shR η0 id (test env η)) (h3 : ∀ env η, elt' (shE η0.length env) (up η0 η) = shR η0 (shD η0.length) (elt env η)) :
    ∀ (xs : List D) (η : Hs) (acc : List D), cloop (shG η0.length g) asg' test' elt' (shDs η0.length xs) (up η0 η) (shDs η0.length acc) = shR η0 (shDs η0.length) (cloop g asg test elt xs η acc)
  | [], η, acc => by
    rw [shDs, cloop, cloop, sh_chk]
    cases chk g η with
    | true => simp only [shR, sh_reverse]
    | false => rfl
  | x :: xs, η, acc => by
    rw [shDs, cloop, cloop, sh_chk]
    cases chk g η with
    | false => rfl
    | true =>
      refine sh_bind' (h1 x η) fun env η => sh_bind' (h2 env η) fun b η => ?_
      cases b with
      | false => exact sh_cloop h1 h2 h3 xs η acc
      | true =>
        refine sh_bind' (h3 env η) fun d η => ?_
        simp only [sh_noLoc, sh_len]
        split
        · have := sh_cloop (g := g) h1 h2 h3 xs η (d :: acc)
          rw [shDs] at this
          exact this
        · rfl
theorem sh_cloop2 {g : Guard} {asg asg' : D → Hs → R Env} {it2 it2' : Env → Hs → R (List D × Guard)} {inner inner' : Env → List D × Guard → Hs → List D → R (List D)} (h1 : ∀ x η, asg' (shD η0.length x) (up η0 η) = shR η0 (shE η0.length) (asg x η)) (h2 : ∀ env η, it2' (shE η0.length env) (up η0 η) = shR η0 (fun p => (shDs η0.length p.1, shG η0.length p.2)) (it2 env η))
    (h3 : ∀ env p η acc, inner' (shE η0.length env) (shDs η0.length p.1, shG η0.length p.2) (up η0 η) (shDs η0.length acc) = shR η0 (shDs η0.length) (inner env p η acc)) :
    ∀ (xs : List D) (η : Hs) (acc : List D), cloop2 (shG η0.length g) asg' it2' inner' (shDs η0.length xs) (up η0 η) (shDs η0.length acc) = shR η0 (shDs η0.length) (cloop2 g asg it2 inner xs η acc)
  | [], η, acc => by
    rw [shDs, cloop2, cloop2, sh_chk]
    cases chk g η with
    | true => simp only [shR, sh_reverse]
    | false => rfl
  | x :: xs, η, acc => by
    rw [shDs, cloop2, cloop2, sh_chk]
    cases chk g η with
    | false => rfl
    | true =>
      refine sh_bind' (h1 x η) fun env η => sh_bind' (h2 env η) fun p η => sh_bind' (h3 env p η acc) fun ds η => ?_
      rw [← sh_reverse]
      exact sh_cloop2 h1 h2 h3 xs η ds.reverse
theorem sh_wloop {c c' : Env → Hs → R Bool} {b b' : Env → Hs → R F} (h1 : ∀ env η, c' (shE η0.length env) (up η0 η) = shR η0 id (c env η)) (h2 : ∀ env η, b' (shE η0.length env) (up η0 η) = shR η0 (shFl η0.length) (b env η)) :
    ∀ (n : Nat) (env : Env) (η : Hs), wloop c' b' n (shE η0.length env) (up η0 η) = shR η0 (shFl η0.length) (wloop c b n env η)
  | 0, _, _ => rfl
  | n + 1, env, η => by
    rw [wloop, wloop]
    refine sh_bind' (h1 env η) fun t η => ?_
    cases t with
    | false => rfl
    | true =>
      refine sh_bind' (h2 env η) fun f η => ?_
      cases f with
      | nx env => exact sh_wloop h1 h2 n env η
      | ct env => exact sh_wloop h1 h2 n env η
      | bk env => rfl
      | rt d => rfl
theorem sh_floop {g : Guard} {asg asg' : D → Env → Hs → R Env} {b b' : Env → Hs → R F} (h1 : ∀ x env η, asg' (shD η0.length x) (shE η0.length env) (up η0 η) = shR η0 (shE η0.length) (asg x env η)) (h2 : ∀ env η, b' (shE η0.length env) (up η0 η) = shR η0 (shFl η0.length) (b env η)) :
    ∀ (xs : List D) (env : Env) (η : Hs), floop (shG η0.length g) asg' b' (shDs η0.length xs) (shE η0.length env) (up η0 η) = shR η0 (shFl η0.length) (floop g asg b xs env η)
  | [], env, η => by
    rw [shDs, floop, floop, sh_chk]
    cases chk g η <;> rfl
  | x :: xs, env, η => by
    rw [shDs, floop, floop, sh_chk]
    cases chk g η with
    | false => rfl
    | true =>
      refine sh_bind' (h1 x env η) fun env η => sh_bind' (h2 env η) fun f η => ?_
      cases f with
      | nx env => exact sh_floop h1 h2 xs env η
      | ct env => exact sh_floop h1 h2 xs env η
      | bk env => rfl
      | rt d => rfl
variable {X : Cx} (S : ShX η0 X)
include S
theorem sh_cmp3 (o : Cm) (x y : D) (η : Hs) : (match cmpop o (shD η0.length x) (shD η0.length y) (up η0 η) with
    | some t => .ok (.bl t) (up η0 η)
    | none => .bad : R D) = shR η0 (shD η0.length) (match cmpop o x y η with
    | some t => .ok (.bl t) η
    | none => .bad) := by
  rw [sh_cmpop]
  cases cmpop o x y η <;> rfl
mutual
theorem sh_E : ∀ (e : E) (env : Env) (η : Hs), evE X e (shE η0.length env) (up η0 η) = shR η0 (shD η0.length) (evE X e env η)
  | .var i, env, η => by
    simp only [evE, shE_get]
    cases env[i]? with
    | none => rfl
    | some o => cases o <;> rfl
  | .glo k, env, η => by
    simp only [evE]
    cases e : X.glo[k]? with
    | none => rfl
    | some d => simp only [shR, S.glo k d e]
  | .int i, env, η => by simp only [evE, shR, shD]
  | .bl i, env, η => by simp only [evE, shR, shD]
  | .non, env, η => by simp only [evE, shR, shD]
  | .str i, env, η => by simp only [evE, shR, shD]
  | .bin c o a b, env, η => by
    simp only [evE]
    exact sh_bind' (sh_E a env η) fun x η => sh_bind' (sh_E b env η) fun y η => by rw [sh_binop, sh_r]
  | .neg a, env, η => by
    simp only [evE]
    exact sh_bind' (sh_E a env η) fun x η => by cases x <;> simp only [shD, sh_oki, sh_r] <;> rfl
  | .notE a, env, η => by
    simp only [evE]
    exact sh_bind' (sh_E a env η) fun x η => by rw [sh_tru]; cases tru η x <;> rfl
  | .cmp o a b, env, η => by
    simp only [evE]
    exact sh_bind' (sh_E a env η) fun x η => sh_bind' (sh_E b env η) fun y η => sh_cmp3 S o x y η
  | .chn o p a b d, env, η => by
    simp only [evE]
    refine sh_bind' (sh_E a env η) fun x η => sh_bind' (sh_E b env η) fun y η => ?_
    rw [sh_cmpop]
    cases cmpop o x y η with
    | none => rfl
    | some t => cases t with
      | false => rfl
      | true => exact sh_bind' (sh_E d env η) fun z η => sh_cmp3 S p y z η
  | .isN a, env, η => by
    simp only [evE]
    exact sh_bind' (sh_E a env η) fun x η => by cases x <;> rfl
  | .notN a, env, η => by
    simp only [evE]
    exact sh_bind' (sh_E a env η) fun x η => by cases x <;> rfl
  | .and es, env, η => by simp only [evE]; exact sh_And es env η
  | .or es, env, η => by simp only [evE]; exact sh_Or es env η
  | .ifx t a b, env, η => by
    simp only [evE]
    refine sh_bind' (sh_E t env η) fun x η => ?_
    rw [sh_tru]
    cases tru η x with
    | none => rfl
    | some t => cases t with
      | true => exact sh_E a env η
      | false => exact sh_E b env η
  | .tup es, env, η => by
    simp only [evE]
    refine sh_bind' (sh_Es es env η) fun xs η => ?_
    rw [sh_noneLoc, sh_len]
    split
    · simp only [shR, shD]
    · rfl
  | .lst c es, env, η => by
    simp only [evE]
    refine sh_bind' (sh_Es es env η) fun xs η => ?_
    rw [sh_noneLoc, sh_len]
    split
    · rw [sh_mkL, sh_r]
    · rfl
  | .ix a b, env, η => by
    simp only [evE]
    exact sh_bind' (sh_E a env η) fun x η => sh_bind' (sh_E b env η) fun y η => by rw [sh_getIx, sh_r]
  | .sl c a lo hi, env, η => by
    simp only [evE]
    refine sh_bind' (sh_E a env η) fun x η => sh_bind' (sh_E lo env η) fun l η => ?_
    rw [sh_part]
    cases part lo.isAbs l with
    | none => rfl
    | some l =>
      refine sh_bind' (sh_E hi env η) fun h η => ?_
      rw [sh_part]
      cases part hi.isAbs h with
      | none => rfl
      | some h =>
        show (slice c _ l h _).r = _
        rw [sh_slice, sh_r]
  | .rev c a, env, η => by
    simp only [evE]
    refine sh_bind' (sh_E a env η) fun x η => ?_
    have any : (match lstAt (up η0 η) (shD η0.length x) with
        | some xs => (mkL c xs.reverse (up η0 η)).r
        | none => .bad : R D) = shR η0 (shD η0.length) (match lstAt η x with
        | some xs => (mkL c xs.reverse η).r
        | none => .bad) := by
      rw [sh_lstAt]
      cases lstAt η x with
      | none => rfl
      | some xs => simp only [Option.map_some]; rw [← sh_reverse, sh_mkL, sh_r]
    cases x with
    | tup xs => simp only [shD, shR, sh_reverse]
    | _ => exact any
  | .absent, env, η => by simp only [evE, shR, shD]
  | .call g es, env, η => by
    simp only [evE]
    exact sh_bind' (sh_Es es env η) fun xs η => S.call g xs η
  | .callv f es, env, η => by
    simp only [evE]
    refine sh_bind' (sh_E f env η) fun d η => ?_
    cases d <;> first
      | rfl
      | exact sh_bind' (sh_Es es env η) fun xs η => S.call _ xs η
  | .bi c f es, env, η => by
    simp only [evE]
    exact sh_bind' (sh_Es es env η) fun xs η => by rw [sh_bi, sh_r]
  | .mt c m o es, env, η => by
    simp only [evE]
    refine sh_bind' (sh_E o env η) fun d η => ?_
    rw [sh_recv]
    cases recv m η d with
    | false => rfl
    | true => exact sh_bind' (sh_Es es env η) fun xs η => by rw [sh_mt, sh_r]
  | .isi a ts, env, η => by
    simp only [evE]
    refine sh_bind' (sh_E a env η) fun x η => ?_
    rw [sh_isiOk]
    cases isiOk η x with
    | false => rfl
    | true => simp only [sh_isAny, shR, shD]
  | .comp c elt tg own it ifs, env, η => by
    simp only [evE]
    refine sh_bind' (sh_It it env η) fun xs η => ?_
    refine sh_bind' (sh_cloop (acc := []) (fun x η => by rw [sh_wipe, sh_T tg x _ η, sh_calm]) (fun env η => by rw [sh_Ifs ifs env η, sh_calm]) (fun env η => by rw [sh_E elt env η, sh_calm]) xs.1 η) fun ds η => ?_
    rw [sh_mkL, sh_r]
  | .comp2 c elt tg own it tg2 own2 it2 ifs, env, η => by
    simp only [evE]
    refine sh_bind' (sh_It it env η) fun xs η => ?_
    refine sh_bind' (sh_cloop2 (acc := []) (fun x η => by rw [sh_wipe, sh_T tg x _ η, sh_calm]) (fun env η => by rw [sh_It it2 env η, sh_calm]) (fun env p η acc => sh_cloop (fun x η => by rw [sh_wipe, sh_T tg2 x _ η, sh_calm]) (fun env η => by rw [sh_Ifs ifs env η, sh_calm]) (fun env η => by rw [sh_E elt env η, sh_calm]) p.1 η acc) xs.1 η) fun ds η => ?_
    rw [sh_mkL, sh_r]
  | .dct, env, η => by
    simp only [evE, shR, shD, up_len]
    rw [← up_app]; rfl
  | .fld a f, env, η => by
    simp only [evE]
    refine sh_bind' (sh_E a env η) fun x η => ?_
    cases x <;> first
      | rfl
      | (simp only [shD, sh_get]; rename_i xs; cases xs[f]? <;> rfl)
  | .att c a f, env, η => by
    simp only [evE]
    refine sh_bind' (sh_E a env η) fun x η => ?_
    cases x <;> first
      | rfl
      | (simp only [shD, up_get]
         rename_i i
         cases η[i]? with
         | none => rfl
         | some cc =>
           cases cc with
           | obj c' fs =>
             simp only [Option.map_some, shC, sh_fLook]
             cases Nat.beq c c' with
             | false => rfl
             | true => cases fLook f fs <;> rfl
           | _ => rfl)
  | .newO c g es, env, η => by
    simp only [evE]
    refine sh_bind' (sh_Es es env η) fun xs η => ?_
    have e : (D.loc (up η0 η).length :: shDs η0.length xs) = shDs η0.length (.loc η.length :: xs) := by rw [shDs, shD, up_len]
    have e2 : up η0 η ++ [Cell.obj c []] = up η0 (η ++ [.obj c []]) := by rw [← up_app]; rfl
    rw [e, e2]
    refine sh_bind' (S.call g _ _) fun d η' => ?_
    cases d <;> first | rfl | (simp only [shD, shR, up_len])
  | .meth c g o es, env, η => by
    simp only [evE]
    refine sh_bind' (sh_E o env η) fun x η => ?_
    cases x <;> first
      | rfl
      | (simp only [shD, up_get]
         rename_i i
         cases η[i]? with
         | none => rfl
         | some cc =>
           cases cc with
           | obj c' fs =>
             simp only [Option.map_some, shC]
             split
             · refine sh_bind' (sh_Es es env η) fun xs η => ?_
               have e : (D.loc (η0.length + i) :: shDs η0.length xs) = shDs η0.length (.loc i :: xs) := by rw [shDs, shD]
               rw [e]
               exact S.call g _ η
             · rfl
           | _ => rfl)
  | .callk g perm es, env, η => by
    simp only [evE]
    refine sh_bind' (sh_Es es env η) fun xs η => ?_
    rw [sh_permute]
    cases permute perm xs with
    | none => rfl
    | some ys => exact S.call g ys η
  | .never, env, η => by simp only [evE]; rfl
theorem sh_And : ∀ (es : Es) (env : Env) (η : Hs), evAnd X es (shE η0.length env) (up η0 η) = shR η0 (shD η0.length) (evAnd X es env η)
  | .nil, env, η => by simp only [evAnd]; rfl
  | .star _ _, env, η => by simp only [evAnd]; rfl
  | .cons e .nil, env, η => by simp only [evAnd]; exact sh_E e env η
  | .cons e (.cons a r), env, η => by
    simp only [evAnd]
    refine sh_bind' (sh_E e env η) fun x η => ?_
    rw [sh_tru]
    cases tru η x with
    | none => rfl
    | some t => cases t with
      | true => exact sh_And (.cons a r) env η
      | false => rfl
  | .cons e (.star a r), env, η => by
    simp only [evAnd]
    refine sh_bind' (sh_E e env η) fun x η => ?_
    rw [sh_tru]
    cases tru η x with
    | none => rfl
    | some t => cases t <;> rfl
theorem sh_Or : ∀ (es : Es) (env : Env) (η : Hs), evOr X es (shE η0.length env) (up η0 η) = shR η0 (shD η0.length) (evOr X es env η)
  | .nil, env, η => by simp only [evOr]; rfl
  | .star _ _, env, η => by simp only [evOr]; rfl
  | .cons e .nil, env, η => by simp only [evOr]; exact sh_E e env η
  | .cons e (.cons a r), env, η => by
    simp only [evOr]
    refine sh_bind' (sh_E e env η) fun x η => ?_
    rw [sh_tru]
    cases tru η x with
    | none => rfl
    | some t => cases t with
      | false => exact sh_Or (.cons a r) env η
      | true => rfl
  | .cons e (.star a r), env, η => by
    simp only [evOr]
    refine sh_bind' (sh_E e env η) fun x η => ?_
    rw [sh_tru]
    cases tru η x with
    | none => rfl
    | some t => cases t <;> rfl
theorem sh_Es : ∀ (es : Es) (env : Env) (η : Hs), evEs X es (shE η0.length env) (up η0 η) = shR η0 (shDs η0.length) (evEs X es env η)
  | .nil, env, η => by simp only [evEs, shR, shDs]
  | .cons e r, env, η => by
    simp only [evEs]
    exact sh_bind' (sh_E e env η) fun x η => sh_bind' (sh_Es r env η) fun xs η => by simp only [shR, shDs]
  | .star e r, env, η => by
    simp only [evEs]
    refine sh_bind' (sh_E e env η) fun x η => ?_
    rw [sh_seqAt]
    cases seqAt η x with
    | none => rfl
    | some ys => exact sh_bind' (sh_Es r env η) fun xs η => by simp only [shR, sh_append]
theorem sh_Ifs : ∀ (es : Es) (env : Env) (η : Hs), evIfs X es (shE η0.length env) (up η0 η) = shR η0 id (evIfs X es env η)
  | .nil, env, η => by simp only [evIfs, shR, id]
  | .star _ _, env, η => by simp only [evIfs]; rfl
  | .cons e .nil, env, η => by
    simp only [evIfs]
    exact sh_bind' (sh_E e env η) fun x η => by rw [sh_tru]; cases tru η x <;> rfl
  | .cons e (.cons a r), env, η => by simp only [evIfs]; rfl
  | .cons e (.star a r), env, η => by simp only [evIfs]; rfl
theorem sh_It : ∀ (it : It) (env : Env) (η : Hs), evIt X it (shE η0.length env) (up η0 η) = shR η0 (fun p => (shDs η0.length p.1, shG η0.length p.2)) (evIt X it env η)
  | .of e, env, η => by
    simp only [evIt]
    refine sh_bind' (sh_E e env η) fun x η => ?_
    rw [sh_walk]
    cases walk η x with
    | none => rfl
    | some xs => simp only [Option.map_some, shR, sh_guardOf]
  | .rng es, env, η => by
    simp only [evIt]
    refine sh_bind' (sh_Es es env η) fun xs η => ?_
    rw [sh_rngItems]
    cases rngItems xs <;> rfl
  | .zip a b, env, η => by
    simp only [evIt]
    refine sh_bind' (sh_E a env η) fun x η => sh_bind' (sh_E b env η) fun y η => ?_
    rw [sh_two]
    cases two η x y with
    | none => rfl
    | some p => simp only [Option.map_some, shR, sh_guardOf, sh_zipD, shG, List.map_append]
  | .enum a, env, η => by
    simp only [evIt]
    refine sh_bind' (sh_E a env η) fun x η => ?_
    rw [sh_seqAt]
    cases seqAt η x with
    | none => rfl
    | some xs => simp only [Option.map_some, shR, sh_guardOf, sh_enumD]
theorem sh_T : ∀ (t : T) (d : D) (env : Env) (η : Hs), asT X t (shD η0.length d) (shE η0.length env) (up η0 η) = shR η0 (shE η0.length) (asT X t d env η)
  | .name i, d, env, η => by simp only [asT, shR, shE_set]
  | .tup ts, d, env, η => by
    simp only [asT]
    cases d <;> first
      | rfl
      | (simp only [shD, sh_len]
         split
         · exact sh_Ts ts _ env η
         · rfl)
  | .sub o i, d, env, η => by
    simp only [asT]
    refine sh_bind' (sh_E o env η) fun x η => sh_bind' (sh_E i env η) fun y η => ?_
    rw [sh_setIx]
    cases setIx η x y d <;> rfl
  | .fld c o f, d, env, η => by
    simp only [asT]
    refine sh_bind' (sh_E o env η) fun x η => ?_
    rw [sh_setFld]
    cases setFld η c x f d <;> rfl
theorem sh_Ts : ∀ (ts : Ts) (ds : List D) (env : Env) (η : Hs), asTs X ts (shDs η0.length ds) (shE η0.length env) (up η0 η) = shR η0 (shE η0.length) (asTs X ts ds env η)
  | .nil, [], env, η => by simp only [shDs, asTs, shR]
  | .nil, _ :: _, env, η => by simp only [shDs, asTs]; rfl
  | .cons t r, [], env, η => by simp only [shDs, asTs]; rfl
  | .cons t r, x :: xs, env, η => by
    simp only [shDs, asTs]
    exact sh_bind' (sh_T t x env η) fun env η => sh_Ts r xs env η
end
mutual
theorem sh_S : ∀ (s : Ip.S) (env : Env) (η : Hs), evS X s (shE η0.length env) (up η0 η) = shR η0 (shFl η0.length) (evS X s env η)
  | .asg t e, env, η => by
    simp only [evS]
    exact sh_bind' (sh_E S e env η) fun d η => sh_bind' (sh_T S t d env η) fun env η => rfl
  | .par ts es, env, η => by
    simp only [evS]
    refine sh_bind' (sh_Es S es env η) fun ds η => ?_
    rw [sh_len]
    split
    · exact sh_bind' (sh_Ts S ts ds env η) fun env η => rfl
    · rfl
  | .swp is es, env, η => by
    simp only [evS]
    refine sh_bind' (sh_Es S es env η) fun ds η => ?_
    rw [sh_setAll]
    cases setAll is ds env <;> rfl
  | .aug i o e, env, η => by
    simp only [evS, shE_get]
    cases env[i]? with
    | none => rfl
    | some od =>
      cases od with
      | none => rfl
      | some d =>
        cases d <;> first
          | rfl
          | (simp only [Option.map_some, shO, shD]
             refine sh_bind' (sh_E S e env η) fun y η => ?_
             have ea : ∀ x : Int, augI o x (shD η0.length y) = augI o x y := fun x => by cases o <;> cases y <;> rfl
             rw [ea]
             rename_i x
             cases augI o x y with
             | none => rfl
             | some z =>
               have f : ∀ {α : Type} (i : Int) (g : Int → α), forceI i g = g i := fun i g => by cases i with
                 | ofNat n => cases n <;> rfl
                 | negSucc n => cases n <;> rfl
               simp only [f, shR, shFl]
               rw [← shE_set]; rfl)
  | .expr e, env, η => by
    simp only [evS]
    exact sh_bind' (sh_E S e env η) fun d η => rfl
  | .ret e, env, η => by
    simp only [evS]
    exact sh_bind' (sh_E S e env η) fun d η => rfl
  | .retN, env, η => by simp only [evS, shR, shFl, shD]
  | .ite c a b, env, η => by
    simp only [evS]
    refine sh_bind' (sh_E S c env η) fun x η => ?_
    rw [sh_tru]
    cases tru η x with
    | none => rfl
    | some t => cases t with
      | true => exact sh_Ss a env η
      | false => exact sh_Ss b env η
  | .whl c b, env, η => by
    simp only [evS]
    exact sh_wloop (fun env η => sh_bind' (sh_E S c env η) fun x η => by rw [sh_tru]; cases tru η x <;> rfl) (fun env η => sh_Ss b env η) X.W env η
  | .for t it b, env, η => by
    simp only [evS]
    refine sh_bind' (sh_It S it env η) fun xs η => ?_
    exact sh_floop (fun d env η => sh_T S t d env η) (fun env η => sh_Ss b env η) xs.1 env η
  | .raise g es, env, η => by
    simp only [evS]
    refine sh_bind' (sh_Es S es env η) fun xs η => ?_
    rw [sh_noneLoc]
    cases noneLoc xs <;> rfl
  | .tryE B b hs, env, η => by
    simp only [evS]
    rw [sh_Ss b env η]
    cases evSs X b env η with
    | ok f η => rfl
    | bad => rfl
    | ex x η =>
      show evHd X hs (shD η0.length x) (wipe (shE η0.length env) B) (up η0 η) = _
      rw [sh_wipe]
      exact sh_Hd hs x _ η
  | .pass, env, η => by simp only [evS]; rfl
  | .brk, env, η => by simp only [evS]; rfl
  | .cont, env, η => by simp only [evS]; rfl
  | .never, env, η => by simp only [evS]; rfl
theorem sh_Ss : ∀ (s : Ss) (env : Env) (η : Hs), evSs X s (shE η0.length env) (up η0 η) = shR η0 (shFl η0.length) (evSs X s env η)
  | .nil, env, η => by simp only [evSs]; rfl
  | .cons s r, env, η => by
    simp only [evSs]
    refine sh_bind' (sh_S s env η) fun f η => ?_
    cases f with
    | nx env => exact sh_Ss r env η
    | _ => rfl
  | .frz i r, env, η => by
    simp only [evSs]
    have e : freeze i (shE η0.length env) (up η0 η) = (freeze i env η).map fun p => (shE η0.length p.1, up η0 p.2) := by
      unfold freeze
      rw [shE_get]
      cases env[i]? with
      | none => rfl
      | some o =>
        cases o with
        | none => rfl
        | some d =>
          cases d <;> first
            | rfl
            | (simp only [Option.map_some, shO, shD, up_get]
               rename_i l
               cases η[l]? with
               | none => rfl
               | some c =>
                 cases c <;> simp only [Option.map_some, Option.map_none, shC]
                 rename_i xs
                 rw [← shE_set, ← up_set]; rfl)
    rw [e]
    cases freeze i env η with
    | none => rfl
    | some p => exact sh_Ss r p.1 p.2
  | .frzL i r, env, η => by
    simp only [evSs]
    have e : freezeL i (shE η0.length env) (up η0 η) = (freezeL i env η).map (up η0) := by
      unfold freezeL
      rw [shE_get]
      cases env[i]? with
      | none => rfl
      | some o =>
        cases o with
        | none => rfl
        | some d =>
          cases d <;> first
            | rfl
            | (simp only [Option.map_some, shO, shD, up_get]
               rename_i l
               cases η[l]? with
               | none => rfl
               | some c =>
                 cases c <;> simp only [Option.map_some, Option.map_none, shC]
                 rename_i xs j
                 rw [up_get]
                 cases η[j]? with
                 | none => rfl
                 | some c =>
                   cases c <;> simp only [Option.map_some, Option.map_none, shC]
                   rename_i ys
                   have e1 : (up η0 η).set (η0.length + j) Cell.dead = up η0 (η.set j .dead) := up_set (c := .dead)
                   have e2 : Cell.lst (shDs η0.length xs ++ [D.lst (shDs η0.length ys)]) = shC η0.length (.lst (xs ++ [.lst ys])) := by rw [shC, sh_append, shDs, shD]; rfl
                   rw [e1, e2, up_set])
    rw [e]
    cases freezeL i env η with
    | none => rfl
    | some η => exact sh_Ss r env η
theorem sh_Hd : ∀ (h : Hd) (x : D) (env : Env) (η : Hs), evHd X h (shD η0.length x) (shE η0.length env) (up η0 η) = shR η0 (shFl η0.length) (evHd X h x env η)
  | .nil, x, env, η => by simp only [evHd]; rfl
  | .cons g slot b r, x, env, η => by
    simp only [evHd]
    cases x with
    | exc g' xs =>
      simp only [shD]
      cases X.eb g' .other with
      | false => rfl
      | true =>
        dsimp only
        cases Nat.beq g g' with
        | false =>
          have := sh_Hd r (.exc g' xs) env η
          simp only [shD] at this
          exact this
        | true =>
          dsimp only
          cases slot with
          | some i =>
            have e : (shE η0.length env).set i (some (.exc g' (shDs η0.length xs))) = shE η0.length (env.set i (some (.exc g' xs))) := by rw [← shE_set, shD]
            dsimp only
            rw [e, sh_Ss b _ η, sh_calm]
            refine sh_bind fun f η => ?_
            cases f with
            | nx env =>
              simp only [shFl, shE_none, sh_noExc]
              split <;> rfl
            | rt d =>
              simp only [shFl, sh_noLoc]
              split <;> rfl
            | bk env => rfl
            | ct env => rfl
          | none =>
            dsimp only
            rw [sh_Ss b _ η, sh_calm]
            refine sh_bind fun f η => ?_
            cases f with
            | nx env =>
              simp only [shFl, sh_noExc]
              split <;> rfl
            | rt d =>
              simp only [shFl, sh_noLoc]
              split <;> rfl
            | bk env => rfl
            | ct env => rfl
    | _ => rfl
end
end
/-! calls -/
section
variable {η0 : Hs}
theorem plain_up : ∀ {η0 : Hs} {k : Nat} {n : Nat} {η : Hs}, plainCells η0.length η0 = true → plainCells (η0.length + n) (η0 ++ η.map (shC k)) = plainCells n η
  | [], k, n, η, _ => by
    rw [List.nil_append, List.length_nil, Nat.zero_add]
    induction n generalizing η with
    | zero => cases η <;> rfl
    | succ n ih =>
      cases η with
      | nil => rfl
      | cons c r => cases c <;> first | rfl | exact ih (η := r)
  | c :: r, k, n, η, h => by
    have e : (c :: r).length + n = (r.length + n) + 1 := by rw [List.length_cons]; omega
    rw [e, List.cons_append]
    cases c <;> first
      | (simp only [plainCells, List.length_cons] at h ⊢; exact plain_up h)
      | (simp only [plainCells, List.length_cons, reduceCtorEq] at h)
theorem sh_fin (hp : plainCells η0.length η0 = true) (rc : Bool) (n : Nat) (d : D) (η : Hs) : fin rc (η0.length + n) (shD η0.length d) (up η0 η) = shR η0 (shD η0.length) (fin rc n d η) := by
  unfold fin
  rw [up_len, show Nat.beq (η0.length + η.length) (η0.length + n) = Nat.beq η.length n from by
    cases e : Nat.beq η.length n with
    | true => rw [Nat.eq_of_beq_eq_true e, Nat.beq_refl]
    | false =>
      cases e2 : Nat.beq (η0.length + η.length) (η0.length + n) with
      | false => rfl
      | true =>
        have := Nat.eq_of_beq_eq_true e2
        have : η.length = n := by omega
        rw [this, Nat.beq_refl] at e
        cases e]
  split
  · rfl
  · rw [show plainCells (η0.length + n) (up η0 η) = plainCells n η from plain_up hp]
    split
    · cases d with
      | loc i =>
        simp only [shD, up_take, up_get]
        rw [show Nat.blt (η0.length + i) (η0.length + n) = Nat.blt i n from by
          cases e : Nat.blt i n with
          | true => exact Nat.ble_eq.mpr (by have := Nat.ble_eq.mp e; omega)
          | false =>
            cases e2 : Nat.blt (η0.length + i) (η0.length + n) with
            | false => rfl
            | true =>
              have := Nat.ble_eq.mp e2
              have : Nat.blt i n = true := Nat.ble_eq.mpr (by omega)
              rw [this] at e
              cases e]
        split
        · rfl
        · cases η[i]? with
          | none => rfl
          | some c =>
            cases c <;> simp only [Option.map_some, shC] <;> first
              | rfl
              | (rw [sh_mkL, sh_r])
      | _ => simp only [shD, up_take] <;> rfl
    · rfl
theorem sh_start {k : Nat} (f : Fn) (xs : List D) : start f (shDs k xs) = shE k (start f xs) := by
  unfold start shE
  rw [List.map_append, List.map_replicate, shDs_map, List.map_map, List.map_map]
  rfl
theorem sh_callEnd (hp : plainCells η0.length η0 = true) (rc : Bool) (η : Hs) (r : R F) : callEnd rc (up η0 η) (shR η0 (shFl η0.length) r) = shR η0 (shD η0.length) (callEnd rc η r) := by
  cases r with
  | bad => rfl
  | ex x η' =>
    simp only [shR, callEnd, up_len]
    rw [show plainCells (η0.length + η.length) (up η0 η') = plainCells η.length η' from plain_up hp]
    split
    · simp only [shR, up_take]
    · rfl
  | ok f η' =>
    cases f with
    | rt d => simp only [shR, shFl, callEnd, up_len]; exact sh_fin hp rc η.length d η'
    | nx env => simp only [shR, shFl, callEnd, up_len]; exact sh_fin hp rc η.length .non η'
    | bk env => rfl
    | ct env => rfl
/-- a call's run, wherever it is -/
theorem sh_call {P : List Fn} {glo : List D} {eb : Nat → Ty → Bool} {W : Nat} (hp : plainCells η0.length η0 = true) (hg : ∀ (i : Nat) (d : D), glo[i]? = some d → shD η0.length d = d) : ∀ (n g : Nat) (xs : List D) (η : Hs), callN P glo eb W n g (shDs η0.length xs) (up η0 η) = shR η0 (shD η0.length) (callN P glo eb W n g xs η)
  | 0, _, _, _ => rfl
  | n + 1, g, xs, η => by
    have ih := sh_call (W := W) (P := P) (eb := eb) hp hg n
    simp only [callN]
    cases P[g]? with
    | none => rfl
    | some f =>
      simp only [sh_len]
      cases Nat.beq xs.length f.np with
      | false => rfl
      | true =>
        dsimp only
        rw [sh_start, sh_Ss (X := ⟨callN P glo eb W n, glo, eb, W⟩) ⟨ih, hg⟩ f.body _ η, sh_callEnd hp]
/-- what holds no place -/
def freeG (glo : List D) : Bool := glo.all fun d => match d with
  | .fn _ => true
  | d => d.data 60
mutual
theorem sh_dat {k : Nat} : ∀ (d : D) (n : Nat), d.data n = true → shD k d = d
  | .tup xs, 0, h => by cases h
  | .tup xs, n + 1, h => by rw [shD, sh_dats xs n (by simpa only [D.data] using h)]
  | .lst xs, 0, h => by cases h
  | .lst xs, n + 1, h => by rw [shD, sh_dats xs n (by simpa only [D.data] using h)]
  | .non, _, _ => rfl
  | .bl _, _, _ => rfl
  | .int _, _, _ => rfl
  | .str _, _, _ => rfl
  | .loc _, n, h => by cases n <;> cases h
  | .fn _, n, h => by cases n <;> cases h
  | .exc _ _, n, h => by cases n <;> cases h
theorem sh_dats {k : Nat} : ∀ (xs : List D) (n : Nat), datas xs n = true → shDs k xs = xs
  | [], _, _ => rfl
  | x :: xs, n, h => by
    simp only [datas, Bool.and_eq_true] at h
    rw [shDs, sh_dat x n h.1, sh_dats xs n h.2]
end
theorem freeG_ok {k : Nat} {glo : List D} (h : freeG glo = true) : ∀ (i : Nat) (d : D), glo[i]? = some d → shD k d = d := fun i d e => by
  have := List.all_eq_true.mp h d (List.mem_of_getElem? e)
  cases d <;> first
    | rfl
    | exact sh_dat _ 60 this
/-- a call that is known of the empty heap -/
theorem call_at {P : List Fn} {glo : List D} {eb : Nat → Ty → Bool} {W n g : Nat} {xs : List D} {d : D} {m : Nat} (hp : plainCells η0.length η0 = true) (hg : freeG glo = true) (hx : datas xs m = true) (hd : d.data m = true) (h : callN P glo eb W n g xs [] = .ok d []) : callN P glo eb W n g xs η0 = .ok d η0 := by
  have := sh_call (η0 := η0) (P := P) (eb := eb) (W := W) hp (freeG_ok hg) n g xs []
  rw [h, sh_dats xs m hx] at this
  simp only [shR, sh_dat d m hd, up, List.map_nil, List.append_nil] at this
  exact this
end
end Ip
/-! more calls left change nothing -/
namespace Ip
def Le {α : Type} (r r' : R α) : Prop := r = .bad ∨ r' = r
theorem Le.rf {α : Type} (r : R α) : Le r r := .inr rfl
theorem Le.bad {α : Type} (r : R α) : Le .bad r := .inl rfl
theorem Le.bind {α β : Type} {r r' : R α} {k k' : α → Hs → R β} (h : Le r r') (hk : ∀ a η, Le (k a η) (k' a η)) : Le (r.bind k) (r'.bind k') := by
  rcases h with rfl | rfl
  · exact .inl rfl
  · cases r' with
    | ok a η => exact hk a η
    | ex x η => exact .inr rfl
    | bad => exact .inr rfl
theorem Le.calm {α : Type} {r r' : R α} (h : Le r r') : Le r.calm r'.calm := by
  rcases h with rfl | rfl
  · exact .inl rfl
  · exact .inr rfl
theorem Le.trans {α : Type} {a b c : R α} (h : Le a b) (k : Le b c) : Le a c := by
  rcases h with rfl | rfl
  · exact .inl rfl
  · rcases k with rfl | rfl
    · exact .inl rfl
    · exact .inr rfl
theorem Le.ok {α : Type} {r r' : R α} (h : Le r r') {a : α} {η : Hs} (e : r = .ok a η) : r' = .ok a η := by
  rcases h with rfl | rfl
  · cases e
  · exact e
theorem le_cloop {g : Guard} {asg asg' : D → Hs → R Env} {test test' : Env → Hs → R Bool} {elt elt' : Env → Hs → R D} (h1 : ∀ x η, Le (asg x η) (asg' x η)) (h2 : ∀ env η, Le (test env η) (test' env η)) (h3 : ∀ env η, Le (elt env η) (elt' env η)) : ∀ (xs : List D) (η : Hs) (acc : List D), Le (cloop g asg test elt xs η acc) (cloop g asg' test' elt' xs η acc)
  | [], η, acc => .inr rfl
  | x :: xs, η, acc => by
    rw [cloop, cloop]
    cases chk g η with
    | false => exact .inr rfl
    | true =>
      refine Le.bind (h1 x η) fun env η => Le.bind (h2 env η) fun b η => ?_
      cases b with
      | false => exact le_cloop h1 h2 h3 xs η acc
      | true =>
        refine Le.bind (h3 env η) fun d η => ?_
        split
        · exact le_cloop h1 h2 h3 xs η (d :: acc)
        · exact .inr rfl
theorem le_cloop2 {g : Guard} {asg asg' : D → Hs → R Env} {it2 it2' : Env → Hs → R (List D × Guard)} {inner inner' : Env → List D × Guard → Hs → List D → R (List D)} (h1 : ∀ x η, Le (asg x η) (asg' x η)) (h2 : ∀ env η, Le (it2 env η) (it2' env η)) (h3 : ∀ env p η acc, Le (inner env p η acc) (inner' env p η acc)) :
    ∀ (xs : List D) (η : Hs) (acc : List D), Le (cloop2 g asg it2 inner xs η acc) (cloop2 g asg' it2' inner' xs η acc)
  | [], η, acc => .inr rfl
  | x :: xs, η, acc => by
    rw [cloop2, cloop2]
    cases chk g η with
    | false => exact .inr rfl
    | true => exact Le.bind (h1 x η) fun env η => Le.bind (h2 env η) fun p η => Le.bind (h3 env p η acc) fun ds η => le_cloop2 h1 h2 h3 xs η _
theorem le_wloop {c c' : Env → Hs → R Bool} {b b' : Env → Hs → R F} (h1 : ∀ env η, Le (c env η) (c' env η)) (h2 : ∀ env η, Le (b env η) (b' env η)) : ∀ (n m : Nat), n ≤ m → ∀ (env : Env) (η : Hs), Le (wloop c b n env η) (wloop c' b' m env η)
  | 0, m, _, _, _ => .inl rfl
  | n + 1, 0, h, _, _ => absurd h (Nat.not_succ_le_zero n)
  | n + 1, m + 1, h, env, η => by
    rw [wloop, wloop]
    refine Le.bind (h1 env η) fun t η => ?_
    cases t with
    | false => exact .inr rfl
    | true =>
      refine Le.bind (h2 env η) fun f η => ?_
      cases f with
      | nx env => exact le_wloop h1 h2 n m (Nat.le_of_succ_le_succ h) env η
      | ct env => exact le_wloop h1 h2 n m (Nat.le_of_succ_le_succ h) env η
      | bk env => exact .inr rfl
      | rt d => exact .inr rfl
theorem le_floop {g : Guard} {asg asg' : D → Env → Hs → R Env} {b b' : Env → Hs → R F} (h1 : ∀ x env η, Le (asg x env η) (asg' x env η)) (h2 : ∀ env η, Le (b env η) (b' env η)) : ∀ (xs : List D) (env : Env) (η : Hs), Le (floop g asg b xs env η) (floop g asg' b' xs env η)
  | [], env, η => .inr rfl
  | x :: xs, env, η => by
    rw [floop, floop]
    cases chk g η with
    | false => exact .inr rfl
    | true =>
      refine Le.bind (h1 x env η) fun env η => Le.bind (h2 env η) fun f η => ?_
      cases f with
      | nx env => exact le_floop h1 h2 xs env η
      | ct env => exact le_floop h1 h2 xs env η
      | bk env => exact .inr rfl
      | rt d => exact .inr rfl
section
variable {call call' : Nat → List D → Hs → R D} {glo : List D} {eb : Nat → Ty → Bool} {W W' : Nat} (hc : ∀ g xs η, Le (call g xs η) (call' g xs η)) (hw : W ≤ W')
include hc hw
mutual
theorem le_E : ∀ (e : E) (env : Env) (η : Hs), Le (evE ⟨call, glo, eb, W⟩ e env η) (evE ⟨call', glo, eb, W'⟩ e env η)
  | .var i, env, η => by simp only [evE]; exact .inr rfl
  | .glo k, env, η => by simp only [evE]; exact .inr rfl
  | .int i, env, η => by simp only [evE]; exact .inr rfl
  | .bl i, env, η => by simp only [evE]; exact .inr rfl
  | .non, env, η => by simp only [evE]; exact .inr rfl
  | .str i, env, η => by simp only [evE]; exact .inr rfl
  | .bin c o a b, env, η => by simp only [evE]; exact Le.bind (le_E a env η) fun x η => Le.bind (le_E b env η) fun y η => .inr rfl
  | .neg a, env, η => by simp only [evE]; exact Le.bind (le_E a env η) fun x η => .inr rfl
  | .notE a, env, η => by simp only [evE]; exact Le.bind (le_E a env η) fun x η => .inr rfl
  | .cmp o a b, env, η => by simp only [evE]; exact Le.bind (le_E a env η) fun x η => Le.bind (le_E b env η) fun y η => .inr rfl
  | .chn o p a b d, env, η => by
    simp only [evE]
    refine Le.bind (le_E a env η) fun x η => Le.bind (le_E b env η) fun y η => ?_
    split
    · exact Le.bind (le_E d env η) fun z η => .inr rfl
    · exact .inr rfl
    · exact .inr rfl
  | .isN a, env, η => by simp only [evE]; exact Le.bind (le_E a env η) fun x η => .inr rfl
  | .notN a, env, η => by simp only [evE]; exact Le.bind (le_E a env η) fun x η => .inr rfl
  | .and es, env, η => by simp only [evE]; exact le_And es env η
  | .or es, env, η => by simp only [evE]; exact le_Or es env η
  | .ifx t a b, env, η => by
    simp only [evE]
    refine Le.bind (le_E t env η) fun x η => ?_
    split
    · exact le_E a env η
    · exact le_E b env η
    · exact .inr rfl
  | .tup es, env, η => by simp only [evE]; exact Le.bind (le_Es es env η) fun x η => .inr rfl
  | .lst c es, env, η => by simp only [evE]; exact Le.bind (le_Es es env η) fun x η => .inr rfl
  | .ix a b, env, η => by simp only [evE]; exact Le.bind (le_E a env η) fun x η => Le.bind (le_E b env η) fun y η => .inr rfl
  | .sl c a lo hi, env, η => by
    simp only [evE]
    refine Le.bind (le_E a env η) fun x η => Le.bind (le_E lo env η) fun l η => ?_
    split
    · exact .inr rfl
    · exact Le.bind (le_E hi env η) fun h η => .inr rfl
  | .rev c a, env, η => by simp only [evE]; exact Le.bind (le_E a env η) fun x η => .inr rfl
  | .absent, env, η => by simp only [evE]; exact .inr rfl
  | .call g es, env, η => by simp only [evE]; exact Le.bind (le_Es es env η) fun xs η => hc g xs η
  | .callv f es, env, η => by
    simp only [evE]
    refine Le.bind (le_E f env η) fun d η => ?_
    split
    · exact Le.bind (le_Es es env η) fun xs η => hc _ xs η
    · exact .inr rfl
  | .bi c f es, env, η => by simp only [evE]; exact Le.bind (le_Es es env η) fun x η => .inr rfl
  | .mt c m o es, env, η => by
    simp only [evE]
    refine Le.bind (le_E o env η) fun d η => ?_
    split
    · exact Le.bind (le_Es es env η) fun x η => .inr rfl
    · exact .inr rfl
  | .isi a ts, env, η => by simp only [evE]; exact Le.bind (le_E a env η) fun x η => .inr rfl
  | .comp c elt tg own it ifs, env, η => by
    simp only [evE]
    exact Le.bind (le_It it env η) fun xs η => Le.bind (le_cloop (fun x η => (le_T tg x _ η).calm) (fun env η => (le_Ifs ifs env η).calm) (fun env η => (le_E elt env η).calm) xs.1 η []) fun ds η => .inr rfl
  | .comp2 c elt tg own it tg2 own2 it2 ifs, env, η => by
    simp only [evE]
    exact Le.bind (le_It it env η) fun xs η => Le.bind (le_cloop2 (fun x η => (le_T tg x _ η).calm) (fun env η => (le_It it2 env η).calm) (fun env p η acc => le_cloop (fun x η => (le_T tg2 x _ η).calm) (fun env η => (le_Ifs ifs env η).calm) (fun env η => (le_E elt env η).calm) p.1 η acc) xs.1 η []) fun ds η => .inr rfl
  | .dct, env, η => by simp only [evE]; exact .inr rfl
  | .fld a f, env, η => by simp only [evE]; exact Le.bind (le_E a env η) fun x η => .inr rfl
  | .att c a f, env, η => by simp only [evE]; exact Le.bind (le_E a env η) fun x η => .inr rfl
  | .newO c g es, env, η => by simp only [evE]; exact Le.bind (le_Es es env η) fun xs η => Le.bind (hc g _ _) fun d η' => .inr rfl
  | .meth c g o es, env, η => by
    simp only [evE]
    refine Le.bind (le_E o env η) fun x η => ?_
    split
    · split
      · split
        · exact Le.bind (le_Es es env η) fun xs η => hc g _ η
        · exact .inr rfl
      · exact .inr rfl
    · exact .inr rfl
  | .callk g perm es, env, η => by
    simp only [evE]
    refine Le.bind (le_Es es env η) fun xs η => ?_
    split
    · exact hc g _ η
    · exact .inr rfl
  | .never, env, η => by simp only [evE]; exact .inr rfl
theorem le_And : ∀ (es : Es) (env : Env) (η : Hs), Le (evAnd ⟨call, glo, eb, W⟩ es env η) (evAnd ⟨call', glo, eb, W'⟩ es env η)
  | .nil, env, η => by simp only [evAnd]; exact .inr rfl
  | .star _ _, env, η => by simp only [evAnd]; exact .inr rfl
  | .cons e .nil, env, η => by simp only [evAnd]; exact le_E e env η
  | .cons e (.cons a r), env, η => by
    simp only [evAnd]
    refine Le.bind (le_E e env η) fun x η => ?_
    split
    · exact le_And (.cons a r) env η
    · exact .inr rfl
    · exact .inr rfl
  | .cons e (.star a r), env, η => by
    simp only [evAnd]
    exact Le.bind (le_E e env η) fun x η => .inr rfl
theorem le_Or : ∀ (es : Es) (env : Env) (η : Hs), Le (evOr ⟨call, glo, eb, W⟩ es env η) (evOr ⟨call', glo, eb, W'⟩ es env η)
  | .nil, env, η => by simp only [evOr]; exact .inr rfl
  | .star _ _, env, η => by simp only [evOr]; exact .inr rfl
  | .cons e .nil, env, η => by simp only [evOr]; exact le_E e env η
  | .cons e (.cons a r), env, η => by
    simp only [evOr]
    refine Le.bind (le_E e env η) fun x η => ?_
    split
    · exact .inr rfl
    · exact le_Or (.cons a r) env η
    · exact .inr rfl
  | .cons e (.star a r), env, η => by
    simp only [evOr]
    exact Le.bind (le_E e env η) fun x η => .inr rfl
theorem le_Es : ∀ (es : Es) (env : Env) (η : Hs), Le (evEs ⟨call, glo, eb, W⟩ es env η) (evEs ⟨call', glo, eb, W'⟩ es env η)
  | .nil, env, η => by simp only [evEs]; exact .inr rfl
  | .cons e r, env, η => by simp only [evEs]; exact Le.bind (le_E e env η) fun x η => Le.bind (le_Es r env η) fun xs η => .inr rfl
  | .star e r, env, η => by
    simp only [evEs]
    refine Le.bind (le_E e env η) fun x η => ?_
    split
    · exact Le.bind (le_Es r env η) fun xs η => .inr rfl
    · exact .inr rfl
theorem le_Ifs : ∀ (es : Es) (env : Env) (η : Hs), Le (evIfs ⟨call, glo, eb, W⟩ es env η) (evIfs ⟨call', glo, eb, W'⟩ es env η)
  | .nil, env, η => by simp only [evIfs]; exact .inr rfl
  | .star _ _, env, η => by simp only [evIfs]; exact .inr rfl
  | .cons e .nil, env, η => by simp only [evIfs]; exact Le.bind (le_E e env η) fun x η => .inr rfl
  | .cons e (.cons a r), env, η => by simp only [evIfs]; exact .inr rfl
  | .cons e (.star a r), env, η => by simp only [evIfs]; exact .inr rfl
theorem le_It : ∀ (it : It) (env : Env) (η : Hs), Le (evIt ⟨call, glo, eb, W⟩ it env η) (evIt ⟨call', glo, eb, W'⟩ it env η)
  | .of e, env, η => by simp only [evIt]; exact Le.bind (le_E e env η) fun x η => .inr rfl
  | .rng es, env, η => by simp only [evIt]; exact Le.bind (le_Es es env η) fun x η => .inr rfl
  | .zip a b, env, η => by simp only [evIt]; exact Le.bind (le_E a env η) fun x η => Le.bind (le_E b env η) fun y η => .inr rfl
  | .enum a, env, η => by simp only [evIt]; exact Le.bind (le_E a env η) fun x η => .inr rfl
theorem le_T : ∀ (t : T) (d : D) (env : Env) (η : Hs), Le (asT ⟨call, glo, eb, W⟩ t d env η) (asT ⟨call', glo, eb, W'⟩ t d env η)
  | .name i, d, env, η => by simp only [asT]; exact .inr rfl
  | .tup ts, d, env, η => by
    simp only [asT]
    split
    · split
      · exact le_Ts ts _ env η
      · exact .inr rfl
    · exact .inr rfl
  | .sub o i, d, env, η => by simp only [asT]; exact Le.bind (le_E o env η) fun x η => Le.bind (le_E i env η) fun y η => .inr rfl
  | .fld c o f, d, env, η => by simp only [asT]; exact Le.bind (le_E o env η) fun x η => .inr rfl
theorem le_Ts : ∀ (ts : Ts) (ds : List D) (env : Env) (η : Hs), Le (asTs ⟨call, glo, eb, W⟩ ts ds env η) (asTs ⟨call', glo, eb, W'⟩ ts ds env η)
  | .nil, [], env, η => by simp only [asTs]; exact .inr rfl
  | .nil, _ :: _, env, η => by simp only [asTs]; exact .inr rfl
  | .cons t r, [], env, η => by simp only [asTs]; exact .inr rfl
  | .cons t r, x :: xs, env, η => by simp only [asTs]; exact Le.bind (le_T t x env η) fun env η => le_Ts r xs env η
end
mutual
theorem le_S : ∀ (s : S) (env : Env) (η : Hs), Le (evS ⟨call, glo, eb, W⟩ s env η) (evS ⟨call', glo, eb, W'⟩ s env η)
  | .asg t e, env, η => by simp only [evS]; exact Le.bind (le_E hc hw e env η) fun d η => Le.bind (le_T hc hw t d env η) fun env η => .inr rfl
  | .par ts es, env, η => by
    simp only [evS]
    refine Le.bind (le_Es hc hw es env η) fun ds η => ?_
    split
    · exact Le.bind (le_Ts hc hw ts ds env η) fun env η => .inr rfl
    · exact .inr rfl
  | .swp is es, env, η => by simp only [evS]; exact Le.bind (le_Es hc hw es env η) fun ds η => .inr rfl
  | .aug i o e, env, η => by
    simp only [evS]
    split
    · exact Le.bind (le_E hc hw e env η) fun ds η => .inr rfl
    · exact .inr rfl
  | .expr e, env, η => by simp only [evS]; exact Le.bind (le_E hc hw e env η) fun ds η => .inr rfl
  | .ret e, env, η => by simp only [evS]; exact Le.bind (le_E hc hw e env η) fun ds η => .inr rfl
  | .retN, env, η => by simp only [evS]; exact .inr rfl
  | .ite c a b, env, η => by
    simp only [evS]
    refine Le.bind (le_E hc hw c env η) fun x η => ?_
    split
    · exact le_Ss a env η
    · exact le_Ss b env η
    · exact .inr rfl
  | .whl c b, env, η => by
    simp only [evS]
    exact le_wloop (fun env η => Le.bind (le_E hc hw c env η) fun x η => .inr rfl) (fun env η => le_Ss b env η) W W' hw env η
  | .for t it b, env, η => by
    simp only [evS]
    exact Le.bind (le_It hc hw it env η) fun xs η => le_floop (fun d env η => le_T hc hw t d env η) (fun env η => le_Ss b env η) xs.1 env η
  | .raise g es, env, η => by simp only [evS]; exact Le.bind (le_Es hc hw es env η) fun ds η => .inr rfl
  | .tryE B b hs, env, η => by
    simp only [evS]
    rcases le_Ss b env η with e | e
    · rw [e]; exact .inl rfl
    · rw [e]
      split
      · exact .inr rfl
      · exact .inr rfl
      · exact le_Hd hs _ _ _
  | .pass, env, η => by simp only [evS]; exact .inr rfl
  | .brk, env, η => by simp only [evS]; exact .inr rfl
  | .cont, env, η => by simp only [evS]; exact .inr rfl
  | .never, env, η => by simp only [evS]; exact .inr rfl
theorem le_Ss : ∀ (s : Ss) (env : Env) (η : Hs), Le (evSs ⟨call, glo, eb, W⟩ s env η) (evSs ⟨call', glo, eb, W'⟩ s env η)
  | .nil, env, η => by simp only [evSs]; exact .inr rfl
  | .cons s r, env, η => by
    simp only [evSs]
    refine Le.bind (le_S s env η) fun f η => ?_
    split
    · exact le_Ss r _ η
    · exact .inr rfl
  | .frz i r, env, η => by
    simp only [evSs]
    split
    · exact le_Ss r _ _
    · exact .inr rfl
  | .frzL i r, env, η => by
    simp only [evSs]
    split
    · exact le_Ss r _ _
    · exact .inr rfl
theorem le_Hd : ∀ (h : Hd) (x : D) (env : Env) (η : Hs), Le (evHd ⟨call, glo, eb, W⟩ h x env η) (evHd ⟨call', glo, eb, W'⟩ h x env η)
  | .nil, x, env, η => by simp only [evHd]; exact .inr rfl
  | .cons g slot b r, x, env, η => by
    simp only [evHd]
    split
    · split
      · split
        · split
          · exact Le.bind (le_Ss b _ η).calm fun f η => .inr rfl
          · exact Le.bind (le_Ss b _ η).calm fun f η => .inr rfl
        · exact le_Hd r _ env η
      · exact .inr rfl
    · exact .inr rfl
end
end
theorem le_callEnd {rc : Bool} {η : Hs} {r r' : R F} (h : Le r r') : Le (callEnd rc η r) (callEnd rc η r') := by
  rcases h with rfl | rfl
  · exact .inl rfl
  · exact .inr rfl
theorem le_call {P : List Fn} {glo : List D} {eb : Nat → Ty → Bool} {W W' : Nat} (hw : W ≤ W') : ∀ (n m : Nat), n ≤ m → ∀ (g : Nat) (xs : List D) (η : Hs), Le (callN P glo eb W n g xs η) (callN P glo eb W' m g xs η)
  | 0, _, _, _, _, _ => .inl rfl
  | n + 1, 0, h, _, _, _ => absurd h (Nat.not_succ_le_zero n)
  | n + 1, m + 1, h, g, xs, η => by
    simp only [callN]
    split
    · exact .inr rfl
    · split
      · exact le_callEnd (le_Ss (le_call hw n m (Nat.le_of_succ_le_succ h)) hw _ _ _)
      · exact .inr rfl
theorem call_more {P : List Fn} {glo : List D} {eb : Nat → Ty → Bool} {W n m g : Nat} {xs : List D} {η η' : Hs} {d : D} (h : callN P glo eb W n g xs η = .ok d η') (hm : n ≤ m) : callN P glo eb W m g xs η = .ok d η' := (le_call (Nat.le_refl W) n m hm g xs η).ok h
end Ip
/-! calls that are known, in a table -/
namespace Ip
def Ss.app : Ss → Ss → Ss
  | .nil, b => b
  | .cons s r, b => .cons s (r.app b)
  | .frz i r, b => .frz i (r.app b)
  | .frzL i r, b => .frzL i (r.app b)
theorem app_nx {X : Cx} {b : Ss} : ∀ {a : Ss} {env env' : Env} {η η' : Hs}, evSs X a env η = .ok (.nx env') η' → evSs X (a.app b) env η = evSs X b env' η'
  | .nil, env, env', η, η', h => by rw [evSs] at h; cases h; rfl
  | .cons s r, env, env', η, η', h => by
    rw [Ss.app, evSs]
    rw [evSs] at h
    cases e : evS X s env η with
    | bad => rw [e] at h; cases h
    | ex x η1 => rw [e] at h; cases h
    | ok f η1 =>
      rw [e] at h
      simp only [R.bind] at h ⊢
      cases f with
      | nx env1 => exact app_nx h
      | rt d => cases h
      | bk env1 => cases h
      | ct env1 => cases h
  | .frz i r, env, env', η, η', h => by
    rw [Ss.app, evSs]
    rw [evSs] at h
    split at h
    · exact app_nx h
    · cases h
  | .frzL i r, env, env', η, η', h => by
    rw [Ss.app, evSs]
    rw [evSs] at h
    split at h
    · exact app_nx h
    · cases h
/-- the first n items of a body; the others -/
def Ss.tk : Nat → Ss → Ss
  | 0, _ => .nil
  | n + 1, .cons s r => .cons s (r.tk n)
  | n + 1, .frz i r => .frz i (r.tk n)
  | n + 1, .frzL i r => .frzL i (r.tk n)
  | _ + 1, .nil => .nil
def Ss.dp : Nat → Ss → Ss
  | 0, s => s
  | n + 1, .cons _ r => r.dp n
  | n + 1, .frz _ r => r.dp n
  | n + 1, .frzL _ r => r.dp n
  | _ + 1, .nil => .nil
theorem tk_dp : ∀ (n : Nat) (s : Ss), (s.tk n).app (s.dp n) = s
  | 0, s => rfl
  | n + 1, .cons s r => by rw [Ss.tk, Ss.dp, Ss.app, tk_dp n r]
  | n + 1, .frz i r => by rw [Ss.tk, Ss.dp, Ss.app, tk_dp n r]
  | n + 1, .frzL i r => by rw [Ss.tk, Ss.dp, Ss.app, tk_dp n r]
  | _ + 1, .nil => rfl
/-- the first items, then the others -/
theorem cut_at {X : Cx} {s : Ss} (n : Nat) {env env' : Env} {η η' : Hs} (h : evSs X (s.tk n) env η = .ok (.nx env') η') : evSs X s env η = evSs X (s.dp n) env' η' := by
  conv => lhs; rw [← tk_dp n s]
  exact app_nx h
theorem callO_by {tab : Nat → Nat → List D → Hs → Option (R D)} {P : List Fn} {glo : List D} {eb : Nat → Ty → Bool} {W n g : Nat} {xs : List D} {η : Hs} {f : Fn} (hf : P[g]? = some f) (hl : Nat.beq xs.length f.np = true) (ht : tab n g xs η = none) :
    callO tab P glo eb W (n + 1) g xs η = callEnd f.rc η (evSs ⟨callO tab P glo eb W n, glo, eb, W⟩ f.body (Ip.start f xs) η) := by
  unfold callO
  rw [ht, hf]
  simp only [hl]
structure Ent where
  g : Nat
  n : Nat
  xs : List D
  d : D
def hitE (e : Ent) (n g : Nat) (xs : List D) (η : Hs) : Bool := Nat.beq e.g g && (Nat.ble e.n (n + 1) && (sames e.xs xs && plainCells η.length η))
def lookE : List Ent → Nat → Nat → List D → Hs → Option (R D)
  | [], _, _, _, _ => none
  | e :: r, n, g, xs, η => match hitE e n g xs η with
    | true => some (.ok e.d η)
    | false => lookE r n g xs η
structure GoodE (P : List Fn) (glo : List D) (eb : Nat → Ty → Bool) (W : Nat) (e : Ent) : Prop where
  run : callN P glo eb W e.n e.g e.xs [] = .ok e.d []
  arg : datas e.xs 60 = true
  val : e.d.data 60 = true
section
variable {P : List Fn} {glo : List D} {eb : Nat → Ty → Bool} {W : Nat} {tb : List Ent}
theorem lookE_ok (hg : freeG glo = true) : ∀ {tb : List Ent}, (∀ e ∈ tb, GoodE P glo eb W e) → ∀ n g xs η r, lookE tb n g xs η = some r → callN P glo eb W (n + 1) g xs η = r
  | [], _, n, g, xs, η, r, h => by cases h
  | e :: tb, all, n, g, xs, η, r, h => by
    unfold lookE at h
    cases k : hitE e n g xs η with
    | false =>
      rw [k] at h
      exact lookE_ok hg (fun e' m => all e' (List.mem_cons_of_mem _ m)) n g xs η r h
    | true =>
      rw [k] at h
      cases h
      unfold hitE at k
      simp only [Bool.and_eq_true] at k
      obtain ⟨k1, k2, k3, k4⟩ := k
      obtain rfl := Nat.eq_of_beq_eq_true k1
      obtain rfl := sames_eq _ _ k3
      obtain ⟨a, b, c⟩ := all e List.mem_cons_self
      exact call_at k4 hg b c (call_more a (Nat.le_of_ble_eq_true k2))
theorem tab_call {n g : Nat} {xs : List D} {η : Hs} {r : R D} (hg : freeG glo = true) (all : ∀ e ∈ tb, GoodE P glo eb W e) (h : callO (lookE tb) P glo eb W n g xs η = r) : callN P glo eb W n g xs η = r := by
  rw [← callO_eq (lookE_ok hg all)]; exact h
theorem good_cons {e : Ent} (h : GoodE P glo eb W e) (all : ∀ e ∈ tb, GoodE P glo eb W e) : ∀ e' ∈ e :: tb, GoodE P glo eb W e' := fun e' m => by
  rcases List.mem_cons.mp m with rfl | m
  · exact h
  · exact all e' m
theorem good_nil : ∀ e ∈ ([] : List Ent), GoodE P glo eb W e := fun e m => by cases m
/-- two parts, one drawn by the script's number -/
theorem law_draw2 {n g tk bx o cl ka kb pa pb : Nat} {f : Fn} {is : List Int} {s0 : Int} (hfree : freeG glo = true) (hf : P[g]? = some f) (hp : f.np = 1) (hs : f.ns = 2) (hr : f.rc = false) (hb : f.body = drawB o tk bx cl ka kb)
    (hc : P[cl]? = some cellsF) (hx : P[bx]? = some (boxF s0)) (ht : P[tk]? = some takeF) (hl : is.length ≤ 63) (ga : glo[ka]? = some (.fn pa)) (gb : glo[kb]? = some (.fn pb))
    (eo : callN P glo eb W (n + 1) o [] [] = .ok (.bl true) []) (ea : callN P glo eb W (n + 1) pa [] [] = .ok (.bl true) []) (eb' : callN P glo eb W (n + 1) pb [] [] = .ok (.bl true) []) :
    okB (callN P glo eb W (n + 2) g [.lst (is.map .int)] []) = true :=
  law_draw hf hp hs hr hb hc hx ht hl ga gb eo (fun a b c => ⟨[], call_at (m := 1) rfl hfree rfl rfl ea⟩) (fun a b c => ⟨[], call_at (m := 1) rfl hfree rfl rfl eb'⟩)
end
end Ip
set_option maxHeartbeats 0
namespace Ip.Lw
open Ip PySem PySem.Spec PyProof.Rows L2
def f0 : Fn := ⟨1, 1, false, Ss.cons (S.ret (E.and (Es.cons (E.isi (E.var 0) [.int]) (Es.cons (E.notE (E.isi (E.var 0) [.bool])) (Es.nil))))) (Ss.nil)⟩ -- is_number
def f1 : Fn := ⟨2, 2, false, Ss.cons (S.ret (E.and (Es.cons (E.call 0 (Es.cons (E.var 0) (Es.nil))) (Es.cons (E.cmp .ge (E.var 0) (E.var 1)) (Es.nil))))) (Ss.nil)⟩ -- is_from
def f2 : Fn := ⟨3, 3, false, Ss.cons (S.ret (E.and (Es.cons (E.call 0 (Es.cons (E.var 0) (Es.nil))) (Es.cons (E.chn .le .le (E.var 1) (E.var 0) (E.var 2)) (Es.nil))))) (Ss.nil)⟩ -- is_within
def f3 : Fn := ⟨2, 2, false, Ss.cons (S.ret (E.and (Es.cons (E.isi (E.var 0) [.tuple]) (Es.cons (E.cmp .eq (E.bi false .len (Es.cons (E.var 0) (Es.nil))) (E.var 1)) (Es.nil))))) (Ss.nil)⟩ -- is_long
def f4 : Fn := ⟨1, 2, false, Ss.cons (S.ret (E.ifx (E.isi (E.var 0) [.list, .tuple]) (E.bi false .tuple (Es.cons (E.comp false (E.call 4 (Es.cons (E.var 1) (Es.nil))) (T.name 1) [1] (It.of (E.var 0)) (Es.nil)) (Es.nil))) (E.var 0))) (Ss.nil)⟩ -- tupled
def f5 : Fn := ⟨1, 2, false, Ss.cons (S.ret (E.bi false .all (Es.cons (E.comp false (E.cmp .lt (E.ix (E.var 0) (E.var 1)) (E.ix (E.var 0) (E.bin false .add (E.var 1) (E.int 1)))) (T.name 1) [1] (It.rng (Es.cons (E.bin false .sub (E.bi false .len (Es.cons (E.var 0) (Es.nil))) (E.int 1)) (Es.nil))) (Es.nil)) (Es.nil)))) (Ss.nil)⟩ -- ascends
def f6 : Fn := ⟨1, 1, false, Ss.cons (S.ret (E.bi false .tuple (Es.cons (E.bi false .sset (Es.cons (E.var 0) (Es.nil))) (Es.nil)))) (Ss.nil)⟩ -- set_of
def f7 : Fn := ⟨1, 2, false, Ss.cons (S.ret (E.and (Es.cons (E.isi (E.var 0) [.tuple]) (Es.cons (E.bi false .all (Es.cons (E.comp false (E.call 0 (Es.cons (E.var 1) (Es.nil))) (T.name 1) [1] (It.of (E.var 0)) (Es.nil)) (Es.nil))) (Es.nil))))) (Ss.nil)⟩ -- are_numbers
def f8 : Fn := ⟨1, 1, false, Ss.cons (S.ite (E.or (Es.cons (E.notE (E.call 3 (Es.cons (E.var 0) (Es.cons (E.int 3) (Es.nil))))) (Es.cons (E.notE (E.call 0 (Es.cons (E.ix (E.var 0) (E.int 0)) (Es.nil)))) (Es.cons (E.cmp .lt (E.ix (E.var 0) (E.int 0)) (E.int 1)) (Es.nil))))) (Ss.cons (S.ret (E.bl false)) (Ss.nil)) (Ss.nil)) (Ss.cons (S.ret (E.and (Es.cons (E.isi (E.ix (E.var 0) (E.int 1)) [.bool]) (Es.cons (E.isi (E.ix (E.var 0) (E.int 2)) [.bool]) (Es.nil))))) (Ss.nil))⟩ -- is_coin
def f9 : Fn := ⟨1, 2, false, Ss.cons (S.ret (E.and (Es.cons (E.isi (E.var 0) [.tuple]) (Es.cons (E.cmp .lt (E.bi false .len (Es.cons (E.var 0) (Es.nil))) (E.int 4)) (Es.cons (E.bi false .all (Es.cons (E.comp false (E.call 8 (Es.cons (E.var 1) (Es.nil))) (T.name 1) [1] (It.of (E.var 0)) (Es.nil)) (Es.nil))) (Es.nil)))))) (Ss.nil)⟩ -- is_coins
def f10 : Fn := ⟨1, 2, false, Ss.cons (S.asg (T.name 1) (E.call 4 (Es.cons (E.var 0) (Es.nil)))) (Ss.cons (S.ite (E.notE (E.call 9 (Es.cons (E.var 1) (Es.nil)))) (Ss.cons (S.raise 2 (Es.nil)) (Ss.nil)) (Ss.nil)) (Ss.cons (S.ret (E.var 1)) (Ss.nil)))⟩ -- sure_coins
def f11 : Fn := ⟨1, 1, false, Ss.cons (S.ite (E.notE (E.call 0 (Es.cons (E.var 0) (Es.nil)))) (Ss.cons (S.raise 2 (Es.nil)) (Ss.nil)) (Ss.nil)) (Ss.cons (S.ret (E.var 0)) (Ss.nil))⟩ -- sure_whole
def f12 : Fn := ⟨2, 4, false, Ss.cons (S.swp [2, 3] (Es.cons (E.bi false .abs (Es.cons (E.var 0) (Es.nil))) (Es.cons (E.bi false .abs (Es.cons (E.var 1) (Es.nil))) (Es.nil)))) (Ss.cons (S.whl (E.cmp .ne (E.var 3) (E.int 0)) (Ss.cons (S.swp [2, 3] (Es.cons (E.var 3) (Es.cons (E.bin false .mod (E.var 2) (E.var 3)) (Es.nil)))) (Ss.nil))) (Ss.cons (S.ret (E.var 2)) (Ss.nil)))⟩ -- common_in
def f13 : Fn := ⟨1, 4, false, Ss.cons (S.asg (T.name 1) (E.int 0)) (Ss.cons (S.for (T.tup (Ts.cons (T.name 2) (Ts.cons (T.name 3) (Ts.cons (T.name 3) (Ts.nil))))) (It.of (E.var 0)) (Ss.cons (S.asg (T.name 1) (E.call 12 (Es.cons (E.var 1) (Es.cons (E.bin false .mul (E.int 2) (E.var 2)) (Es.nil))))) (Ss.nil))) (Ss.cons (S.ret (E.var 1)) (Ss.nil)))⟩ -- step_in
def f14 : Fn := ⟨1, 4, false, Ss.cons (S.ret (E.bi false .sum (Es.cons (E.comp false (E.var 1) (T.tup (Ts.cons (T.name 1) (Ts.cons (T.name 2) (Ts.cons (T.name 3) (Ts.nil))))) [1, 2, 3] (It.of (E.var 0)) (Es.cons (E.var 2) (Es.nil))) (Es.nil)))) (Ss.nil)⟩ -- odd_in
def f15 : Fn := ⟨2, 4, false, Ss.cons (S.swp [2, 3] (Es.cons (E.call 13 (Es.cons (E.var 0) (Es.nil))) (Es.cons (E.bin false .sub (E.var 1) (E.callv (E.glo 23) (Es.cons (E.var 0) (Es.nil)))) (Es.nil)))) (Ss.cons (S.ret (E.ifx (E.cmp .gt (E.var 2) (E.int 0)) (E.cmp .eq (E.bin false .mod (E.var 3) (E.var 2)) (E.int 0)) (E.cmp .eq (E.var 3) (E.int 0)))) (Ss.nil))⟩ -- can_in
def f16 : Fn := ⟨2, 3, false, Ss.cons (S.asg (T.name 2) (E.call 10 (Es.cons (E.var 0) (Es.nil)))) (Ss.cons (S.ret (E.call 15 (Es.cons (E.var 2) (Es.cons (E.call 11 (Es.cons (E.var 1) (Es.nil))) (Es.nil))))) (Ss.nil))⟩ -- can_pay
def f17 : Fn := ⟨2, 5, false, Ss.cons (S.ite (E.or (Es.cons (E.notE (E.call 3 (Es.cons (E.var 1) (Es.cons (E.bi false .len (Es.cons (E.var 0) (Es.nil))) (Es.nil))))) (Es.cons (E.notE (E.bi false .all (Es.cons (E.comp false (E.call 0 (Es.cons (E.var 2) (Es.nil))) (T.name 2) [2] (It.of (E.var 1)) (Es.nil)) (Es.nil)))) (Es.nil)))) (Ss.cons (S.ret (E.bl false)) (Ss.nil)) (Ss.nil)) (Ss.cons (S.ret (E.bi false .all (Es.cons (E.comp false (E.cmp .eq (E.cmp .eq (E.bin false .mod (E.var 4) (E.int 2)) (E.int 1)) (E.ix (E.var 3) (E.int 1))) (T.tup (Ts.cons (T.name 3) (Ts.cons (T.name 4) (Ts.nil)))) [3, 4] (It.zip (E.var 0) (E.var 1)) (Es.nil)) (Es.nil)))) (Ss.nil))⟩ -- is_row_for
def f18 : Fn := ⟨2, 4, false, Ss.cons (S.ret (E.bi false .sum (Es.cons (E.comp false (E.bin false .mul (E.ix (E.var 2) (E.int 0)) (E.var 3)) (T.tup (Ts.cons (T.name 2) (Ts.cons (T.name 3) (Ts.nil)))) [2, 3] (It.zip (E.var 0) (E.var 1)) (Es.nil)) (Es.nil)))) (Ss.nil)⟩ -- sum_in
def f19 : Fn := ⟨3, 3, false, Ss.cons (S.ret (E.and (Es.cons (E.call 17 (Es.cons (E.var 0) (Es.cons (E.var 2) (Es.nil)))) (Es.cons (E.cmp .eq (E.call 18 (Es.cons (E.var 0) (Es.cons (E.var 2) (Es.nil)))) (E.var 1)) (Es.nil))))) (Ss.nil)⟩ -- is_paying_in
def f20 : Fn := ⟨3, 4, false, Ss.cons (S.asg (T.name 3) (E.call 10 (Es.cons (E.var 0) (Es.nil)))) (Ss.cons (S.ret (E.call 19 (Es.cons (E.var 3) (Es.cons (E.call 11 (Es.cons (E.var 1) (Es.nil))) (Es.cons (E.var 2) (Es.nil)))))) (Ss.nil))⟩ -- is_paying
def f21 : Fn := ⟨2, 5, false, Ss.cons (S.asg (T.name 2) (E.int 0)) (Ss.cons (S.for (T.tup (Ts.cons (T.name 3) (Ts.cons (T.name 4) (Ts.nil)))) (It.zip (E.var 0) (E.var 1)) (Ss.cons (S.aug 2 .add (E.ifx (E.cmp .ne (E.var 4) (E.int 0)) (E.bi false .abs (Es.cons (E.var 4) (Es.nil))) (E.ifx (E.ix (E.var 3) (E.int 2)) (E.int 2) (E.int 0)))) (Ss.nil))) (Ss.cons (S.ret (E.var 2)) (Ss.nil)))⟩ -- cost_in
def f22 : Fn := ⟨2, 4, false, Ss.cons (S.swp [2, 3] (Es.cons (E.call 10 (Es.cons (E.var 0) (Es.nil))) (Es.cons (E.call 4 (Es.cons (E.var 1) (Es.nil))) (Es.nil)))) (Ss.cons (S.ite (E.notE (E.call 17 (Es.cons (E.var 2) (Es.cons (E.var 3) (Es.nil))))) (Ss.cons (S.raise 2 (Es.nil)) (Ss.nil)) (Ss.nil)) (Ss.cons (S.ret (E.call 21 (Es.cons (E.var 2) (Es.cons (E.var 3) (Es.nil))))) (Ss.nil)))⟩ -- cost_of
def f23 : Fn := ⟨3, 6, false, Ss.cons (S.swp [3, 4] (Es.cons (E.tup (Es.cons (E.var 0) (Es.cons (E.int 1) (Es.cons (E.int 0) (Es.nil))))) (Es.cons (E.tup (Es.cons (E.var 1) (Es.cons (E.int 0) (Es.cons (E.int 1) (Es.nil))))) (Es.nil)))) (Ss.cons (S.whl (E.cmp .ne (E.ix (E.var 4) (E.int 0)) (E.int 0)) (Ss.cons (S.asg (T.name 5) (E.bin false .fdiv (E.ix (E.var 3) (E.int 0)) (E.ix (E.var 4) (E.int 0)))) (Ss.cons (S.swp [3, 4] (Es.cons (E.var 4) (Es.cons (E.tup (Es.cons (E.bin false .sub (E.ix (E.var 3) (E.int 0)) (E.bin false .mul (E.var 5) (E.ix (E.var 4) (E.int 0)))) (Es.cons (E.bin false .sub (E.ix (E.var 3) (E.int 1)) (E.bin false .mul (E.var 5) (E.ix (E.var 4) (E.int 1)))) (Es.cons (E.bin false .sub (E.ix (E.var 3) (E.int 2)) (E.bin false .mul (E.var 5) (E.ix (E.var 4) (E.int 2)))) (Es.nil))))) (Es.nil)))) (Ss.nil)))) (Ss.cons (S.ite (E.cmp .ne (E.bin false .mod (E.var 2) (E.ix (E.var 3) (E.int 0))) (E.int 0)) (Ss.cons (S.ret (E.non)) (Ss.nil)) (Ss.nil)) (Ss.cons (S.ret (E.tup (Es.cons (E.bin false .mul (E.ix (E.var 3) (E.int 1)) (E.bin false .fdiv (E.var 2) (E.ix (E.var 3) (E.int 0)))) (Es.cons (E.bin false .mul (E.ix (E.var 3) (E.int 2)) (E.bin false .fdiv (E.var 2) (E.ix (E.var 3) (E.int 0)))) (Es.nil))))) (Ss.nil))))⟩ -- solved_in
def f24 : Fn := ⟨3, 4, false, Ss.cons (S.asg (T.name 3) (E.tup (Es.cons (E.call 21 (Es.cons (E.var 0) (Es.cons (E.var 2) (Es.nil)))) (Es.cons (E.var 2) (Es.nil))))) (Ss.cons (S.ret (E.ifx (E.or (Es.cons (E.isN (E.var 1)) (Es.cons (E.cmp .lt (E.var 3) (E.var 1)) (Es.nil)))) (E.var 3) (E.var 1))) (Ss.nil))⟩ -- lesser_of
def f25 : Fn := ⟨2, 15, false, Ss.cons (S.asg (T.tup (Ts.cons (T.tup (Ts.cons (T.name 2) (Ts.cons (T.name 3) (Ts.cons (T.name 4) (Ts.nil))))) (Ts.cons (T.tup (Ts.cons (T.name 5) (Ts.cons (T.name 6) (Ts.cons (T.name 4) (Ts.nil))))) (Ts.nil)))) (E.var 0)) (Ss.cons (S.asg (T.name 7) (E.call 23 (Es.cons (E.bin false .mul (E.int 2) (E.var 2)) (Es.cons (E.bin false .mul (E.int 2) (E.var 5)) (Es.cons (E.bin false .sub (E.var 1) (E.callv (E.glo 23) (Es.cons (E.var 0) (Es.nil)))) (Es.nil)))))) (Ss.cons (S.ite (E.isN (E.var 7)) (Ss.cons (S.ret (E.non)) (Ss.nil)) (Ss.nil)) (Ss.cons (S.swp [8, 9] (Es.cons (E.bin false .add (E.bin false .mul (E.int 2) (E.ix (E.var 7) (E.int 0))) (E.bi false .int (Es.cons (E.var 3) (Es.nil)))) (Es.cons (E.bin false .add (E.bin false .mul (E.int 2) (E.ix (E.var 7) (E.int 1))) (E.bi false .int (Es.cons (E.var 6) (Es.nil)))) (Es.nil)))) (Ss.cons (S.swp [10, 11, 12] (Es.cons (E.bin false .fdiv (E.bin false .mul (E.int 2) (E.var 5)) (E.call 12 (Es.cons (E.var 2) (Es.cons (E.var 5) (Es.nil))))) (Es.cons (E.bin false .fdiv (E.bin false .mul (E.int 2) (E.var 2)) (E.call 12 (Es.cons (E.var 2) (Es.cons (E.var 5) (Es.nil))))) (Es.cons (E.non) (Es.nil))))) (Ss.cons (S.for (T.name 13) (It.of (E.tup (Es.cons (E.bin false .fdiv (E.neg (E.var 8)) (E.var 10)) (Es.cons (E.bin false .fdiv (E.var 9) (E.var 11)) (Es.nil))))) (Ss.cons (S.for (T.name 14) (It.rng (Es.cons (E.bin false .sub (E.var 13) (E.int 1)) (Es.cons (E.bin false .add (E.var 13) (E.int 3)) (Es.nil)))) (Ss.cons (S.asg (T.name 12) (E.call 24 (Es.cons (E.var 0) (Es.cons (E.var 12) (Es.cons (E.tup (Es.cons (E.bin false .add (E.var 8) (E.bin false .mul (E.var 14) (E.var 10))) (Es.cons (E.bin false .sub (E.var 9) (E.bin false .mul (E.var 14) (E.var 11))) (Es.nil)))) (Es.nil)))))) (Ss.nil))) (Ss.nil))) (Ss.cons (S.ret (E.var 12)) (Ss.nil)))))))⟩ -- best_of_two
def f26 : Fn := ⟨2, 12, false, Ss.cons (S.asg (T.name 2) (E.comp false (E.var 10) (T.tup (Ts.cons (T.name 10) (Ts.cons (T.name 11) (Ts.cons (T.name 11) (Ts.nil))))) [10, 11, 11] (It.of (E.var 0)) (Es.nil))) (Ss.cons (S.swp [3, 4] (Es.cons (E.mt false .index (E.var 2) (Es.cons (E.bi false .min (Es.cons (E.var 2) (Es.nil))) (Es.nil))) (Es.cons (E.non) (Es.nil)))) (Ss.cons (S.asg (T.name 5) (E.bin false .add (E.sl false (E.var 0) (E.absent) (E.var 3)) (E.sl false (E.var 0) (E.bin false .add (E.var 3) (E.int 1)) (E.absent)))) (Ss.cons (S.asg (T.name 6) (E.bin false .fdiv (E.bin false .mul (E.int 4) (E.bi false .max (Es.cons (E.var 2) (Es.nil)))) (E.call 12 (Es.cons (E.ix (E.var 2) (E.var 3)) (Es.cons (E.bi false .max (Es.cons (E.var 2) (Es.nil))) (Es.nil)))))) (Ss.cons (S.asg (T.name 7) (E.ifx (E.cmp .eq (E.cmp .eq (E.bin false .mod (E.var 6) (E.int 2)) (E.int 1)) (E.ix (E.ix (E.var 0) (E.var 3)) (E.int 1))) (E.neg (E.var 6)) (E.bin false .sub (E.neg (E.var 6)) (E.int 1)))) (Ss.cons (S.for (T.name 8) (It.rng (Es.cons (E.var 7) (Es.cons (E.bin false .add (E.var 6) (E.int 2)) (Es.cons (E.int 2) (Es.nil))))) (Ss.cons (S.asg (T.name 9) (E.call 25 (Es.cons (E.var 5) (Es.cons (E.bin false .sub (E.var 1) (E.bin false .mul (E.var 8) (E.ix (E.var 2) (E.var 3)))) (Es.nil))))) (Ss.cons (S.ite (E.notN (E.var 9)) (Ss.cons (S.asg (T.name 4) (E.call 24 (Es.cons (E.var 0) (Es.cons (E.var 4) (Es.cons (E.bin false .add (E.bin false .add (E.sl false (E.ix (E.var 9) (E.int 1)) (E.absent) (E.var 3)) (E.tup (Es.cons (E.var 8) (Es.nil)))) (E.sl false (E.ix (E.var 9) (E.int 1)) (E.var 3) (E.absent))) (Es.nil)))))) (Ss.nil)) (Ss.nil)) (Ss.nil)))) (Ss.cons (S.ret (E.var 4)) (Ss.nil)))))))⟩ -- best_of_three
def f27 : Fn := ⟨2, 3, false, Ss.cons (S.ite (E.notE (E.call 15 (Es.cons (E.var 0) (Es.cons (E.var 1) (Es.nil))))) (Ss.cons (S.ret (E.non)) (Ss.nil)) (Ss.nil)) (Ss.cons (S.ite (E.cmp .eq (E.bi false .len (Es.cons (E.var 0) (Es.nil))) (E.int 0)) (Ss.cons (S.ret (E.tup (Es.cons (E.int 0) (Es.cons (E.tup (Es.nil)) (Es.nil))))) (Ss.nil)) (Ss.nil)) (Ss.cons (S.ite (E.cmp .eq (E.bi false .len (Es.cons (E.var 0) (Es.nil))) (E.int 1)) (Ss.cons (S.asg (T.name 2) (E.tup (Es.cons (E.bin false .fdiv (E.var 1) (E.ix (E.ix (E.var 0) (E.int 0)) (E.int 0))) (Es.nil)))) (Ss.cons (S.ret (E.tup (Es.cons (E.call 21 (Es.cons (E.var 0) (Es.cons (E.var 2) (Es.nil)))) (Es.cons (E.var 2) (Es.nil))))) (Ss.nil))) (Ss.nil)) (Ss.cons (S.ret (E.ifx (E.cmp .eq (E.bi false .len (Es.cons (E.var 0) (Es.nil))) (E.int 2)) (E.call 25 (Es.cons (E.var 0) (Es.cons (E.var 1) (Es.nil)))) (E.call 26 (Es.cons (E.var 0) (Es.cons (E.var 1) (Es.nil)))))) (Ss.nil))))⟩ -- best_in
def f28 : Fn := ⟨2, 4, false, Ss.cons (S.asg (T.name 2) (E.call 10 (Es.cons (E.var 0) (Es.nil)))) (Ss.cons (S.asg (T.name 3) (E.call 27 (Es.cons (E.var 2) (Es.cons (E.call 11 (Es.cons (E.var 1) (Es.nil))) (Es.nil))))) (Ss.cons (S.ite (E.isN (E.var 3)) (Ss.cons (S.raise 0 (Es.nil)) (Ss.nil)) (Ss.nil)) (Ss.cons (S.ret (E.var 3)) (Ss.nil))))⟩ -- sure_best
def f29 : Fn := ⟨2, 2, false, Ss.cons (S.ret (E.ix (E.call 28 (Es.cons (E.var 0) (Es.cons (E.var 1) (Es.nil)))) (E.int 0))) (Ss.nil)⟩ -- least_cost
def f30 : Fn := ⟨2, 2, false, Ss.cons (S.ret (E.ix (E.call 28 (Es.cons (E.var 0) (Es.cons (E.var 1) (Es.nil)))) (E.int 1))) (Ss.nil)⟩ -- paying
def f31 : Fn := ⟨3, 5, false, Ss.cons (S.swp [3, 4] (Es.cons (E.call 10 (Es.cons (E.var 0) (Es.nil))) (Es.cons (E.call 11 (Es.cons (E.var 1) (Es.nil))) (Es.nil)))) (Ss.cons (S.ite (E.notE (E.call 19 (Es.cons (E.var 3) (Es.cons (E.var 4) (Es.cons (E.var 2) (Es.nil)))))) (Ss.cons (S.ret (E.bl false)) (Ss.nil)) (Ss.nil)) (Ss.cons (S.ret (E.cmp .eq (E.call 21 (Es.cons (E.var 3) (Es.cons (E.var 2) (Es.nil)))) (E.ix (E.call 27 (Es.cons (E.var 3) (Es.cons (E.var 4) (Es.nil)))) (E.int 0)))) (Ss.nil)))⟩ -- is_least_paying
def f32 : Fn := ⟨3, 5, false, Ss.cons (S.ite (E.or (Es.cons (E.notE (E.call 0 (Es.cons (E.var 2) (Es.nil)))) (Es.cons (E.cmp .lt (E.var 2) (E.int 2)) (Es.nil)))) (Ss.cons (S.ret (E.bl false)) (Ss.nil)) (Ss.nil)) (Ss.cons (S.ite (E.notE (E.bi false .all (Es.cons (E.comp false (E.cmp .eq (E.bin false .mod (E.bin false .mul (E.int 2) (E.var 3)) (E.var 2)) (E.int 0)) (T.tup (Ts.cons (T.name 3) (Ts.cons (T.name 4) (Ts.cons (T.name 4) (Ts.nil))))) [3, 4, 4] (It.of (E.var 0)) (Es.nil)) (Es.nil)))) (Ss.cons (S.ret (E.bl false)) (Ss.nil)) (Ss.nil)) (Ss.cons (S.ret (E.cmp .ne (E.bin false .mod (E.bin false .sub (E.var 1) (E.callv (E.glo 23) (Es.cons (E.var 0) (Es.nil)))) (E.var 2)) (E.int 0))) (Ss.nil)))⟩ -- bars_in
def f33 : Fn := ⟨2, 3, false, Ss.cons (S.ite (E.call 15 (Es.cons (E.var 0) (Es.cons (E.var 1) (Es.nil)))) (Ss.cons (S.ret (E.non)) (Ss.nil)) (Ss.nil)) (Ss.cons (S.asg (T.name 2) (E.call 13 (Es.cons (E.var 0) (Es.nil)))) (Ss.cons (S.ret (E.ifx (E.cmp .gt (E.var 2) (E.int 0)) (E.var 2) (E.bin false .add (E.bi false .abs (Es.cons (E.var 1) (Es.nil))) (E.int 1)))) (Ss.nil)))⟩ -- bar_in
def f34 : Fn := ⟨2, 4, false, Ss.cons (S.asg (T.name 2) (E.call 10 (Es.cons (E.var 0) (Es.nil)))) (Ss.cons (S.asg (T.name 3) (E.call 33 (Es.cons (E.var 2) (Es.cons (E.call 11 (Es.cons (E.var 1) (Es.nil))) (Es.nil))))) (Ss.cons (S.ite (E.isN (E.var 3)) (Ss.cons (S.raise 0 (Es.nil)) (Ss.nil)) (Ss.nil)) (Ss.cons (S.ret (E.var 3)) (Ss.nil))))⟩ -- bar
def f35 : Fn := ⟨3, 4, false, Ss.cons (S.asg (T.name 3) (E.call 10 (Es.cons (E.var 0) (Es.nil)))) (Ss.cons (S.ret (E.call 32 (Es.cons (E.var 3) (Es.cons (E.call 11 (Es.cons (E.var 1) (Es.nil))) (Es.cons (E.var 2) (Es.nil)))))) (Ss.nil))⟩ -- is_bar
def f36 : Fn := ⟨1, 2, false, Ss.cons (S.ret (E.and (Es.cons (E.call 3 (Es.cons (E.var 0) (Es.cons (E.int 3) (Es.nil)))) (Es.cons (E.bi false .all (Es.cons (E.comp false (E.call 1 (Es.cons (E.var 1) (Es.cons (E.int 1) (Es.nil)))) (T.name 1) [1] (It.of (E.var 0)) (Es.nil)) (Es.nil))) (Es.nil))))) (Ss.nil)⟩ -- is_chest
def f37 : Fn := ⟨1, 2, false, Ss.cons (S.asg (T.name 1) (E.call 4 (Es.cons (E.var 0) (Es.nil)))) (Ss.cons (S.ite (E.notE (E.call 36 (Es.cons (E.var 1) (Es.nil)))) (Ss.cons (S.raise 2 (Es.nil)) (Ss.nil)) (Ss.nil)) (Ss.cons (S.ret (E.var 1)) (Ss.nil)))⟩ -- sure_chest
def f38 : Fn := ⟨1, 2, false, Ss.cons (S.ret (E.and (Es.cons (E.call 3 (Es.cons (E.var 0) (Es.cons (E.int 3) (Es.nil)))) (Es.cons (E.bi false .all (Es.cons (E.comp false (E.call 0 (Es.cons (E.var 1) (Es.nil))) (T.name 1) [1] (It.of (E.var 0)) (Es.nil)) (Es.nil))) (Es.cons (E.cmp .inn (E.var 0) (E.glo 0)) (Es.nil)))))) (Ss.nil)⟩ -- is_shape
def f39 : Fn := ⟨1, 2, false, Ss.cons (S.asg (T.name 1) (E.call 4 (Es.cons (E.var 0) (Es.nil)))) (Ss.cons (S.ite (E.notE (E.call 38 (Es.cons (E.var 1) (Es.nil)))) (Ss.cons (S.raise 2 (Es.nil)) (Ss.nil)) (Ss.nil)) (Ss.cons (S.ret (E.var 1)) (Ss.nil)))⟩ -- sure_shape
def f40 : Fn := ⟨1, 1, false, Ss.cons (S.ret (E.mt false .index (E.glo 0) (Es.cons (E.var 0) (Es.nil)))) (Ss.nil)⟩ -- place_in
def f41 : Fn := ⟨1, 1, false, Ss.cons (S.ret (E.ix (E.glo 1) (E.var 0))) (Ss.nil)⟩ -- side_in
def f42 : Fn := ⟨2, 6, false, Ss.cons (S.par (Ts.cons (T.name 2) (Ts.cons (T.name 3) (Ts.cons (T.name 4) (Ts.nil)))) (Es.cons (E.call 40 (Es.cons (E.var 0) (Es.nil))) (Es.cons (E.call 40 (Es.cons (E.var 1) (Es.nil))) (Es.cons (E.lst true (Es.nil)) (Es.nil))))) (Ss.cons (S.whl (E.cmp .ne (E.var 2) (E.var 3)) (Ss.cons (S.expr (E.mt false .append (E.var 4) (Es.cons (E.var 2) (Es.nil)))) (Ss.cons (S.asg (T.name 2) (E.bin false .mod (E.bin false .add (E.var 2) (E.int 1)) (E.int 6))) (Ss.nil)))) (Ss.cons (S.ret (E.tup (Es.cons (E.bi false .tuple (Es.cons (E.bi false .sorted (Es.cons (E.var 4) (Es.nil))) (Es.nil))) (Es.cons (E.bi false .tuple (Es.cons (E.comp false (E.var 5) (T.name 5) [5] (It.rng (Es.cons (E.int 6) (Es.nil))) (Es.cons (E.cmp .nin (E.var 5) (E.var 4)) (Es.nil))) (Es.nil))) (Es.nil))))) (Ss.nil)))⟩ -- arcs_in
def f43 : Fn := ⟨1, 2, false, Ss.cons (S.ite (E.or (Es.cons (E.notE (E.call 3 (Es.cons (E.var 0) (Es.cons (E.int 4) (Es.nil))))) (Es.cons (E.notE (E.call 38 (Es.cons (E.ix (E.var 0) (E.int 0)) (Es.nil)))) (Es.nil)))) (Ss.cons (S.ret (E.bl false)) (Ss.nil)) (Ss.nil)) (Ss.cons (S.ite (E.notE (E.bi false .all (Es.cons (E.comp false (E.and (Es.cons (E.call 3 (Es.cons (E.var 1) (Es.cons (E.int 3) (Es.nil)))) (Es.cons (E.call 7 (Es.cons (E.var 1) (Es.nil))) (Es.nil)))) (T.name 1) [1] (It.of (E.sl false (E.var 0) (E.int 1) (E.absent))) (Es.nil)) (Es.nil)))) (Ss.cons (S.ret (E.bl false)) (Ss.nil)) (Ss.nil)) (Ss.cons (S.ret (E.bi false .all (Es.cons (E.comp false (E.cmp .inn (E.var 1) (E.tup (Es.cons (E.int 1) (Es.cons (E.neg (E.int 1)) (Es.nil))))) (T.name 1) [1] (It.of (E.ix (E.var 0) (E.int 3))) (Es.nil)) (Es.nil)))) (Ss.nil)))⟩ -- is_stand
def f44 : Fn := ⟨1, 2, false, Ss.cons (S.asg (T.name 1) (E.call 4 (Es.cons (E.var 0) (Es.nil)))) (Ss.cons (S.ite (E.notE (E.call 43 (Es.cons (E.var 1) (Es.nil)))) (Ss.cons (S.raise 2 (Es.nil)) (Ss.nil)) (Ss.nil)) (Ss.cons (S.ret (E.var 1)) (Ss.nil)))⟩ -- sure_stand
def f45 : Fn := ⟨1, 1, false, Ss.cons (S.ite (E.call 3 (Es.cons (E.var 0) (Es.cons (E.int 2) (Es.nil)))) (Ss.cons (S.ret (E.and (Es.cons (E.cmp .eq (E.ix (E.var 0) (E.int 0)) (E.str (sx [116, 105, 112]))) (Es.cons (E.call 2 (Es.cons (E.ix (E.var 0) (E.int 1)) (Es.cons (E.int 0) (Es.cons (E.int 3) (Es.nil))))) (Es.nil))))) (Ss.nil)) (Ss.nil)) (Ss.cons (S.ite (E.or (Es.cons (E.notE (E.call 3 (Es.cons (E.var 0) (Es.cons (E.int 3) (Es.nil))))) (Es.cons (E.cmp .ne (E.ix (E.var 0) (E.int 0)) (E.str (sx [116, 117, 114, 110]))) (Es.cons (E.notE (E.call 2 (Es.cons (E.ix (E.var 0) (E.int 1)) (Es.cons (E.int 0) (Es.cons (E.int 3) (Es.nil)))))) (Es.nil))))) (Ss.cons (S.ret (E.bl false)) (Ss.nil)) (Ss.nil)) (Ss.cons (S.ret (E.and (Es.cons (E.call 0 (Es.cons (E.ix (E.var 0) (E.int 2)) (Es.nil))) (Es.cons (E.cmp .inn (E.ix (E.var 0) (E.int 2)) (E.tup (Es.cons (E.int 1) (Es.cons (E.neg (E.int 1)) (Es.nil))))) (Es.nil))))) (Ss.nil)))⟩ -- is_move
def f46 : Fn := ⟨3, 3, false, Ss.cons (S.ret (E.bin false .add (E.bin false .add (E.sl false (E.var 0) (E.absent) (E.var 1)) (E.tup (Es.cons (E.bin false .add (E.ix (E.var 0) (E.var 1)) (E.var 2)) (Es.nil)))) (E.sl false (E.var 0) (E.bin false .add (E.var 1) (E.int 1)) (E.absent)))) (Ss.nil)⟩ -- more_at
def f47 : Fn := ⟨2, 2, false, Ss.cons (S.ret (E.call 46 (Es.cons (E.var 0) (Es.cons (E.var 1) (Es.cons (E.bin false .mul (E.neg (E.int 2)) (E.ix (E.var 0) (E.var 1))) (Es.nil)))))) (Ss.nil)⟩ -- flipped
def f48 : Fn := ⟨2, 10, false, Ss.cons (S.asg (T.tup (Ts.cons (T.name 2) (Ts.cons (T.name 3) (Ts.cons (T.name 4) (Ts.cons (T.name 5) (Ts.nil)))))) (E.var 0)) (Ss.cons (S.asg (T.tup (Ts.cons (T.name 6) (Ts.cons (T.name 7) (Ts.cons (T.name 8) (Ts.nil))))) (E.var 2)) (Ss.cons (S.asg (T.name 9) (E.ifx (E.cmp .lt (E.var 1) (E.int 2)) (E.int 1) (E.neg (E.int 1)))) (Ss.cons (S.ite (E.cmp .eq (E.bin false .mod (E.var 1) (E.int 2)) (E.int 0)) (Ss.cons (S.ret (E.tup (Es.cons (E.tup (Es.cons (E.var 8) (Es.cons (E.var 7) (Es.cons (E.var 6) (Es.nil))))) (Es.cons (E.call 46 (Es.cons (E.call 46 (Es.cons (E.var 3) (Es.cons (E.var 6) (Es.cons (E.var 9) (Es.nil))))) (Es.cons (E.var 8) (Es.cons (E.var 9) (Es.nil))))) (Es.cons (E.var 4) (Es.cons (E.call 47 (Es.cons (E.var 5) (Es.cons (E.ifx (E.cmp .eq (E.var 9) (E.int 1)) (E.var 6) (E.var 8)) (Es.nil)))) (Es.nil))))))) (Ss.nil)) (Ss.nil)) (Ss.cons (S.ret (E.tup (Es.cons (E.tup (Es.cons (E.var 6) (Es.cons (E.var 8) (Es.cons (E.var 7) (Es.nil))))) (Es.cons (E.var 3) (Es.cons (E.call 46 (Es.cons (E.call 46 (Es.cons (E.var 4) (Es.cons (E.var 7) (Es.cons (E.var 9) (Es.nil))))) (Es.cons (E.var 8) (Es.cons (E.var 9) (Es.nil))))) (Es.cons (E.call 47 (Es.cons (E.var 5) (Es.cons (E.ifx (E.cmp .eq (E.var 9) (E.int 1)) (E.var 7) (E.var 8)) (Es.nil)))) (Es.nil))))))) (Ss.nil)))))⟩ -- tipped_in
def f49 : Fn := ⟨3, 12, false, Ss.cons (S.asg (T.tup (Ts.cons (T.name 3) (Ts.cons (T.name 4) (Ts.cons (T.name 5) (Ts.cons (T.name 6) (Ts.nil)))))) (E.var 0)) (Ss.cons (S.asg (T.tup (Ts.cons (T.name 7) (Ts.cons (T.name 8) (Ts.cons (T.name 9) (Ts.nil))))) (E.var 3)) (Ss.cons (S.asg (T.name 10) (E.ifx (E.cmp .inn (E.var 1) (E.tup (Es.cons (E.int 1) (Es.cons (E.int 2) (Es.nil))))) (E.int 1) (E.neg (E.int 1)))) (Ss.cons (S.asg (T.name 11) (E.ifx (E.cmp .ge (E.var 1) (E.int 2)) (E.int 1) (E.neg (E.int 1)))) (Ss.cons (S.ite (E.cmp .eq (E.var 2) (E.int 1)) (Ss.cons (S.swp [4, 5] (Es.cons (E.call 46 (Es.cons (E.call 46 (Es.cons (E.var 4) (Es.cons (E.var 7) (Es.cons (E.var 10) (Es.nil))))) (Es.cons (E.var 8) (Es.cons (E.var 11) (Es.nil))))) (Es.cons (E.call 46 (Es.cons (E.call 46 (Es.cons (E.var 5) (Es.cons (E.var 7) (Es.cons (E.neg (E.var 10)) (Es.nil))))) (Es.cons (E.var 8) (Es.cons (E.var 11) (Es.nil))))) (Es.nil)))) (Ss.cons (S.ret (E.tup (Es.cons (E.tup (Es.cons (E.var 8) (Es.cons (E.var 7) (Es.cons (E.var 9) (Es.nil))))) (Es.cons (E.var 4) (Es.cons (E.var 5) (Es.cons (E.call 47 (Es.cons (E.var 6) (Es.cons (E.var 8) (Es.nil)))) (Es.nil))))))) (Ss.nil))) (Ss.nil)) (Ss.cons (S.swp [4, 5] (Es.cons (E.call 46 (Es.cons (E.call 46 (Es.cons (E.var 4) (Es.cons (E.var 7) (Es.cons (E.var 10) (Es.nil))))) (Es.cons (E.var 8) (Es.cons (E.neg (E.var 11)) (Es.nil))))) (Es.cons (E.call 46 (Es.cons (E.call 46 (Es.cons (E.var 5) (Es.cons (E.var 7) (Es.cons (E.var 10) (Es.nil))))) (Es.cons (E.var 8) (Es.cons (E.var 11) (Es.nil))))) (Es.nil)))) (Ss.cons (S.ret (E.tup (Es.cons (E.tup (Es.cons (E.var 8) (Es.cons (E.var 7) (Es.cons (E.var 9) (Es.nil))))) (Es.cons (E.var 4) (Es.cons (E.var 5) (Es.cons (E.call 47 (Es.cons (E.var 6) (Es.cons (E.var 7) (Es.nil)))) (Es.nil))))))) (Ss.nil)))))))⟩ -- turned_in
def f50 : Fn := ⟨2, 2, false, Ss.cons (S.ret (E.ifx (E.cmp .eq (E.ix (E.var 1) (E.int 0)) (E.str (sx [116, 105, 112]))) (E.call 48 (Es.cons (E.var 0) (Es.cons (E.ix (E.var 1) (E.int 1)) (Es.nil)))) (E.call 49 (Es.cons (E.var 0) (Es.cons (E.ix (E.var 1) (E.int 1)) (Es.cons (E.ix (E.var 1) (E.int 2)) (Es.nil))))))) (Ss.nil)⟩ -- moved_in
def f51 : Fn := ⟨2, 5, false, Ss.cons (S.asg (T.name 2) (E.bi false .sum (Es.cons (E.comp false (E.bin false .mul (E.var 3) (E.var 4)) (T.tup (Ts.cons (T.name 3) (Ts.cons (T.name 4) (Ts.nil)))) [3, 4] (It.zip (E.ix (E.var 1) (E.int 1)) (E.var 0)) (Es.nil)) (Es.nil)))) (Ss.cons (S.ret (E.tup (Es.cons (E.var 2) (Es.cons (E.bi false .sum (Es.cons (E.comp false (E.bin false .mul (E.var 3) (E.var 4)) (T.tup (Ts.cons (T.name 3) (Ts.cons (T.name 4) (Ts.nil)))) [3, 4] (It.zip (E.ix (E.var 1) (E.int 2)) (E.var 0)) (Es.nil)) (Es.nil))) (Es.nil))))) (Ss.nil))⟩ -- middle_in
def f52 : Fn := ⟨1, 2, false, Ss.cons (S.ret (E.and (Es.cons (E.isi (E.var 0) [.tuple]) (Es.cons (E.bi false .all (Es.cons (E.comp false (E.call 45 (Es.cons (E.var 1) (Es.nil))) (T.name 1) [1] (It.of (E.var 0)) (Es.nil)) (Es.nil))) (Es.nil))))) (Ss.nil)⟩ -- is_row_in
def f53 : Fn := ⟨2, 3, false, Ss.cons (S.for (T.name 2) (It.of (E.var 1)) (Ss.cons (S.asg (T.name 0) (E.call 50 (Es.cons (E.var 0) (Es.cons (E.var 2) (Es.nil))))) (Ss.nil))) (Ss.cons (S.ret (E.var 0)) (Ss.nil))⟩ -- behind_in
def f54 : Fn := ⟨2, 4, false, Ss.cons (S.ret (E.bi false .tuple (Es.cons (E.comp false (E.bin false .sub (E.var 3) (E.var 2)) (T.tup (Ts.cons (T.name 2) (Ts.cons (T.name 3) (Ts.nil)))) [2, 3] (It.zip (E.var 0) (E.var 1)) (Es.nil)) (Es.nil)))) (Ss.nil)⟩ -- more_of
def f55 : Fn := ⟨2, 5, false, Ss.cons (S.asg (T.name 2) (E.tup (Es.cons (E.call 54 (Es.cons (E.ix (E.var 0) (E.int 1)) (Es.cons (E.ix (E.var 1) (E.int 1)) (Es.nil)))) (Es.cons (E.call 54 (Es.cons (E.ix (E.var 0) (E.int 2)) (Es.cons (E.ix (E.var 1) (E.int 2)) (Es.nil)))) (Es.nil))))) (Ss.cons (S.ite (E.bi false .any (Es.cons (E.comp false (E.cmp .eq (E.bin false .mod (E.bi false .sum (Es.cons (E.var 3) (Es.nil))) (E.int 2)) (E.int 1)) (T.name 3) [3] (It.of (E.var 2)) (Es.nil)) (Es.nil))) (Ss.cons (S.ret (E.non)) (Ss.nil)) (Ss.nil)) (Ss.cons (S.ret (E.bi false .tuple (Es.cons (E.comp false (E.bin false .sub (E.bin false .fdiv (E.bi false .sum (Es.cons (E.ix (E.var 2) (E.bin false .mod (E.var 4) (E.int 2))) (Es.nil))) (E.int 2)) (E.ix (E.ix (E.var 2) (E.bin false .mod (E.var 4) (E.int 2))) (E.call 41 (Es.cons (E.var 4) (Es.nil))))) (T.name 4) [4] (It.rng (Es.cons (E.glo 2) (Es.nil))) (Es.nil)) (Es.nil)))) (Ss.nil)))⟩ -- counts_in
def f56 : Fn := ⟨2, 6, false, Ss.cons (S.asg (T.name 2) (E.comp false (E.var 5) (T.name 5) [5] (It.rng (Es.cons (E.glo 2) (Es.nil))) (Es.cons (E.cmp .eq (E.bin false .mod (E.var 5) (E.int 2)) (E.var 1)) (Es.nil)))) (Ss.cons (S.asg (T.name 3) (E.lst true (Es.nil))) (Ss.cons (S.for (T.name 4) (It.rng (Es.cons (E.glo 3) (Es.nil))) (Ss.cons (S.expr (E.mt false .append (E.var 3) (Es.cons (E.bi false .sum (Es.cons (E.comp false (E.ix (E.var 0) (E.var 5)) (T.name 5) [5] (It.of (E.var 2)) (Es.cons (E.cmp .ne (E.call 41 (Es.cons (E.var 5) (Es.nil))) (E.var 4)) (Es.nil))) (Es.nil))) (Es.nil)))) (Ss.nil))) (Ss.cons (S.ret (E.bi false .tuple (Es.cons (E.var 3) (Es.nil)))) (Ss.nil))))⟩ -- shift_in
def f57 : Fn := ⟨1, 3, false, Ss.cons (S.ret (E.bi false .tuple (Es.cons (E.comp false (E.var 1) (T.tup (Ts.cons (T.name 1) (Ts.cons (T.name 2) (Ts.nil)))) [1, 2] (It.enum (E.var 0)) (Es.cons (E.cmp .eq (E.bin false .mod (E.var 2) (E.int 2)) (E.int 1)) (Es.nil))) (Es.nil)))) (Ss.nil)⟩ -- odd_in
def f58 : Fn := ⟨3, 4, false, Ss.cons (S.ret (E.cmp .inn (E.callv (E.glo 66) (Es.cons (E.var 2) (Es.nil))) (E.comp false (E.bi false .tuple (Es.cons (E.bi false .sorted (Es.cons (E.var 3) (Es.nil))) (Es.nil))) (T.name 3) [3] (It.of (E.call 42 (Es.cons (E.var 0) (Es.cons (E.var 1) (Es.nil))))) (Es.nil)))) (Ss.nil)⟩ -- leads_in
def f59 : Fn := ⟨3, 3, false, Ss.cons (S.ret (E.bin false .fdiv (E.bin false .sub (E.bin false .add (E.var 0) (E.bi false .int (Es.cons (E.var 1) (Es.nil)))) (E.bi false .int (Es.cons (E.var 2) (Es.nil)))) (E.int 2))) (Ss.nil)⟩ -- halves_in
def f60 : Fn := ⟨3, 8, false, Ss.cons (S.swp [3, 4, 5] (Es.cons (E.call 56 (Es.cons (E.var 2) (Es.cons (E.int 0) (Es.nil)))) (Es.cons (E.call 56 (Es.cons (E.var 2) (Es.cons (E.int 1) (Es.nil)))) (Es.cons (E.lst true (Es.nil)) (Es.nil))))) (Ss.cons (S.for (T.name 6) (It.rng (Es.cons (E.glo 3) (Es.nil))) (Ss.cons (S.asg (T.name 7) (E.call 59 (Es.cons (E.ix (E.var 3) (E.var 6)) (Es.cons (E.cmp .eq (E.ix (E.ix (E.var 0) (E.int 0)) (E.int 0)) (E.var 6)) (Es.cons (E.cmp .eq (E.ix (E.var 1) (E.int 0)) (E.var 6)) (Es.nil)))))) (Ss.cons (S.asg (T.name 7) (E.bin false .add (E.var 7) (E.call 59 (Es.cons (E.ix (E.var 4) (E.var 6)) (Es.cons (E.cmp .eq (E.ix (E.ix (E.var 0) (E.int 0)) (E.int 1)) (E.var 6)) (Es.cons (E.cmp .eq (E.ix (E.var 1) (E.int 1)) (E.var 6)) (Es.nil))))))) (Ss.cons (S.expr (E.mt false .append (E.var 5) (Es.cons (E.ifx (E.cmp .eq (E.bin false .mod (E.var 7) (E.int 2)) (E.int 0)) (E.ix (E.ix (E.var 0) (E.int 3)) (E.var 6)) (E.bin false .sub (E.int 0) (E.ix (E.ix (E.var 0) (E.int 3)) (E.var 6)))) (Es.nil)))) (Ss.nil))))) (Ss.cons (S.ret (E.bi false .tuple (Es.cons (E.var 5) (Es.nil)))) (Ss.nil)))⟩ -- fronts_in
def f61 : Fn := ⟨3, 7, false, Ss.cons (S.ite (E.notE (E.call 58 (Es.cons (E.ix (E.var 0) (E.int 0)) (Es.cons (E.var 1) (Es.cons (E.var 2) (Es.nil)))))) (Ss.cons (S.ret (E.non)) (Ss.nil)) (Ss.nil)) (Ss.cons (S.asg (T.name 3) (E.bi false .tuple (Es.cons (E.comp false (E.bin false .add (E.var 6) (E.ix (E.ix (E.var 0) (E.int 1)) (E.var 5))) (T.tup (Ts.cons (T.name 5) (Ts.cons (T.name 6) (Ts.nil)))) [5, 6] (It.enum (E.call 56 (Es.cons (E.var 2) (Es.cons (E.int 0) (Es.nil))))) (Es.nil)) (Es.nil)))) (Ss.cons (S.asg (T.name 4) (E.bi false .tuple (Es.cons (E.comp false (E.bin false .add (E.var 6) (E.ix (E.ix (E.var 0) (E.int 2)) (E.var 5))) (T.tup (Ts.cons (T.name 5) (Ts.cons (T.name 6) (Ts.nil)))) [5, 6] (It.enum (E.call 56 (Es.cons (E.var 2) (Es.cons (E.int 1) (Es.nil))))) (Es.nil)) (Es.nil)))) (Ss.cons (S.ret (E.tup (Es.cons (E.var 1) (Es.cons (E.var 3) (Es.cons (E.var 4) (Es.cons (E.call 60 (Es.cons (E.var 0) (Es.cons (E.var 1) (Es.cons (E.var 2) (Es.nil))))) (Es.nil))))))) (Ss.nil))))⟩ -- stand_in
def f62 : Fn := ⟨3, 5, false, Ss.cons (S.swp [3, 4] (Es.cons (E.lst true (Es.cons (E.var 2) (Es.nil))) (Es.cons (E.bin false .mod (E.bin false .add (E.var 2) (E.int 1)) (E.glo 4)) (Es.nil)))) (Ss.cons (S.whl (E.and (Es.cons (E.cmp .nin (E.var 4) (E.var 0)) (Es.cons (E.cmp .eq (E.ix (E.var 1) (E.var 4)) (E.int 0)) (Es.cons (E.cmp .lt (E.bi false .len (Es.cons (E.var 3) (Es.nil))) (E.glo 4)) (Es.nil))))) (Ss.cons (S.expr (E.mt false .append (E.var 3) (Es.cons (E.var 4) (Es.nil)))) (Ss.cons (S.asg (T.name 4) (E.bin false .mod (E.bin false .add (E.var 4) (E.int 1)) (E.glo 4))) (Ss.nil)))) (Ss.cons (S.ret (E.bi false .tuple (Es.cons (E.var 3) (Es.nil)))) (Ss.nil)))⟩ -- stretch_from
def f63 : Fn := ⟨3, 6, false, Ss.cons (S.swp [3, 4] (Es.cons (E.lst false (Es.cons (E.call 40 (Es.cons (E.var 0) (Es.nil))) (Es.cons (E.call 40 (Es.cons (E.var 1) (Es.nil))) (Es.nil)))) (Es.cons (E.lst true (Es.nil)) (Es.nil)))) (Ss.cons (S.for (T.name 5) (It.rng (Es.cons (E.glo 4) (Es.nil))) (Ss.cons (S.ite (E.and (Es.cons (E.cmp .eq (E.ix (E.var 2) (E.var 5)) (E.int 0)) (Es.cons (E.or (Es.cons (E.cmp .inn (E.var 5) (E.var 3)) (Es.cons (E.cmp .ne (E.ix (E.var 2) (E.bin false .sub (E.var 5) (E.int 1))) (E.int 0)) (Es.nil)))) (Es.nil)))) (Ss.cons (S.expr (E.mt false .append (E.var 4) (Es.cons (E.call 62 (Es.cons (E.var 3) (Es.cons (E.var 2) (Es.cons (E.var 5) (Es.nil))))) (Es.nil)))) (Ss.nil)) (Ss.nil)) (Ss.nil))) (Ss.cons (S.ret (E.bi false .sorted (Es.cons (E.var 4) (Es.nil)))) (Ss.nil)))⟩ -- stretches_in
def f64 : Fn := ⟨2, 5, false, Ss.cons (S.asg (T.name 2) (E.comp false (E.call 6 (Es.cons (E.var 4) (Es.nil))) (T.name 4) [4] (It.of (E.call 63 (Es.cons (E.ix (E.var 0) (E.int 0)) (Es.cons (E.ix (E.var 1) (E.int 0)) (Es.cons (E.call 55 (Es.cons (E.var 0) (Es.cons (E.var 1) (Es.nil)))) (Es.nil)))))) (Es.nil))) (Ss.cons (S.asg (T.name 3) (E.bi false .max (Es.cons (E.bin false .add (E.lst false (Es.cons (E.int 0) (Es.nil))) (E.comp false (E.bi false .len (Es.cons (E.var 4) (Es.nil))) (T.name 4) [4] (It.of (E.var 2)) (Es.nil))) (Es.nil)))) (Ss.cons (S.ret (E.ifx (E.cmp .gt (E.var 3) (E.int 0)) (E.bi false .sset (Es.cons (E.comp false (E.var 4) (T.name 4) [4] (It.of (E.var 2)) (Es.cons (E.cmp .eq (E.bi false .len (Es.cons (E.var 4) (Es.nil))) (E.var 3)) (Es.nil))) (Es.nil))) (E.lst false (Es.cons (E.tup (Es.nil)) (Es.nil))))) (Ss.nil)))⟩ -- longest_in
def f65 : Fn := ⟨2, 7, false, Ss.cons (S.swp [2, 3] (Es.cons (E.call 55 (Es.cons (E.var 0) (Es.cons (E.var 1) (Es.nil)))) (Es.cons (E.ix (E.call 64 (Es.cons (E.var 0) (Es.cons (E.var 1) (Es.nil)))) (E.int 0)) (Es.nil)))) (Ss.cons (S.asg (T.name 4) (E.comp true (E.bi false .abs (Es.cons (E.var 6) (Es.nil))) (T.name 6) [6] (It.of (E.var 2)) (Es.nil))) (Ss.cons (S.for (T.name 5) (It.rng (Es.cons (E.int 6) (Es.nil))) (Ss.cons (S.ite (E.and (Es.cons (E.cmp .eq (E.ix (E.var 2) (E.var 5)) (E.int 0)) (Es.cons (E.cmp .nin (E.var 5) (E.var 3)) (Es.nil)))) (Ss.cons (S.asg (T.sub (E.var 4) (E.var 5)) (E.int 2)) (Ss.nil)) (Ss.nil)) (Ss.nil))) (Ss.cons (S.ret (E.var 4)) (Ss.nil))))⟩ -- times_in
def f66 : Fn := ⟨3, 9, false, Ss.cons (S.par (Ts.cons (T.name 3) (Ts.cons (T.name 4) (Ts.nil))) (Es.cons (E.lst true (Es.cons (E.var 1) (Es.nil))) (Es.cons (E.lst false (Es.cons (E.var 1) (Es.nil))) (Es.nil)))) (Ss.cons (S.whl (E.cmp .ne (E.var 4) (E.lst false (Es.nil))) (Ss.cons (S.asg (T.name 5) (E.lst true (Es.nil))) (Ss.cons (S.for (T.name 6) (It.of (E.var 4)) (Ss.cons (S.for (T.tup (Ts.cons (T.name 7) (Ts.cons (T.name 8) (Ts.nil)))) (It.of (E.tup (Es.cons (E.tup (Es.cons (E.var 6) (Es.cons (E.bin false .mod (E.bin false .add (E.var 6) (E.int 1)) (E.int 6)) (Es.nil)))) (Es.cons (E.tup (Es.cons (E.bin false .mod (E.bin false .add (E.var 6) (E.int 5)) (E.int 6)) (Es.cons (E.bin false .mod (E.bin false .add (E.var 6) (E.int 5)) (E.int 6)) (Es.nil)))) (Es.nil))))) (Ss.cons (S.ite (E.and (Es.cons (E.cmp .gt (E.ix (E.var 0) (E.var 7)) (E.int 0)) (Es.cons (E.cmp .nin (E.var 8) (E.var 3)) (Es.nil)))) (Ss.cons (S.expr (E.mt false .append (E.var 3) (Es.cons (E.var 8) (Es.nil)))) (Ss.cons (S.expr (E.mt false .append (E.var 5) (Es.cons (E.var 8) (Es.nil)))) (Ss.nil))) (Ss.nil)) (Ss.nil))) (Ss.nil))) (Ss.frz 5 (Ss.cons (S.asg (T.name 4) (E.var 5)) (Ss.nil)))))) (Ss.cons (S.ret (E.and (Es.cons (E.cmp .inn (E.var 2) (E.var 3)) (Es.cons (E.bi false .all (Es.cons (E.comp false (E.or (Es.cons (E.cmp .eq (E.ix (E.var 0) (E.var 7)) (E.int 0)) (Es.cons (E.cmp .inn (E.var 7) (E.var 3)) (Es.nil)))) (T.name 7) [7] (It.rng (Es.cons (E.int 6) (Es.nil))) (Es.nil)) (Es.nil))) (Es.nil))))) (Ss.nil)))⟩ -- hangs
def f67 : Fn := ⟨2, 2, false, Ss.cons (S.ret (E.ifx (E.var 1) (E.bin false .mod (E.var 0) (E.int 2)) (E.bin false .add (E.bin false .mod (E.var 0) (E.int 2)) (E.int 2)))) (Ss.nil)⟩ -- way_over
def f68 : Fn := ⟨3, 14, false, Ss.cons (S.par (Ts.cons (T.name 3) (Ts.cons (T.name 4) (Ts.cons (T.name 5) (Ts.nil)))) (Es.cons (E.call 55 (Es.cons (E.var 0) (Es.cons (E.var 1) (Es.nil)))) (Es.cons (E.var 2) (Es.cons (E.lst true (Es.nil)) (Es.nil))))) (Ss.cons (S.swp [6, 7] (Es.cons (E.call 40 (Es.cons (E.ix (E.var 0) (E.int 0)) (Es.nil))) (Es.cons (E.call 40 (Es.cons (E.ix (E.var 1) (E.int 0)) (Es.nil))) (Es.nil)))) (Ss.cons (S.for (T.name 8) (It.rng (Es.cons (E.bi false .sum (Es.cons (E.var 2) (Es.nil))) (Es.nil))) (Ss.cons (S.for (T.tup (Ts.cons (T.name 9) (Ts.cons (T.name 10) (Ts.nil)))) (It.of (E.tup (Es.cons (E.tup (Es.cons (E.var 6) (Es.cons (E.bin false .mod (E.bin false .add (E.var 6) (E.int 1)) (E.int 6)) (Es.nil)))) (Es.cons (E.tup (Es.cons (E.bin false .mod (E.bin false .add (E.var 6) (E.int 5)) (E.int 6)) (Es.cons (E.bin false .mod (E.bin false .add (E.var 6) (E.int 5)) (E.int 6)) (Es.nil)))) (Es.nil))))) (Ss.cons (S.asg (T.name 11) (E.comp false (E.ifx (E.cmp .eq (E.var 13) (E.var 9)) (E.bin false .sub (E.ix (E.var 4) (E.var 13)) (E.int 1)) (E.ix (E.var 4) (E.var 13))) (T.name 13) [13] (It.rng (Es.cons (E.int 6) (Es.nil))) (Es.nil))) (Ss.cons (S.ite (E.or (Es.cons (E.cmp .gt (E.ix (E.var 11) (E.var 9)) (E.int 0)) (Es.cons (E.and (Es.cons (E.cmp .eq (E.ix (E.var 11) (E.var 9)) (E.int 0)) (Es.cons (E.call 66 (Es.cons (E.var 11) (Es.cons (E.var 10) (Es.cons (E.var 7) (Es.nil))))) (Es.nil)))) (Es.nil)))) (Ss.cons (S.asg (T.name 12) (E.or (Es.cons (E.cmp .gt (E.ix (E.var 3) (E.var 9)) (E.int 0)) (Es.cons (E.and (Es.cons (E.cmp .eq (E.ix (E.var 3) (E.var 9)) (E.int 0)) (Es.cons (E.cmp .eq (E.ix (E.var 4) (E.var 9)) (E.int 2)) (Es.nil)))) (Es.nil))))) (Ss.cons (S.expr (E.mt false .append (E.var 5) (Es.cons (E.tup (Es.cons (E.str (sx [116, 105, 112])) (Es.cons (E.call 67 (Es.cons (E.var 9) (Es.cons (E.var 12) (Es.nil)))) (Es.nil)))) (Es.nil)))) (Ss.cons (S.par (Ts.cons (T.name 4) (Ts.cons (T.name 6) (Ts.nil))) (Es.cons (E.var 11) (Es.cons (E.var 10) (Es.nil)))) (Ss.cons (S.brk) (Ss.nil))))) (Ss.nil)) (Ss.nil)))) (Ss.nil))) (Ss.cons (S.ret (E.bi false .tuple (Es.cons (E.var 5) (Es.nil)))) (Ss.nil))))⟩ -- row_by_times
def f69 : Fn := ⟨2, 2, false, Ss.cons (S.ret (E.call 68 (Es.cons (E.var 0) (Es.cons (E.var 1) (Es.cons (E.call 65 (Es.cons (E.var 0) (Es.cons (E.var 1) (Es.nil)))) (Es.nil)))))) (Ss.nil)⟩ -- plan_in
def f70 : Fn := ⟨1, 3, false, Ss.cons (S.asg (T.name 1) (E.call 4 (Es.cons (E.var 0) (Es.nil)))) (Ss.cons (S.ite (E.or (Es.cons (E.notE (E.call 3 (Es.cons (E.var 1) (Es.cons (E.int 2) (Es.nil))))) (Es.cons (E.notE (E.bi false .all (Es.cons (E.comp false (E.call 0 (Es.cons (E.var 2) (Es.nil))) (T.name 2) [2] (It.of (E.var 1)) (Es.nil)) (Es.nil)))) (Es.nil)))) (Ss.cons (S.raise 2 (Es.nil)) (Ss.nil)) (Ss.nil)) (Ss.cons (S.ret (E.var 1)) (Ss.nil)))⟩ -- sure_middle
def f71 : Fn := ⟨5, 7, false, Ss.cons (S.asg (T.name 5) (E.lst true (Es.nil))) (Ss.cons (S.for (T.name 6) (It.of (E.var 3)) (Ss.cons (S.ite (E.cmp .eq (E.bin false .mod (E.var 6) (E.int 2)) (E.var 2)) (Ss.cons (S.expr (E.mt false .append (E.var 5) (Es.cons (E.tup (Es.cons (E.bin false .sub (E.bi false .sum (Es.cons (E.var 0) (Es.nil))) (E.ix (E.var 0) (E.call 41 (Es.cons (E.var 6) (Es.nil))))) (Es.cons (E.cmp .inn (E.var 6) (E.var 1)) (Es.cons (E.var 4) (Es.nil))))) (Es.nil)))) (Ss.nil)) (Ss.nil)) (Ss.nil))) (Ss.cons (S.ret (E.bi false .tuple (Es.cons (E.var 5) (Es.nil)))) (Ss.nil)))⟩ -- coins_in
def f72 : Fn := ⟨3, 6, false, Ss.cons (S.swp [3, 4] (Es.cons (E.call 37 (Es.cons (E.var 0) (Es.nil))) (Es.cons (E.call 4 (Es.cons (E.var 1) (Es.nil))) (Es.nil)))) (Ss.cons (S.ite (E.or (Es.cons (E.notE (E.isi (E.var 4) [.tuple])) (Es.cons (E.notE (E.bi false .all (Es.cons (E.comp false (E.and (Es.cons (E.call 0 (Es.cons (E.var 5) (Es.nil))) (Es.cons (E.chn .le .lt (E.int 0) (E.var 5) (E.glo 5)) (Es.nil)))) (T.name 5) [5] (It.of (E.var 4)) (Es.nil)) (Es.nil)))) (Es.nil)))) (Ss.cons (S.raise 2 (Es.nil)) (Ss.nil)) (Ss.nil)) (Ss.cons (S.ite (E.or (Es.cons (E.notE (E.call 5 (Es.cons (E.var 4) (Es.nil)))) (Es.cons (E.notE (E.call 0 (Es.cons (E.var 2) (Es.nil)))) (Es.cons (E.cmp .nin (E.var 2) (E.tup (Es.cons (E.int 0) (Es.cons (E.int 1) (Es.nil))))) (Es.nil))))) (Ss.cons (S.raise 2 (Es.nil)) (Ss.nil)) (Ss.nil)) (Ss.cons (S.ret (E.call 71 (Es.cons (E.var 3) (Es.cons (E.var 4) (Es.cons (E.var 2) (Es.cons (E.glo 6) (Es.cons (E.bl false) (Es.nil)))))))) (Ss.nil))))⟩ -- link_coins
def f73 : Fn := ⟨3, 4, false, Ss.cons (S.asg (T.name 3) (E.call 51 (Es.cons (E.var 0) (Es.cons (E.var 1) (Es.nil))))) (Ss.cons (S.ret (E.tup (Es.cons (E.bin false .sub (E.ix (E.var 2) (E.int 0)) (E.ix (E.var 3) (E.int 0))) (Es.cons (E.bin false .sub (E.ix (E.var 2) (E.int 1)) (E.ix (E.var 3) (E.int 1))) (Es.nil))))) (Ss.nil))⟩ -- left_in
def f74 : Fn := ⟨3, 5, false, Ss.cons (S.swp [3, 4] (Es.cons (E.call 37 (Es.cons (E.var 0) (Es.nil))) (Es.cons (E.call 44 (Es.cons (E.var 1) (Es.nil))) (Es.nil)))) (Ss.cons (S.ret (E.call 73 (Es.cons (E.var 3) (Es.cons (E.var 4) (Es.cons (E.call 70 (Es.cons (E.var 2) (Es.nil))) (Es.nil)))))) (Ss.nil))⟩ -- way_left
def f75 : Fn := ⟨4, 7, false, Ss.cons (S.swp [4, 5, 6] (Es.cons (E.call 37 (Es.cons (E.var 0) (Es.nil))) (Es.cons (E.call 44 (Es.cons (E.var 1) (Es.nil))) (Es.cons (E.call 39 (Es.cons (E.var 2) (Es.nil))) (Es.nil))))) (Ss.cons (S.ret (E.tup (Es.cons (E.var 4) (Es.cons (E.var 5) (Es.cons (E.var 6) (Es.cons (E.call 73 (Es.cons (E.var 4) (Es.cons (E.var 5) (Es.cons (E.call 70 (Es.cons (E.var 3) (Es.nil))) (Es.nil))))) (Es.nil))))))) (Ss.nil))⟩ -- sure_aim
def f76 : Fn := ⟨2, 9, false, Ss.cons (S.swp [2, 3, 4] (Es.cons (E.call 40 (Es.cons (E.var 0) (Es.nil))) (Es.cons (E.call 40 (Es.cons (E.var 1) (Es.nil))) (Es.cons (E.lst true (Es.cons (E.tup (Es.nil)) (Es.nil))) (Es.nil))))) (Ss.cons (S.for (T.name 5) (It.rng (Es.cons (E.int 1) (Es.cons (E.glo 5) (Es.nil)))) (Ss.cons (S.for (T.name 6) (It.rng (Es.cons (E.glo 5) (Es.nil))) (Ss.cons (S.asg (T.name 7) (E.comp false (E.bin false .mod (E.bin false .add (E.var 6) (E.var 8)) (E.glo 5)) (T.name 8) [8] (It.rng (Es.cons (E.int 1) (Es.cons (E.var 5) (Es.nil)))) (Es.nil))) (Ss.cons (S.ite (E.and (Es.cons (E.cmp .nin (E.var 2) (E.var 7)) (Es.cons (E.cmp .nin (E.var 3) (E.var 7)) (Es.nil)))) (Ss.cons (S.expr (E.mt false .append (E.var 4) (Es.cons (E.bi false .tuple (Es.cons (E.comp false (E.bin false .mod (E.bin false .add (E.var 6) (E.var 8)) (E.glo 5)) (T.name 8) [8] (It.rng (Es.cons (E.var 5) (Es.nil))) (Es.nil)) (Es.nil))) (Es.nil)))) (Ss.nil)) (Ss.nil)) (Ss.nil)))) (Ss.nil))) (Ss.frz 4 (Ss.cons (S.ret (E.ifx (E.cmp .eq (E.var 2) (E.var 3)) (E.bin false .add (E.var 4) (E.lst false (Es.cons (E.bi false .rngT (Es.cons (E.glo 5) (Es.nil))) (Es.nil)))) (E.var 4))) (Ss.nil))))⟩ -- runs_in
def f77 : Fn := ⟨3, 4, false, Ss.cons (S.ret (E.cmp .eq (E.comp false (E.var 3) (T.name 3) [3] (It.of (E.tup (Es.cons (E.int 0) (Es.cons (E.int 1) (Es.nil))))) (Es.cons (E.call 33 (Es.cons (E.call 71 (Es.cons (E.var 0) (Es.cons (E.var 1) (Es.cons (E.var 3) (Es.cons (E.glo 6) (Es.cons (E.bl false) (Es.nil))))))) (Es.cons (E.ix (E.var 2) (E.var 3)) (Es.nil)))) (Es.nil))) (E.lst false (Es.nil)))) (Ss.nil)⟩ -- arc_can_in
def f78 : Fn := ⟨4, 9, false, Ss.cons (S.asg (T.tup (Ts.cons (T.name 4) (Ts.cons (T.name 5) (Ts.cons (T.name 6) (Ts.cons (T.name 7) (Ts.nil)))))) (E.call 75 (Es.cons (E.var 0) (Es.cons (E.var 1) (Es.cons (E.var 2) (Es.cons (E.var 3) (Es.nil))))))) (Ss.cons (S.ret (E.bi false .any (Es.cons (E.comp false (E.call 77 (Es.cons (E.var 4) (Es.cons (E.var 8) (Es.cons (E.var 7) (Es.nil))))) (T.name 8) [8] (It.of (E.call 42 (Es.cons (E.ix (E.var 5) (E.int 0)) (Es.cons (E.var 6) (Es.nil))))) (Es.nil)) (Es.nil)))) (Ss.nil))⟩ -- can_tip_there
def f79 : Fn := ⟨5, 9, false, Ss.cons (S.asg (T.name 5) (E.lst true (Es.nil))) (Ss.cons (S.for (T.name 6) (It.of (E.tup (Es.cons (E.int 0) (Es.cons (E.int 1) (Es.nil))))) (Ss.cons (S.asg (T.name 7) (E.bi false .tuple (Es.cons (E.comp false (E.var 8) (T.name 8) [8] (It.of (E.var 3)) (Es.cons (E.cmp .eq (E.bin false .mod (E.var 8) (E.int 2)) (E.var 6)) (Es.nil))) (Es.nil)))) (Ss.cons (S.ite (E.cmp .nin (E.tup (Es.cons (E.var 2) (Es.cons (E.var 6) (Es.cons (E.var 7) (Es.nil))))) (E.var 0)) (Ss.cons (S.asg (T.sub (E.var 0) (E.tup (Es.cons (E.var 2) (Es.cons (E.var 6) (Es.cons (E.var 7) (Es.nil)))))) (E.call 27 (Es.cons (E.call 71 (Es.cons (E.var 1) (Es.cons (E.var 2) (Es.cons (E.var 6) (Es.cons (E.var 7) (Es.cons (E.bl true) (Es.nil))))))) (Es.cons (E.ix (E.var 4) (E.var 6)) (Es.nil))))) (Ss.nil)) (Ss.nil)) (Ss.cons (S.expr (E.mt false .append (E.var 5) (Es.cons (E.ix (E.var 0) (E.tup (Es.cons (E.var 2) (Es.cons (E.var 6) (Es.cons (E.var 7) (Es.nil)))))) (Es.nil)))) (Ss.nil))))) (Ss.cons (S.ret (E.bi false .tuple (Es.cons (E.var 5) (Es.nil)))) (Ss.nil)))⟩ -- paid_in
def f80 : Fn := ⟨2, 7, false, Ss.cons (S.asg (T.name 2) (E.bin true .mul (E.lst false (Es.cons (E.int 0) (Es.nil))) (E.glo 5))) (Ss.cons (S.for (T.name 3) (It.of (E.tup (Es.cons (E.int 0) (Es.cons (E.int 1) (Es.nil))))) (Ss.cons (S.asg (T.name 4) (E.comp false (E.var 5) (T.name 5) [5] (It.of (E.var 0)) (Es.cons (E.cmp .eq (E.bin false .mod (E.var 5) (E.int 2)) (E.var 3)) (Es.nil)))) (Ss.cons (S.for (T.tup (Ts.cons (T.name 5) (Ts.cons (T.name 6) (Ts.nil)))) (It.zip (E.var 4) (E.ix (E.var 1) (E.var 3))) (Ss.cons (S.asg (T.sub (E.var 2) (E.var 5)) (E.var 6)) (Ss.nil))) (Ss.nil)))) (Ss.cons (S.ret (E.bi false .tuple (Es.cons (E.var 2) (Es.nil)))) (Ss.nil)))⟩ -- counts_by
def f81 : Fn := ⟨4, 13, false, Ss.cons (S.swp [4, 5] (Es.cons (E.non) (Es.cons (E.dct) (Es.nil)))) (Ss.cons (S.for (T.name 6) (It.of (E.call 42 (Es.cons (E.ix (E.var 1) (E.int 0)) (Es.cons (E.var 2) (Es.nil))))) (Ss.cons (S.ite (E.notE (E.call 77 (Es.cons (E.var 0) (Es.cons (E.var 6) (Es.cons (E.var 3) (Es.nil)))))) (Ss.cons (S.cont) (Ss.nil)) (Ss.nil)) (Ss.cons (S.for (T.name 7) (It.of (E.call 76 (Es.cons (E.ix (E.var 1) (E.int 0)) (Es.cons (E.var 2) (Es.nil))))) (Ss.cons (S.ite (E.bi false .any (Es.cons (E.comp false (E.cmp .inn (E.var 12) (E.var 6)) (T.name 12) [12] (It.of (E.var 7)) (Es.nil)) (Es.nil))) (Ss.cons (S.cont) (Ss.nil)) (Ss.nil)) (Ss.cons (S.asg (T.name 8) (E.bi false .tuple (Es.cons (E.comp false (E.var 12) (T.name 12) [12] (It.rng (Es.cons (E.glo 5) (Es.nil))) (Es.cons (E.cmp .nin (E.var 12) (E.var 7)) (Es.nil))) (Es.nil)))) (Ss.cons (S.asg (T.tup (Ts.cons (T.name 9) (Ts.cons (T.name 10) (Ts.nil)))) (E.call 79 (Es.cons (E.var 5) (Es.cons (E.var 0) (Es.cons (E.var 6) (Es.cons (E.var 8) (Es.cons (E.var 3) (Es.nil)))))))) (Ss.cons (S.ite (E.or (Es.cons (E.isN (E.var 9)) (Es.cons (E.isN (E.var 10)) (Es.nil)))) (Ss.cons (S.cont) (Ss.nil)) (Ss.nil)) (Ss.cons (S.asg (T.name 11) (E.tup (Es.cons (E.bin false .add (E.ix (E.var 9) (E.int 0)) (E.ix (E.var 10) (E.int 0))) (Es.cons (E.call 80 (Es.cons (E.var 8) (Es.cons (E.tup (Es.cons (E.ix (E.var 9) (E.int 1)) (Es.cons (E.ix (E.var 10) (E.int 1)) (Es.nil)))) (Es.nil)))) (Es.nil))))) (Ss.cons (S.asg (T.name 4) (E.ifx (E.or (Es.cons (E.isN (E.var 4)) (Es.cons (E.cmp .lt (E.var 11) (E.var 4)) (Es.nil)))) (E.var 11) (E.var 4))) (Ss.nil)))))))) (Ss.nil)))) (Ss.cons (S.ret (E.var 4)) (Ss.nil)))⟩ -- best_told
def f82 : Fn := ⟨4, 9, false, Ss.cons (S.asg (T.tup (Ts.cons (T.name 4) (Ts.cons (T.name 5) (Ts.cons (T.name 6) (Ts.cons (T.name 7) (Ts.nil)))))) (E.call 75 (Es.cons (E.var 0) (Es.cons (E.var 1) (Es.cons (E.var 2) (Es.cons (E.var 3) (Es.nil))))))) (Ss.cons (S.asg (T.name 8) (E.call 81 (Es.cons (E.var 4) (Es.cons (E.var 5) (Es.cons (E.var 6) (Es.cons (E.var 7) (Es.nil))))))) (Ss.cons (S.ite (E.isN (E.var 8)) (Ss.cons (S.raise 0 (Es.nil)) (Ss.nil)) (Ss.nil)) (Ss.cons (S.ret (E.var 8)) (Ss.nil))))⟩ -- sure_told
def f83 : Fn := ⟨4, 4, false, Ss.cons (S.ret (E.ix (E.call 82 (Es.cons (E.var 0) (Es.cons (E.var 1) (Es.cons (E.var 2) (Es.cons (E.var 3) (Es.nil)))))) (E.int 0))) (Ss.nil)⟩ -- fewest_to
def f84 : Fn := ⟨4, 4, false, Ss.cons (S.ret (E.ix (E.call 82 (Es.cons (E.var 0) (Es.cons (E.var 1) (Es.cons (E.var 2) (Es.cons (E.var 3) (Es.nil)))))) (E.int 1))) (Ss.nil)⟩ -- best_counts
def f85 : Fn := ⟨4, 5, false, Ss.cons (S.asg (T.name 4) (E.call 84 (Es.cons (E.var 0) (Es.cons (E.var 1) (Es.cons (E.var 2) (Es.cons (E.var 3) (Es.nil))))))) (Ss.cons (S.ret (E.call 61 (Es.cons (E.call 44 (Es.cons (E.var 1) (Es.nil))) (Es.cons (E.call 39 (Es.cons (E.var 2) (Es.nil))) (Es.cons (E.var 4) (Es.nil)))))) (Ss.nil))⟩ -- best_goal
def f86 : Fn := ⟨4, 7, false, Ss.cons (S.asg (T.tup (Ts.cons (T.name 4) (Ts.cons (T.name 5) (Ts.nil)))) (E.call 82 (Es.cons (E.var 0) (Es.cons (E.var 1) (Es.cons (E.var 2) (Es.cons (E.var 3) (Es.nil))))))) (Ss.cons (S.ite (E.cmp .gt (E.var 4) (E.glo 7)) (Ss.cons (S.raise 1 (Es.nil)) (Ss.nil)) (Ss.nil)) (Ss.cons (S.asg (T.name 6) (E.call 44 (Es.cons (E.var 1) (Es.nil)))) (Ss.cons (S.ret (E.call 69 (Es.cons (E.var 6) (Es.cons (E.call 61 (Es.cons (E.var 6) (Es.cons (E.call 39 (Es.cons (E.var 2) (Es.nil))) (Es.cons (E.var 5) (Es.nil))))) (Es.nil))))) (Ss.nil))))⟩ -- tip_row
def f87 : Fn := ⟨5, 12, false, Ss.cons (S.asg (T.tup (Ts.cons (T.name 5) (Ts.cons (T.name 6) (Ts.cons (T.name 7) (Ts.cons (T.name 8) (Ts.nil)))))) (E.call 75 (Es.cons (E.var 0) (Es.cons (E.var 1) (Es.cons (E.var 2) (Es.cons (E.var 3) (Es.nil))))))) (Ss.cons (S.ite (E.or (Es.cons (E.notE (E.call 52 (Es.cons (E.var 4) (Es.nil)))) (Es.cons (E.notE (E.bi false .all (Es.cons (E.comp false (E.cmp .eq (E.ix (E.var 11) (E.int 0)) (E.str (sx [116, 105, 112]))) (T.name 11) [11] (It.of (E.var 4)) (Es.nil)) (Es.nil)))) (Es.nil)))) (Ss.cons (S.ret (E.bl false)) (Ss.nil)) (Ss.nil)) (Ss.cons (S.swp [9, 10] (Es.cons (E.call 81 (Es.cons (E.var 5) (Es.cons (E.var 6) (Es.cons (E.var 7) (Es.cons (E.var 8) (Es.nil)))))) (Es.cons (E.call 53 (Es.cons (E.var 6) (Es.cons (E.var 4) (Es.nil)))) (Es.nil)))) (Ss.cons (S.ite (E.or (Es.cons (E.isN (E.var 9)) (Es.cons (E.cmp .ne (E.ix (E.var 9) (E.int 0)) (E.bi false .len (Es.cons (E.var 4) (Es.nil)))) (Es.cons (E.cmp .ne (E.ix (E.var 10) (E.int 0)) (E.var 7)) (Es.nil))))) (Ss.cons (S.ret (E.bl false)) (Ss.nil)) (Ss.nil)) (Ss.cons (S.ret (E.cmp .eq (E.call 73 (Es.cons (E.var 5) (Es.cons (E.var 10) (Es.cons (E.call 70 (Es.cons (E.var 3) (Es.nil))) (Es.nil))))) (E.tup (Es.cons (E.int 0) (Es.cons (E.int 0) (Es.nil)))))) (Ss.nil)))))⟩ -- is_tip_row
def f88 : Fn := ⟨3, 5, false, Ss.cons (S.for (T.name 3) (It.of (E.tup (Es.cons (E.int 0) (Es.cons (E.int 1) (Es.nil))))) (Ss.cons (S.asg (T.name 4) (E.call 33 (Es.cons (E.call 71 (Es.cons (E.var 0) (Es.cons (E.var 1) (Es.cons (E.var 3) (Es.cons (E.glo 6) (Es.cons (E.bl false) (Es.nil))))))) (Es.cons (E.ix (E.var 2) (E.var 3)) (Es.nil))))) (Ss.cons (S.ite (E.notN (E.var 4)) (Ss.cons (S.ret (E.tup (Es.cons (E.var 3) (Es.cons (E.var 4) (Es.nil))))) (Ss.nil)) (Ss.nil)) (Ss.nil)))) (Ss.cons (S.ret (E.non)) (Ss.nil))⟩ -- arc_bar_in
def f89 : Fn := ⟨4, 10, false, Ss.cons (S.asg (T.tup (Ts.cons (T.name 4) (Ts.cons (T.name 5) (Ts.cons (T.name 6) (Ts.cons (T.name 7) (Ts.nil)))))) (E.call 75 (Es.cons (E.var 0) (Es.cons (E.var 1) (Es.cons (E.var 2) (Es.cons (E.var 3) (Es.nil))))))) (Ss.cons (S.asg (T.name 8) (E.bi false .tuple (Es.cons (E.comp false (E.call 88 (Es.cons (E.var 4) (Es.cons (E.var 9) (Es.cons (E.var 7) (Es.nil))))) (T.name 9) [9] (It.of (E.call 42 (Es.cons (E.ix (E.var 5) (E.int 0)) (Es.cons (E.var 6) (Es.nil))))) (Es.nil)) (Es.nil)))) (Ss.cons (S.ite (E.cmp .inn (E.non) (E.var 8)) (Ss.cons (S.raise 0 (Es.nil)) (Ss.nil)) (Ss.nil)) (Ss.cons (S.ret (E.var 8)) (Ss.nil))))⟩ -- why_never
def f90 : Fn := ⟨4, 4, false, Ss.cons (S.ite (E.or (Es.cons (E.notE (E.call 3 (Es.cons (E.var 3) (Es.cons (E.int 2) (Es.nil))))) (Es.cons (E.notE (E.call 0 (Es.cons (E.ix (E.var 3) (E.int 0)) (Es.nil)))) (Es.cons (E.cmp .nin (E.ix (E.var 3) (E.int 0)) (E.tup (Es.cons (E.int 0) (Es.cons (E.int 1) (Es.nil))))) (Es.nil))))) (Ss.cons (S.ret (E.bl false)) (Ss.nil)) (Ss.nil)) (Ss.cons (S.ret (E.call 32 (Es.cons (E.call 71 (Es.cons (E.var 0) (Es.cons (E.var 1) (Es.cons (E.ix (E.var 3) (E.int 0)) (Es.cons (E.glo 6) (Es.cons (E.bl false) (Es.nil))))))) (Es.cons (E.ix (E.var 2) (E.ix (E.var 3) (E.int 0))) (Es.cons (E.ix (E.var 3) (E.int 1)) (Es.nil)))))) (Ss.nil))⟩ -- is_arc_bar
def f91 : Fn := ⟨5, 12, false, Ss.cons (S.asg (T.tup (Ts.cons (T.name 5) (Ts.cons (T.name 6) (Ts.cons (T.name 7) (Ts.cons (T.name 8) (Ts.nil)))))) (E.call 75 (Es.cons (E.var 0) (Es.cons (E.var 1) (Es.cons (E.var 2) (Es.cons (E.var 3) (Es.nil))))))) (Ss.cons (S.ite (E.notE (E.call 3 (Es.cons (E.var 4) (Es.cons (E.int 2) (Es.nil))))) (Ss.cons (S.ret (E.bl false)) (Ss.nil)) (Ss.nil)) (Ss.cons (S.asg (T.name 9) (E.call 42 (Es.cons (E.ix (E.var 6) (E.int 0)) (Es.cons (E.var 7) (Es.nil))))) (Ss.cons (S.ret (E.bi false .all (Es.cons (E.comp false (E.call 90 (Es.cons (E.var 5) (Es.cons (E.var 10) (Es.cons (E.var 8) (Es.cons (E.var 11) (Es.nil)))))) (T.tup (Ts.cons (T.name 10) (Ts.cons (T.name 11) (Ts.nil)))) [10, 11] (It.zip (E.var 9) (E.var 4)) (Es.nil)) (Es.nil)))) (Ss.nil))))⟩ -- is_why_never
def f92 : Fn := ⟨2, 3, true, Ss.cons (S.asg (T.name 2) (E.ifx (E.cmp .lt (E.var 1) (E.bi false .len (Es.cons (E.var 0) (Es.nil)))) (E.ix (E.var 0) (E.var 1)) (E.int 0))) (Ss.cons (S.ret (E.lst true (Es.cons (E.bin false .mul (E.bi false .abs (Es.cons (E.var 2) (Es.nil))) (E.bi false .int (Es.cons (E.cmp .ge (E.bi false .abs (Es.cons (E.var 2) (Es.nil))) (E.bin false .pow (E.int 10) (E.int 18))) (Es.nil)))) (Es.cons (E.bin false .add (E.bin false .add (E.bin false .mod (E.bi false .int (Es.cons (E.var 2) (Es.nil))) (E.int 2305843009213693951)) (E.bin false .mul (E.int 39373) (E.var 1))) (E.int 3194042)) (Es.cons (E.int 0) (Es.nil)))))) (Ss.nil))⟩ -- _law_box
def f93 : Fn := ⟨2, 6, false, Ss.cons (S.ite (E.cmp .gt (E.ix (E.var 0) (E.int 0)) (E.int 0)) (Ss.cons (S.asg (T.name 2) (E.bin false .mod (E.bi false .int (Es.cons (E.ix (E.var 0) (E.int 0)) (Es.nil))) (E.var 1))) (Ss.cons (S.asg (T.sub (E.var 0) (E.int 0)) (E.bin false .fdiv (E.ix (E.var 0) (E.int 0)) (E.var 1))) (Ss.cons (S.ret (E.var 2)) (Ss.nil)))) (Ss.nil)) (Ss.cons (S.asg (T.sub (E.var 0) (E.int 2)) (E.bin false .add (E.ix (E.var 0) (E.int 2)) (E.int 1))) (Ss.cons (S.asg (T.name 3) (E.bin false .mod (E.bi false .int (Es.cons (E.bin false .mul (E.bin false .add (E.ix (E.var 0) (E.int 1)) (E.bin false .mul (E.int 48271) (E.ix (E.var 0) (E.int 2)))) (E.bin false .add (E.int 39373) (E.ix (E.var 0) (E.int 2)))) (Es.nil))) (E.int 2147483647))) (Ss.cons (S.asg (T.name 4) (E.bin false .add (E.bin false .mod (E.bi false .int (Es.cons (E.var 3) (Es.nil))) (E.int 40009)) (E.int 7))) (Ss.cons (S.asg (T.name 5) (E.bin false .mod (E.bi false .int (Es.cons (E.bin false .mul (E.bin false .add (E.bin false .add (E.var 3) (E.ix (E.var 0) (E.int 2))) (E.bin false .fdiv (E.ix (E.var 0) (E.int 1)) (E.int 1000003))) (E.var 4)) (Es.nil))) (E.int 2147483629))) (Ss.cons (S.ret (E.bin false .mod (E.bi false .int (Es.cons (E.bin false .fdiv (E.bin false .mod (E.bi false .int (Es.cons (E.bin false .add (E.bin false .mul (E.var 5) (E.int 48271)) (E.var 3)) (Es.nil))) (E.int 2147483587)) (E.int 64)) (Es.nil))) (E.var 1))) (Ss.nil))))))⟩ -- _law_take
def f94 : Fn := ⟨2, 6, false, Ss.cons (S.asg (T.name 2) (E.or (Es.cons (E.bi true .list (Es.cons (E.sl false (E.var 0) (E.absent) (E.var 1)) (Es.nil))) (Es.cons (E.lst true (Es.cons (E.int 0) (Es.nil))) (Es.nil))))) (Ss.cons (S.for (T.tup (Ts.cons (T.name 3) (Ts.cons (T.name 4) (Ts.nil)))) (It.enum (E.sl false (E.var 0) (E.var 1) (E.int 63))) (Ss.cons (S.asg (T.name 5) (E.bin false .mod (E.bi false .int (Es.cons (E.var 3) (Es.nil))) (E.var 1))) (Ss.cons (S.asg (T.sub (E.var 2) (E.var 5)) (E.bin false .add (E.ix (E.var 2) (E.var 5)) (E.bin false .mul (E.var 4) (E.bin false .add (E.var 3) (E.int 2))))) (Ss.nil)))) (Ss.cons (S.ret (E.var 2)) (Ss.nil)))⟩ -- _law_cells
def f95 : Fn := ⟨1, 2, false, Ss.cons (S.ret (E.ifx (E.isi (E.var 0) [.list, .tuple]) (E.comp false (E.call 95 (Es.cons (E.var 1) (Es.nil))) (T.name 1) [1] (It.of (E.var 0)) (Es.nil)) (E.var 0))) (Ss.nil)⟩ -- _law_lists
def f96 : Fn := ⟨2, 4, false, Ss.cons (S.ite (E.isi (E.var 1) [.list, .tuple]) (Ss.cons (S.ite (E.or (Es.cons (E.cmp .ne (E.isi (E.var 0) [.list]) (E.isi (E.var 1) [.list])) (Es.cons (E.cmp .ne (E.isi (E.var 0) [.tuple]) (E.isi (E.var 1) [.tuple])) (Es.nil)))) (Ss.cons (S.ret (E.bl false)) (Ss.nil)) (Ss.nil)) (Ss.cons (S.ret (E.and (Es.cons (E.cmp .eq (E.bi false .len (Es.cons (E.var 0) (Es.nil))) (E.bi false .len (Es.cons (E.var 1) (Es.nil)))) (Es.cons (E.bi false .all (Es.cons (E.comp false (E.call 96 (Es.cons (E.var 2) (Es.cons (E.var 3) (Es.nil)))) (T.tup (Ts.cons (T.name 2) (Ts.cons (T.name 3) (Ts.nil)))) [2, 3] (It.zip (E.var 0) (E.var 1)) (Es.nil)) (Es.nil))) (Es.nil))))) (Ss.nil))) (Ss.nil)) (Ss.cons (S.ite (E.or (Es.cons (E.isN (E.var 1)) (Es.cons (E.isi (E.var 1) [.bool, .str]) (Es.nil)))) (Ss.cons (S.ret (E.and (Es.cons (E.cmp .eq (E.var 0) (E.var 1)) (Es.cons (E.cmp .eq (E.isi (E.var 0) [.bool]) (E.isi (E.var 1) [.bool])) (Es.cons (E.cmp .eq (E.isN (E.var 0)) (E.isN (E.var 1))) (Es.nil)))))) (Ss.nil)) (Ss.nil)) (Ss.cons (S.ret (E.and (Es.cons (E.isi (E.var 0) [.int]) (Es.cons (E.notE (E.isi (E.var 0) [.bool])) (Es.cons (E.cmp .eq (E.var 0) (E.var 1)) (Es.nil)))))) (Ss.nil)))⟩ -- _law_same
def f97 : Fn := ⟨0, 0, false, Ss.cons (S.ret (E.tup (Es.cons (E.tup (Es.cons (E.int 0) (Es.cons (E.int 1) (Es.cons (E.int 2) (Es.nil))))) (Es.cons (E.tup (Es.cons (E.int 0) (Es.cons (E.int 0) (Es.cons (E.int 0) (Es.nil))))) (Es.cons (E.tup (Es.cons (E.int 0) (Es.cons (E.int 0) (Es.cons (E.int 0) (Es.nil))))) (Es.cons (E.tup (Es.cons (E.int 1) (Es.cons (E.int 1) (Es.cons (E.int 1) (Es.nil))))) (Es.nil))))))) (Ss.nil)⟩ -- _law_home
def f98 : Fn := ⟨3, 3, false, Ss.cons (S.ret (E.bin false .add (E.bin false .add (E.sl false (E.var 0) (E.absent) (E.var 1)) (E.tup (Es.cons (E.bin false .add (E.ix (E.var 0) (E.var 1)) (E.var 2)) (Es.nil)))) (E.sl false (E.var 0) (E.bin false .add (E.var 1) (E.int 1)) (E.absent)))) (Ss.nil)⟩ -- _law_plus
def f99 : Fn := ⟨2, 2, false, Ss.cons (S.ret (E.bin false .add (E.bin false .add (E.sl false (E.var 0) (E.absent) (E.var 1)) (E.tup (Es.cons (E.neg (E.ix (E.var 0) (E.var 1))) (Es.nil)))) (E.sl false (E.var 0) (E.bin false .add (E.var 1) (E.int 1)) (E.absent)))) (Ss.nil)⟩ -- _law_flip
def f100 : Fn := ⟨2, 10, false, Ss.cons (S.asg (T.tup (Ts.cons (T.name 2) (Ts.cons (T.name 3) (Ts.cons (T.name 4) (Ts.cons (T.name 5) (Ts.nil)))))) (E.var 0)) (Ss.cons (S.asg (T.tup (Ts.cons (T.name 6) (Ts.cons (T.name 7) (Ts.cons (T.name 8) (Ts.nil))))) (E.var 2)) (Ss.cons (S.asg (T.name 9) (E.ifx (E.cmp .lt (E.var 1) (E.int 2)) (E.int 1) (E.neg (E.int 1)))) (Ss.cons (S.ite (E.cmp .eq (E.bin false .mod (E.var 1) (E.int 2)) (E.int 0)) (Ss.cons (S.asg (T.name 3) (E.call 98 (Es.cons (E.call 98 (Es.cons (E.var 3) (Es.cons (E.var 6) (Es.cons (E.var 9) (Es.nil))))) (Es.cons (E.var 8) (Es.cons (E.var 9) (Es.nil)))))) (Ss.cons (S.ret (E.tup (Es.cons (E.tup (Es.cons (E.var 8) (Es.cons (E.var 7) (Es.cons (E.var 6) (Es.nil))))) (Es.cons (E.var 3) (Es.cons (E.var 4) (Es.cons (E.call 99 (Es.cons (E.var 5) (Es.cons (E.ifx (E.cmp .eq (E.var 1) (E.int 0)) (E.var 6) (E.var 8)) (Es.nil)))) (Es.nil))))))) (Ss.nil))) (Ss.nil)) (Ss.cons (S.asg (T.name 4) (E.call 98 (Es.cons (E.call 98 (Es.cons (E.var 4) (Es.cons (E.var 7) (Es.cons (E.var 9) (Es.nil))))) (Es.cons (E.var 8) (Es.cons (E.var 9) (Es.nil)))))) (Ss.cons (S.ret (E.tup (Es.cons (E.tup (Es.cons (E.var 6) (Es.cons (E.var 8) (Es.cons (E.var 7) (Es.nil))))) (Es.cons (E.var 3) (Es.cons (E.var 4) (Es.cons (E.call 99 (Es.cons (E.var 5) (Es.cons (E.ifx (E.cmp .eq (E.var 1) (E.int 1)) (E.var 7) (E.var 8)) (Es.nil)))) (Es.nil))))))) (Ss.nil))))))⟩ -- _law_tip
def f101 : Fn := ⟨0, 2, false, Ss.cons (S.par (Ts.cons (T.name 0) (Ts.cons (T.name 1) (Ts.nil))) (Es.cons (E.tup (Es.cons (E.tup (Es.cons (E.int 3) (Es.cons (E.bl false) (Es.cons (E.bl false) (Es.nil))))) (Es.cons (E.tup (Es.cons (E.int 5) (Es.cons (E.bl true) (Es.cons (E.bl false) (Es.nil))))) (Es.nil)))) (Es.cons (E.tup (Es.cons (E.tup (Es.cons (E.int 5) (Es.cons (E.bl true) (Es.cons (E.bl false) (Es.nil))))) (Es.cons (E.tup (Es.cons (E.int 7) (Es.cons (E.bl false) (Es.cons (E.bl true) (Es.nil))))) (Es.cons (E.tup (Es.cons (E.int 8) (Es.cons (E.bl false) (Es.cons (E.bl true) (Es.nil))))) (Es.nil))))) (Es.nil)))) (Ss.cons (S.ret (E.tup (Es.cons (E.var 0) (Es.cons (E.var 1) (Es.cons (E.tup (Es.cons (E.tup (Es.cons (E.int 4) (Es.cons (E.bl false) (Es.cons (E.bl true) (Es.nil))))) (Es.cons (E.tup (Es.cons (E.int 6) (Es.cons (E.bl false) (Es.cons (E.bl true) (Es.nil))))) (Es.nil)))) (Es.cons (E.tup (Es.cons (E.int 2) (Es.cons (E.int 3) (Es.cons (E.int 5) (Es.nil))))) (Es.cons (E.tup (Es.cons (E.int 2) (Es.cons (E.int 4) (Es.cons (E.int 6) (Es.nil))))) (Es.cons (E.tup (Es.cons (E.int 0) (Es.cons (E.int 1) (Es.cons (E.int 2) (Es.nil))))) (Es.nil))))))))) (Ss.nil))⟩ -- _law_told_sides
def f102 : Fn := ⟨2, 6, false, Ss.cons (S.asg (T.name 2) (E.tup (Es.cons (E.glo 25) (Es.cons (E.glo 38) (Es.cons (E.glo 39) (Es.cons (E.glo 43) (Es.cons (E.glo 31) (Es.nil)))))))) (Ss.cons (S.asg (T.name 3) (E.tup (Es.cons (E.glo 87) (Es.cons (E.glo 92) (Es.cons (E.glo 93) (Es.cons (E.glo 94) (Es.cons (E.glo 95) (Es.cons (E.glo 98) (Es.nil))))))))) (Ss.cons (S.tryE [4] (Ss.cons (S.ite (E.cmp .lt (E.var 0) (E.int 5)) (Ss.cons (S.ret (E.callv (E.ix (E.var 2) (E.var 0)) (Es.cons (E.ix (E.var 1) (E.int 0)) (Es.cons (E.ix (E.var 1) (E.int 1)) (Es.nil))))) (Ss.nil)) (Ss.nil)) (Ss.cons (S.ite (E.cmp .lt (E.var 0) (E.int 8)) (Ss.cons (S.ret (E.callv (E.ix (E.tup (Es.cons (E.glo 29) (Es.cons (E.glo 40) (Es.cons (E.glo 44) (Es.nil))))) (E.bin false .sub (E.var 0) (E.int 5))) (Es.cons (E.ix (E.var 1) (E.int 0)) (Es.cons (E.ix (E.var 1) (E.int 1)) (Es.cons (E.non) (Es.nil)))))) (Ss.nil)) (Ss.nil)) (Ss.cons (S.ite (E.cmp .lt (E.var 0) (E.int 14)) (Ss.cons (S.ret (E.callv (E.ix (E.var 3) (E.bin false .sub (E.var 0) (E.int 8))) (Es.cons (E.ix (E.var 1) (E.int 0)) (Es.cons (E.ix (E.var 1) (E.int 1)) (Es.cons (E.ix (E.var 1) (E.int 2)) (Es.cons (E.ix (E.var 1) (E.int 3)) (Es.nil))))))) (Ss.nil)) (Ss.nil)) (Ss.cons (S.ite (E.cmp .lt (E.var 0) (E.int 16)) (Ss.cons (S.ret (E.callv (E.ix (E.tup (Es.cons (E.glo 96) (Es.cons (E.glo 100) (Es.nil)))) (E.bin false .sub (E.var 0) (E.int 14))) (Es.cons (E.ix (E.var 1) (E.int 0)) (Es.cons (E.ix (E.var 1) (E.int 1)) (Es.cons (E.ix (E.var 1) (E.int 2)) (Es.cons (E.ix (E.var 1) (E.int 3)) (Es.cons (E.non) (Es.nil)))))))) (Ss.nil)) (Ss.nil)) (Ss.cons (S.ite (E.cmp .gt (E.var 0) (E.int 17)) (Ss.cons (S.asg (T.name 4) (E.ix (E.tup (Es.cons (E.glo 96) (Es.cons (E.glo 100) (Es.nil)))) (E.bin false .sub (E.var 0) (E.int 18)))) (Ss.cons (S.ret (E.callv (E.var 4) (Es.cons (E.ix (E.var 1) (E.int 0)) (Es.cons (E.ix (E.var 1) (E.int 1)) (Es.cons (E.ix (E.var 1) (E.int 2)) (Es.cons (E.ix (E.var 1) (E.int 3)) (Es.cons (E.ix (E.var 1) (E.int 4)) (Es.nil)))))))) (Ss.nil))) (Ss.nil)) (Ss.cons (S.ret (E.callv (E.ix (E.tup (Es.cons (E.glo 81) (Es.cons (E.glo 83) (Es.nil)))) (E.bin false .sub (E.var 0) (E.int 16))) (Es.cons (E.ix (E.var 1) (E.int 0)) (Es.cons (E.ix (E.var 1) (E.int 1)) (Es.cons (E.ix (E.var 1) (E.int 2)) (Es.nil)))))) (Ss.nil))))))) (Hd.cons 0 (some 5) (Ss.cons (S.ret (E.lst false (Es.cons (E.str (sx [99, 97, 110, 32, 110, 111, 116])) (Es.cons (E.isi (E.var 5) [.vErr]) (Es.nil))))) (Ss.nil)) (Hd.cons 1 (some 5) (Ss.cons (S.ret (E.lst false (Es.cons (E.str (sx [109, 97, 110, 121])) (Es.cons (E.isi (E.var 5) [.vErr]) (Es.nil))))) (Ss.nil)) (Hd.cons 2 (some 5) (Ss.cons (S.ret (E.lst false (Es.cons (E.str (sx [117, 110, 102, 105, 116])) (Es.cons (E.isi (E.var 5) [.vErr]) (Es.nil))))) (Ss.nil)) (Hd.nil))))) (Ss.nil)))⟩ -- _law_heard
def f103 : Fn := ⟨0, 11, false, Ss.cons (S.asg (T.tup (Ts.cons (T.name 0) (Ts.cons (T.name 1) (Ts.cons (T.name 2) (Ts.cons (T.name 3) (Ts.cons (T.name 4) (Ts.cons (T.name 5) (Ts.nil)))))))) (E.call 101 (Es.nil))) (Ss.cons (S.asg (T.name 6) (E.ix (E.var 0) (E.int 0))) (Ss.cons (S.asg (T.name 7) (E.lst false (Es.cons (E.var 0) (Es.cons (E.var 1) (Es.cons (E.tup (Es.nil)) (Es.cons (E.tup (Es.cons (E.var 6) (Es.nil))) (Es.cons (E.bin false .mul (E.tup (Es.cons (E.var 6) (Es.nil))) (E.int 4)) (Es.cons (E.lst false (Es.cons (E.var 6) (Es.nil))) (Es.cons (E.tup (Es.cons (E.bi false .list (Es.cons (E.var 6) (Es.nil))) (Es.nil))) (Es.cons (E.tup (Es.cons (E.tup (Es.cons (E.int 0) (Es.cons (E.bl true) (Es.cons (E.bl true) (Es.nil))))) (Es.nil))) (Es.cons (E.tup (Es.cons (E.tup (Es.cons (E.bl true) (Es.cons (E.bl true) (Es.cons (E.bl true) (Es.nil))))) (Es.nil))) (Es.cons (E.tup (Es.cons (E.tup (Es.cons (E.int 3) (Es.cons (E.int 1) (Es.cons (E.int 0) (Es.nil))))) (Es.nil))) (Es.cons (E.tup (Es.cons (E.tup (Es.cons (E.int 3) (Es.cons (E.bl true) (Es.nil)))) (Es.nil))) (Es.cons (E.non) (Es.cons (E.int 3) (Es.cons (E.str (sx [97, 98])) (Es.cons (E.tup (Es.cons (E.tup (Es.cons (E.int 3) (Es.cons (E.bl true) (Es.cons (E.non) (Es.nil))))) (Es.nil))) (Es.nil)))))))))))))))))) (Ss.cons (S.asg (T.name 8) (E.lst false (Es.cons (E.comp false (E.call 9 (Es.cons (E.var 10) (Es.nil))) (T.name 10) [10] (It.of (E.var 7)) (Es.nil)) (Es.cons (E.call 102 (Es.cons (E.int 16) (Es.cons (E.tup (Es.cons (E.var 3) (Es.cons (E.tup (Es.cons (E.int 1) (Es.cons (E.int 0) (Es.nil)))) (Es.cons (E.int 0) (Es.nil))))) (Es.nil)))) (Es.cons (E.call 102 (Es.cons (E.int 16) (Es.cons (E.tup (Es.cons (E.var 3) (Es.cons (E.tup (Es.cons (E.int 0) (Es.cons (E.int 1) (Es.nil)))) (Es.cons (E.int 0) (Es.nil))))) (Es.nil)))) (Es.nil)))))) (Ss.cons (S.asg (T.name 9) (E.lst false (Es.cons (E.bin false .add (E.bin false .mul (E.lst false (Es.cons (E.bl true) (Es.nil))) (E.int 4)) (E.bin false .mul (E.lst false (Es.cons (E.bl false) (Es.nil))) (E.int 11))) (Es.cons (E.lst false (Es.cons (E.str (sx [117, 110, 102, 105, 116])) (Es.cons (E.bl true) (Es.nil)))) (Es.cons (E.tup (Es.cons (E.tup (Es.cons (E.int 7) (Es.cons (E.bl true) (Es.cons (E.bl false) (Es.nil))))) (Es.cons (E.tup (Es.cons (E.int 8) (Es.cons (E.bl false) (Es.cons (E.bl false) (Es.nil))))) (Es.cons (E.tup (Es.cons (E.int 5) (Es.cons (E.bl false) (Es.cons (E.bl false) (Es.nil))))) (Es.nil))))) (Es.nil)))))) (Ss.cons (S.ret (E.call 96 (Es.cons (E.var 8) (Es.cons (E.var 9) (Es.nil))))) (Ss.nil))))))⟩ -- _law_always_right
def f104 : Fn := ⟨0, 16, false, Ss.cons (S.asg (T.tup (Ts.cons (T.name 0) (Ts.cons (T.name 1) (Ts.cons (T.name 2) (Ts.cons (T.name 3) (Ts.cons (T.name 4) (Ts.cons (T.name 5) (Ts.nil)))))))) (E.call 101 (Es.nil))) (Ss.cons (S.par (Ts.cons (T.name 6) (Ts.cons (T.name 7) (Ts.cons (T.name 8) (Ts.cons (T.name 9) (Ts.nil))))) (Es.cons (E.lst false (Es.cons (E.str (sx [117, 110, 102, 105, 116])) (Es.cons (E.bl true) (Es.nil)))) (Es.cons (E.call 97 (Es.nil)) (Es.cons (E.lst true (Es.nil)) (Es.cons (E.lst true (Es.nil)) (Es.nil)))))) (Ss.cons (S.asg (T.name 10) (E.lst false (Es.cons (E.non) (Es.cons (E.bin false .mul (E.tup (Es.cons (E.ix (E.var 0) (E.int 0)) (Es.nil))) (E.int 4)) (Es.cons (E.tup (Es.cons (E.tup (Es.cons (E.int 0) (Es.cons (E.bl true) (Es.cons (E.bl true) (Es.nil))))) (Es.nil))) (Es.cons (E.tup (Es.cons (E.tup (Es.cons (E.int 3) (Es.cons (E.int 1) (Es.cons (E.int 0) (Es.nil))))) (Es.nil))) (Es.cons (E.tup (Es.cons (E.tup (Es.cons (E.int 3) (Es.cons (E.bl true) (Es.nil)))) (Es.nil))) (Es.cons (E.int 3) (Es.cons (E.str (sx [97, 98])) (Es.nil)))))))))) (Ss.cons (S.for (T.name 11) (It.of (E.bin false .add (E.var 10) (E.lst false (Es.cons (E.tup (Es.cons (E.tup (Es.cons (E.bl true) (Es.cons (E.bl true) (Es.cons (E.bl true) (Es.nil))))) (Es.nil))) (Es.cons (E.tup (Es.cons (E.int 3) (Es.cons (E.bl true) (Es.cons (E.bl true) (Es.nil))))) (Es.nil)))))) (Ss.cons (S.expr (E.mt false .append (E.var 8) (Es.cons (E.comp false (E.call 102 (Es.cons (E.var 15) (Es.cons (E.tup (Es.cons (E.var 11) (Es.cons (E.int 9) (Es.nil)))) (Es.nil)))) (T.name 15) [15] (It.rng (Es.cons (E.int 8) (Es.nil))) (Es.nil)) (Es.nil)))) (Ss.cons (S.expr (E.mt false .append (E.var 9) (Es.cons (E.bin false .mul (E.lst false (Es.cons (E.var 6) (Es.nil))) (E.int 8)) (Es.nil)))) (Ss.nil)))) (Ss.cons (S.for (T.name 11) (It.of (E.lst false (Es.cons (E.non) (Es.cons (E.str (sx [57])) (Es.cons (E.bl true) (Es.cons (E.tup (Es.cons (E.int 9) (Es.nil))) (Es.cons (E.tup (Es.nil)) (Es.nil)))))))) (Ss.cons (S.expr (E.mt false .append (E.var 8) (Es.cons (E.comp false (E.call 102 (Es.cons (E.var 15) (Es.cons (E.tup (Es.cons (E.var 0) (Es.cons (E.var 11) (Es.nil)))) (Es.nil)))) (T.name 15) [15] (It.of (E.tup (Es.cons (E.int 0) (Es.cons (E.int 1) (Es.cons (E.int 2) (Es.cons (E.int 3) (Es.cons (E.int 5) (Es.cons (E.int 6) (Es.cons (E.int 7) (Es.nil)))))))))) (Es.nil)) (Es.nil)))) (Ss.cons (S.expr (E.mt false .append (E.var 9) (Es.cons (E.bin false .mul (E.lst false (Es.cons (E.var 6) (Es.nil))) (E.int 7)) (Es.nil)))) (Ss.nil)))) (Ss.cons (S.expr (E.mt false .append (E.var 8) (Es.cons (E.comp false (E.call 102 (Es.cons (E.int 4) (Es.cons (E.tup (Es.cons (E.var 0) (Es.cons (E.var 11) (Es.nil)))) (Es.nil)))) (T.name 11) [11] (It.of (E.tup (Es.cons (E.non) (Es.cons (E.tup (Es.cons (E.int 1) (Es.cons (E.int 1) (Es.nil)))) (Es.cons (E.tup (Es.cons (E.int 0) (Es.cons (E.int 0) (Es.nil)))) (Es.cons (E.tup (Es.cons (E.int 0) (Es.nil))) (Es.cons (E.tup (Es.cons (E.int 0) (Es.cons (E.int 1) (Es.cons (E.int 0) (Es.nil))))) (Es.cons (E.tup (Es.cons (E.int 0) (Es.cons (E.bl true) (Es.nil)))) (Es.cons (E.int 7) (Es.cons (E.tup (Es.cons (E.str (sx [48])) (Es.cons (E.int 1) (Es.nil)))) (Es.nil))))))))))) (Es.nil)) (Es.nil)))) (Ss.cons (S.expr (E.mt false .append (E.var 9) (Es.cons (E.bin false .mul (E.lst false (Es.cons (E.var 6) (Es.nil))) (E.int 8)) (Es.nil)))) (Ss.cons (S.asg (T.name 12) (E.lst false (Es.cons (E.non) (Es.cons (E.tup (Es.cons (E.int 1) (Es.cons (E.int 2) (Es.nil)))) (Es.cons (E.tup (Es.cons (E.int 1) (Es.cons (E.int 2) (Es.cons (E.int 0) (Es.nil))))) (Es.cons (E.tup (Es.cons (E.int 1) (Es.cons (E.int 2) (Es.cons (E.bl true) (Es.nil))))) (Es.cons (E.tup (Es.cons (E.int 1) (Es.cons (E.int 2) (Es.cons (E.neg (E.int 3)) (Es.nil))))) (Es.cons (E.str (sx [97, 98, 99])) (Es.cons (E.tup (Es.cons (E.int 1) (Es.cons (E.int 2) (Es.cons (E.int 3) (Es.cons (E.int 4) (Es.nil)))))) (Es.cons (E.int 5) (Es.nil))))))))))) (Ss.cons (S.asg (T.name 8) (E.bin true .add (E.var 8) (E.comp false (E.comp false (E.call 102 (Es.cons (E.var 15) (Es.cons (E.tup (Es.cons (E.var 11) (Es.cons (E.var 7) (Es.cons (E.var 5) (Es.cons (E.tup (Es.cons (E.int 0) (Es.cons (E.int 0) (Es.nil)))) (Es.nil)))))) (Es.nil)))) (T.name 11) [11] (It.of (E.var 12)) (Es.nil)) (T.name 15) [15] (It.rng (Es.cons (E.int 8) (Es.cons (E.int 16) (Es.nil)))) (Es.nil)))) (Ss.cons (S.asg (T.name 8) (E.bin true .add (E.var 8) (E.lst false (Es.cons (E.comp false (E.call 102 (Es.cons (E.int 16) (Es.cons (E.tup (Es.cons (E.var 11) (Es.cons (E.tup (Es.cons (E.int 9) (Es.nil))) (Es.cons (E.int 5) (Es.nil))))) (Es.nil)))) (T.name 11) [11] (It.of (E.var 12)) (Es.nil)) (Es.cons (E.comp false (E.call 102 (Es.cons (E.int 17) (Es.cons (E.tup (Es.cons (E.var 11) (Es.cons (E.var 7) (Es.cons (E.tup (Es.cons (E.int 0) (Es.cons (E.int 0) (Es.nil)))) (Es.nil))))) (Es.nil)))) (T.name 11) [11] (It.of (E.var 12)) (Es.nil)) (Es.nil)))))) (Ss.cons (S.asg (T.name 9) (E.bin true .add (E.var 9) (E.bin false .mul (E.lst false (Es.cons (E.bin false .mul (E.lst false (Es.cons (E.var 6) (Es.nil))) (E.int 8)) (Es.nil))) (E.int 10)))) (Ss.cons (S.asg (T.name 12) (E.lst false (Es.cons (E.non) (Es.cons (E.sl false (E.var 7) (E.absent) (E.int 3)) (Es.cons (E.tup (Es.cons (E.var 5) (Es.cons (E.tup (Es.cons (E.int 0) (Es.cons (E.int 0) (Es.cons (E.int 0) (Es.nil))))) (Es.cons (E.tup (Es.cons (E.int 0) (Es.cons (E.int 0) (Es.cons (E.int 0) (Es.nil))))) (Es.cons (E.tup (Es.cons (E.int 1) (Es.cons (E.int 1) (Es.cons (E.int 0) (Es.nil))))) (Es.nil)))))) (Es.cons (E.tup (Es.cons (E.var 5) (Es.cons (E.tup (Es.cons (E.int 0) (Es.cons (E.int 0) (Es.nil)))) (Es.cons (E.tup (Es.cons (E.int 0) (Es.cons (E.int 0) (Es.cons (E.int 0) (Es.nil))))) (Es.cons (E.tup (Es.cons (E.int 1) (Es.cons (E.int 1) (Es.cons (E.int 1) (Es.nil))))) (Es.nil)))))) (Es.cons (E.bin false .add (E.tup (Es.cons (E.tup (Es.cons (E.int 0) (Es.cons (E.int 1) (Es.cons (E.int 1) (Es.nil))))) (Es.nil))) (E.sl false (E.var 7) (E.int 1) (E.absent))) (Es.cons (E.int 7) (Es.cons (E.bin false .add (E.var 7) (E.tup (Es.cons (E.tup (Es.nil)) (Es.nil)))) (Es.cons (E.tup (Es.cons (E.var 5) (Es.cons (E.tup (Es.cons (E.int 0) (Es.cons (E.int 0) (Es.cons (E.bl true) (Es.nil))))) (Es.cons (E.tup (Es.cons (E.int 0) (Es.cons (E.int 0) (Es.cons (E.int 0) (Es.nil))))) (Es.cons (E.tup (Es.cons (E.int 1) (Es.cons (E.int 1) (Es.cons (E.int 1) (Es.nil))))) (Es.nil)))))) (Es.nil))))))))))) (Ss.cons (S.asg (T.name 8) (E.bin true .add (E.bin false .add (E.var 8) (E.comp false (E.comp false (E.call 102 (Es.cons (E.var 15) (Es.cons (E.tup (Es.cons (E.var 3) (Es.cons (E.var 11) (Es.cons (E.var 5) (Es.cons (E.tup (Es.cons (E.int 0) (Es.cons (E.int 0) (Es.nil)))) (Es.nil)))))) (Es.nil)))) (T.name 11) [11] (It.of (E.var 12)) (Es.nil)) (T.name 15) [15] (It.rng (Es.cons (E.int 8) (Es.cons (E.int 16) (Es.nil)))) (Es.nil))) (E.lst false (Es.cons (E.comp false (E.call 102 (Es.cons (E.int 17) (Es.cons (E.tup (Es.cons (E.var 3) (Es.cons (E.var 11) (Es.cons (E.tup (Es.cons (E.int 0) (Es.cons (E.int 0) (Es.nil)))) (Es.nil))))) (Es.nil)))) (T.name 11) [11] (It.of (E.var 12)) (Es.nil)) (Es.nil))))) (Ss.cons (S.asg (T.name 9) (E.bin true .add (E.var 9) (E.bin false .mul (E.lst false (Es.cons (E.bin false .mul (E.lst false (Es.cons (E.var 6) (Es.nil))) (E.int 8)) (Es.nil))) (E.int 9)))) (Ss.cons (S.asg (T.name 12) (E.lst false (Es.cons (E.non) (Es.cons (E.tup (Es.cons (E.int 0) (Es.cons (E.int 1) (Es.nil)))) (Es.cons (E.tup (Es.cons (E.int 0) (Es.cons (E.int 1) (Es.cons (E.int 1) (Es.nil))))) (Es.cons (E.tup (Es.cons (E.int 1) (Es.cons (E.int 2) (Es.cons (E.int 3) (Es.nil))))) (Es.cons (E.str (sx [48, 49, 50])) (Es.cons (E.tup (Es.cons (E.int 0) (Es.cons (E.int 1) (Es.cons (E.bl true) (Es.nil))))) (Es.cons (E.int 4) (Es.cons (E.tup (Es.cons (E.int 0) (Es.cons (E.int 2) (Es.cons (E.int 1) (Es.cons (E.int 0) (Es.nil)))))) (Es.nil))))))))))) (Ss.cons (S.asg (T.name 8) (E.bin true .add (E.var 8) (E.comp false (E.comp false (E.call 102 (Es.cons (E.var 15) (Es.cons (E.tup (Es.cons (E.var 3) (Es.cons (E.var 7) (Es.cons (E.var 11) (Es.cons (E.tup (Es.cons (E.int 0) (Es.cons (E.int 0) (Es.nil)))) (Es.nil)))))) (Es.nil)))) (T.name 11) [11] (It.of (E.var 12)) (Es.nil)) (T.name 15) [15] (It.rng (Es.cons (E.int 8) (Es.cons (E.int 16) (Es.nil)))) (Es.nil)))) (Ss.cons (S.asg (T.name 9) (E.bin true .add (E.var 9) (E.bin false .mul (E.lst false (Es.cons (E.bin false .mul (E.lst false (Es.cons (E.var 6) (Es.nil))) (E.int 8)) (Es.nil))) (E.int 8)))) (Ss.cons (S.asg (T.name 12) (E.lst false (Es.cons (E.non) (Es.cons (E.tup (Es.cons (E.int 0) (Es.nil))) (Es.cons (E.tup (Es.cons (E.int 0) (Es.cons (E.int 0) (Es.cons (E.int 0) (Es.nil))))) (Es.cons (E.tup (Es.cons (E.int 0) (Es.cons (E.bl true) (Es.nil)))) (Es.cons (E.tup (Es.cons (E.int 0) (Es.cons (E.non) (Es.nil)))) (Es.cons (E.str (sx [48, 48])) (Es.cons (E.int 0) (Es.cons (E.tup (Es.cons (E.tup (Es.cons (E.int 0) (Es.cons (E.int 0) (Es.nil)))) (Es.nil))) (Es.nil))))))))))) (Ss.cons (S.asg (T.name 8) (E.bin true .add (E.bin false .add (E.var 8) (E.comp false (E.comp false (E.call 102 (Es.cons (E.var 15) (Es.cons (E.tup (Es.cons (E.var 4) (Es.cons (E.var 7) (Es.cons (E.var 5) (Es.cons (E.var 11) (Es.nil)))))) (Es.nil)))) (T.name 11) [11] (It.of (E.var 12)) (Es.nil)) (T.name 15) [15] (It.rng (Es.cons (E.int 8) (Es.cons (E.int 16) (Es.nil)))) (Es.nil))) (E.lst false (Es.cons (E.comp false (E.call 102 (Es.cons (E.int 17) (Es.cons (E.tup (Es.cons (E.var 3) (Es.cons (E.var 7) (Es.cons (E.var 11) (Es.nil))))) (Es.nil)))) (T.name 11) [11] (It.of (E.var 12)) (Es.nil)) (Es.nil))))) (Ss.cons (S.asg (T.name 9) (E.bin true .add (E.var 9) (E.bin false .mul (E.lst false (Es.cons (E.bin false .mul (E.lst false (Es.cons (E.var 6) (Es.nil))) (E.int 8)) (Es.nil))) (E.int 9)))) (Ss.cons (S.expr (E.mt false .append (E.var 8) (Es.cons (E.bin false .add (E.comp false (E.call 102 (Es.cons (E.int 16) (Es.cons (E.tup (Es.cons (E.var 3) (Es.cons (E.var 11) (Es.cons (E.int 0) (Es.nil))))) (Es.nil)))) (T.name 11) [11] (It.of (E.tup (Es.cons (E.non) (Es.cons (E.tup (Es.cons (E.int 6) (Es.nil))) (Es.cons (E.tup (Es.cons (E.neg (E.int 1)) (Es.nil))) (Es.cons (E.tup (Es.cons (E.int 0) (Es.cons (E.int 0) (Es.nil)))) (Es.cons (E.tup (Es.cons (E.bl true) (Es.nil))) (Es.cons (E.int 3) (Es.nil))))))))) (Es.nil)) (E.comp false (E.call 102 (Es.cons (E.int 16) (Es.cons (E.tup (Es.cons (E.var 3) (Es.cons (E.tup (Es.nil)) (Es.cons (E.var 11) (Es.nil))))) (Es.nil)))) (T.name 11) [11] (It.of (E.tup (Es.cons (E.non) (Es.cons (E.int 2) (Es.cons (E.neg (E.int 1)) (Es.cons (E.bl true) (Es.cons (E.str (sx [48])) (Es.nil)))))))) (Es.nil))) (Es.nil)))) (Ss.cons (S.expr (E.mt false .append (E.var 9) (Es.cons (E.bin false .mul (E.lst false (Es.cons (E.var 6) (Es.nil))) (E.int 11)) (Es.nil)))) (Ss.cons (S.expr (E.mt false .append (E.var 8) (Es.cons (E.bin false .add (E.bin false .add (E.comp false (E.call 102 (Es.cons (E.var 15) (Es.cons (E.tup (Es.cons (E.var 4) (Es.cons (E.var 7) (Es.cons (E.var 5) (Es.cons (E.tup (Es.cons (E.int 3) (Es.cons (E.int 0) (Es.nil)))) (Es.nil)))))) (Es.nil)))) (T.name 15) [15] (It.of (E.tup (Es.cons (E.int 9) (Es.cons (E.int 10) (Es.cons (E.int 11) (Es.cons (E.int 12) (Es.nil))))))) (Es.nil)) (E.comp false (E.call 102 (Es.cons (E.var 15) (Es.cons (E.tup (Es.cons (E.var 0) (Es.cons (E.int 10) (Es.nil)))) (Es.nil)))) (T.name 15) [15] (It.of (E.tup (Es.cons (E.int 1) (Es.cons (E.int 2) (Es.nil))))) (Es.nil))) (E.lst false (Es.cons (E.call 102 (Es.cons (E.int 3) (Es.cons (E.tup (Es.cons (E.var 0) (Es.cons (E.int 7) (Es.nil)))) (Es.nil)))) (Es.nil)))) (Es.nil)))) (Ss.cons (S.expr (E.mt false .append (E.var 9) (Es.cons (E.bin false .mul (E.lst false (Es.cons (E.lst false (Es.cons (E.str (sx [99, 97, 110, 32, 110, 111, 116])) (Es.cons (E.bl true) (Es.nil)))) (Es.nil))) (E.int 7)) (Es.nil)))) (Ss.cons (S.expr (E.mt false .append (E.var 8) (Es.cons (E.lst true (Es.cons (E.call 102 (Es.cons (E.int 5) (Es.cons (E.tup (Es.cons (E.var 0) (Es.cons (E.int 10) (Es.nil)))) (Es.nil)))) (Es.cons (E.call 102 (Es.cons (E.int 6) (Es.cons (E.tup (Es.cons (E.var 0) (Es.cons (E.int 10) (Es.nil)))) (Es.nil)))) (Es.cons (E.call 102 (Es.cons (E.int 14) (Es.cons (E.tup (Es.cons (E.var 4) (Es.cons (E.var 7) (Es.cons (E.var 5) (Es.cons (E.tup (Es.cons (E.int 3) (Es.cons (E.int 0) (Es.nil)))) (Es.nil)))))) (Es.nil)))) (Es.nil))))) (Es.nil)))) (Ss.cons (S.expr (E.mt false .append (E.ix (E.var 8) (E.neg (E.int 1))) (Es.cons (E.call 102 (Es.cons (E.int 15) (Es.cons (E.tup (Es.cons (E.var 3) (Es.cons (E.var 7) (Es.cons (E.var 5) (Es.cons (E.tup (Es.cons (E.int 14) (Es.cons (E.int 0) (Es.nil)))) (Es.nil)))))) (Es.nil)))) (Es.nil)))) (Ss.cons (S.expr (E.mt false .append (E.ix (E.var 8) (E.neg (E.int 1))) (Es.cons (E.call 102 (Es.cons (E.int 18) (Es.cons (E.tup (Es.cons (E.var 4) (Es.cons (E.var 7) (Es.cons (E.var 5) (Es.cons (E.tup (Es.cons (E.int 3) (Es.cons (E.int 0) (Es.nil)))) (Es.cons (E.tup (Es.cons (E.tup (Es.cons (E.str (sx [116, 105, 112])) (Es.cons (E.int 0) (Es.nil)))) (Es.nil))) (Es.nil))))))) (Es.nil)))) (Es.nil)))) (Ss.cons (S.expr (E.mt false .append (E.ix (E.var 8) (E.neg (E.int 1))) (Es.cons (E.call 102 (Es.cons (E.int 19) (Es.cons (E.tup (Es.cons (E.var 3) (Es.cons (E.var 7) (Es.cons (E.var 5) (Es.cons (E.tup (Es.cons (E.int 14) (Es.cons (E.int 0) (Es.nil)))) (Es.cons (E.tup (Es.cons (E.tup (Es.cons (E.int 0) (Es.cons (E.int 2) (Es.nil)))) (Es.cons (E.tup (Es.cons (E.int 0) (Es.cons (E.int 2) (Es.nil)))) (Es.nil)))) (Es.nil))))))) (Es.nil)))) (Es.nil)))) (Ss.frzL 8 (Ss.cons (S.asg (T.name 13) (E.tup (Es.cons (E.int 1) (Es.cons (E.int 1) (Es.cons (E.int 1) (Es.nil)))))) (Ss.cons (S.expr (E.mt false .append (E.var 8) (Es.cons (E.lst false (Es.cons (E.call 102 (Es.cons (E.int 12) (Es.cons (E.tup (Es.cons (E.var 13) (Es.cons (E.var 7) (Es.cons (E.var 5) (Es.cons (E.tup (Es.cons (E.int 4004) (Es.cons (E.int 0) (Es.nil)))) (Es.nil)))))) (Es.nil)))) (Es.cons (E.call 102 (Es.cons (E.int 9) (Es.cons (E.tup (Es.cons (E.var 13) (Es.cons (E.var 7) (Es.cons (E.var 5) (Es.cons (E.tup (Es.cons (E.int 4004) (Es.cons (E.int 0) (Es.nil)))) (Es.nil)))))) (Es.nil)))) (Es.nil)))) (Es.nil)))) (Ss.cons (S.asg (T.name 14) (E.call 102 (Es.cons (E.int 12) (Es.cons (E.tup (Es.cons (E.var 13) (Es.cons (E.var 7) (Es.cons (E.var 5) (Es.cons (E.tup (Es.cons (E.int 4000) (Es.cons (E.int 0) (Es.nil)))) (Es.nil)))))) (Es.nil))))) (Ss.cons (S.expr (E.mt false .append (E.var 8) (Es.cons (E.lst false (Es.cons (E.ifx (E.isi (E.var 14) [.tuple]) (E.bi false .len (Es.cons (E.var 14) (Es.nil))) (E.int 0)) (Es.cons (E.call 102 (Es.cons (E.int 12) (Es.cons (E.tup (Es.cons (E.var 4) (Es.cons (E.var 7) (Es.cons (E.var 5) (Es.cons (E.tup (Es.cons (E.bin false .add (E.bin false .pow (E.int 10) (E.int 9)) (E.int 1)) (Es.cons (E.int 0) (Es.nil)))) (Es.nil)))))) (Es.nil)))) (Es.nil)))) (Es.nil)))) (Ss.frz 8 (Ss.cons (S.ret (E.call 96 (Es.cons (E.var 8) (Es.cons (E.bin false .add (E.var 9) (E.lst false (Es.cons (E.bin false .mul (E.lst false (Es.cons (E.bl false) (Es.nil))) (E.int 6)) (Es.cons (E.lst false (Es.cons (E.lst false (Es.cons (E.str (sx [109, 97, 110, 121])) (Es.cons (E.bl true) (Es.nil)))) (Es.cons (E.int 2002) (Es.nil)))) (Es.cons (E.lst false (Es.cons (E.int 2000) (Es.cons (E.lst false (Es.cons (E.str (sx [99, 97, 110, 32, 110, 111, 116])) (Es.cons (E.bl true) (Es.nil)))) (Es.nil)))) (Es.nil)))))) (Es.nil))))) (Ss.nil)))))))))))))))))))))))))))))))))))⟩ -- _law_refused_right
def f105 : Fn := ⟨0, 13, false, Ss.cons (S.asg (T.tup (Ts.cons (T.name 0) (Ts.cons (T.name 1) (Ts.cons (T.name 2) (Ts.cons (T.name 3) (Ts.cons (T.name 4) (Ts.cons (T.name 5) (Ts.nil)))))))) (E.call 101 (Es.nil))) (Ss.cons (S.par (Ts.cons (T.name 6) (Ts.cons (T.name 7) (Ts.cons (T.name 8) (Ts.cons (T.name 9) (Ts.nil))))) (Es.cons (E.call 97 (Es.nil)) (Es.cons (E.call 95 (Es.cons (E.var 0) (Es.nil))) (Es.cons (E.lst false (Es.cons (E.int 2) (Es.cons (E.int 3) (Es.cons (E.int 5) (Es.nil))))) (Es.cons (E.call 95 (Es.cons (E.call 97 (Es.nil)) (Es.nil))) (Es.nil)))))) (Ss.cons (S.asg (T.name 10) (E.lst true (Es.cons (E.callk 9 [0] (Es.cons (E.var 0) (Es.nil))) (Es.cons (E.callk 16 [1, 0] (Es.cons (E.int 1) (Es.cons (E.var 7) (Es.nil)))) (Es.cons (E.callk 20 [2, 1, 0] (Es.cons (E.tup (Es.cons (E.int 2) (Es.cons (E.neg (E.int 1)) (Es.nil)))) (Es.cons (E.int 1) (Es.cons (E.var 7) (Es.nil))))) (Es.cons (E.callk 22 [1, 0] (Es.cons (E.lst false (Es.cons (E.int 2) (Es.cons (E.neg (E.int 1)) (Es.nil)))) (Es.cons (E.var 7) (Es.nil)))) (Es.nil))))))) (Ss.cons (S.asg (T.name 10) (E.bin true .add (E.var 10) (E.lst false (Es.cons (E.callk 29 [1, 0] (Es.cons (E.int 1) (Es.cons (E.var 7) (Es.nil)))) (Es.cons (E.callk 30 [1, 0] (Es.cons (E.int 1) (Es.cons (E.var 7) (Es.nil)))) (Es.cons (E.callk 31 [2, 1, 0] (Es.cons (E.tup (Es.cons (E.int 2) (Es.cons (E.neg (E.int 1)) (Es.nil)))) (Es.cons (E.int 1) (Es.cons (E.var 7) (Es.nil))))) (Es.cons (E.callk 35 [2, 1, 0] (Es.cons (E.int 2) (Es.cons (E.int 10) (Es.cons (E.var 7) (Es.nil))))) (Es.nil)))))))) (Ss.cons (S.asg (T.name 11) (E.lst false (Es.cons (E.bl true) (Es.cons (E.bl true) (Es.cons (E.bl true) (Es.cons (E.int 3) (Es.cons (E.int 3) (Es.cons (E.tup (Es.cons (E.int 2) (Es.cons (E.neg (E.int 1)) (Es.nil)))) (Es.cons (E.bl true) (Es.cons (E.bl true) (Es.nil))))))))))) (Ss.cons (S.expr (E.mt false .append (E.var 10) (Es.cons (E.call 35 (Es.cons (E.var 0) (Es.cons (E.int 10) (Es.cons (E.callk 34 [1, 0] (Es.cons (E.int 10) (Es.cons (E.var 7) (Es.nil)))) (Es.nil))))) (Es.nil)))) (Ss.cons (S.expr (E.mt false .append (E.var 10) (Es.cons (E.callk 72 [2, 1, 0] (Es.cons (E.int 0) (Es.cons (E.lst false (Es.cons (E.int 0) (Es.nil))) (Es.cons (E.var 8) (Es.nil))))) (Es.nil)))) (Ss.cons (S.expr (E.mt false .append (E.var 10) (Es.cons (E.callk 74 [2, 1, 0] (Es.cons (E.lst false (Es.cons (E.int 3) (Es.cons (E.int 5) (Es.nil)))) (Es.cons (E.var 9) (Es.cons (E.var 8) (Es.nil))))) (Es.nil)))) (Ss.cons (S.asg (T.name 11) (E.bin false .add (E.var 11) (E.lst false (Es.cons (E.bl true) (Es.cons (E.tup (Es.cons (E.tup (Es.cons (E.int 7) (Es.cons (E.bl true) (Es.cons (E.bl false) (Es.nil))))) (Es.cons (E.tup (Es.cons (E.int 8) (Es.cons (E.bl false) (Es.cons (E.bl false) (Es.nil))))) (Es.cons (E.tup (Es.cons (E.int 5) (Es.cons (E.bl false) (Es.cons (E.bl false) (Es.nil))))) (Es.nil))))) (Es.cons (E.tup (Es.cons (E.int 3) (Es.cons (E.int 5) (Es.nil)))) (Es.nil))))))) (Ss.cons (S.expr (E.mt false .append (E.var 10) (Es.cons (E.callk 78 [3, 2, 1, 0] (Es.cons (E.lst false (Es.cons (E.int 7) (Es.cons (E.int 0) (Es.nil)))) (Es.cons (E.lst false (Es.cons (E.int 2) (Es.cons (E.int 1) (Es.cons (E.int 0) (Es.nil))))) (Es.cons (E.var 9) (Es.cons (E.var 8) (Es.nil)))))) (Es.nil)))) (Ss.cons (S.expr (E.mt false .append (E.var 10) (Es.cons (E.callk 83 [3, 2, 1, 0] (Es.cons (E.lst false (Es.cons (E.int 7) (Es.cons (E.int 0) (Es.nil)))) (Es.cons (E.lst false (Es.cons (E.int 2) (Es.cons (E.int 1) (Es.cons (E.int 0) (Es.nil))))) (Es.cons (E.var 9) (Es.cons (E.var 8) (Es.nil)))))) (Es.nil)))) (Ss.cons (S.expr (E.mt false .append (E.var 10) (Es.cons (E.callk 84 [3, 2, 1, 0] (Es.cons (E.lst false (Es.cons (E.int 7) (Es.cons (E.int 0) (Es.nil)))) (Es.cons (E.lst false (Es.cons (E.int 2) (Es.cons (E.int 1) (Es.cons (E.int 0) (Es.nil))))) (Es.cons (E.var 9) (Es.cons (E.var 8) (Es.nil)))))) (Es.nil)))) (Ss.cons (S.expr (E.mt false .append (E.var 10) (Es.cons (E.callk 85 [3, 2, 1, 0] (Es.cons (E.lst false (Es.cons (E.int 7) (Es.cons (E.int 0) (Es.nil)))) (Es.cons (E.lst false (Es.cons (E.int 2) (Es.cons (E.int 1) (Es.cons (E.int 0) (Es.nil))))) (Es.cons (E.var 9) (Es.cons (E.var 8) (Es.nil)))))) (Es.nil)))) (Ss.cons (S.expr (E.mt false .append (E.var 10) (Es.cons (E.callk 86 [3, 2, 1, 0] (Es.cons (E.lst false (Es.cons (E.int 7) (Es.cons (E.int 0) (Es.nil)))) (Es.cons (E.lst false (Es.cons (E.int 2) (Es.cons (E.int 1) (Es.cons (E.int 0) (Es.nil))))) (Es.cons (E.var 9) (Es.cons (E.var 8) (Es.nil)))))) (Es.nil)))) (Ss.cons (S.asg (T.name 11) (E.bin false .add (E.var 11) (E.lst false (Es.cons (E.bl true) (Es.cons (E.int 1) (Es.cons (E.tup (Es.cons (E.int 1) (Es.cons (E.int 0) (Es.cons (E.int 0) (Es.cons (E.int 0) (Es.cons (E.int 0) (Es.cons (E.int 0) (Es.nil)))))))) (Es.cons (E.call 100 (Es.cons (E.var 6) (Es.cons (E.int 0) (Es.nil)))) (Es.cons (E.tup (Es.cons (E.tup (Es.cons (E.str (sx [116, 105, 112])) (Es.cons (E.int 0) (Es.nil)))) (Es.nil))) (Es.nil))))))))) (Ss.cons (S.expr (E.mt false .append (E.var 10) (Es.cons (E.callk 87 [4, 3, 2, 1, 0] (Es.cons (E.tup (Es.cons (E.tup (Es.cons (E.str (sx [116, 105, 112])) (Es.cons (E.int 0) (Es.nil)))) (Es.nil))) (Es.cons (E.lst false (Es.cons (E.int 7) (Es.cons (E.int 0) (Es.nil)))) (Es.cons (E.lst false (Es.cons (E.int 2) (Es.cons (E.int 1) (Es.cons (E.int 0) (Es.nil))))) (Es.cons (E.var 9) (Es.cons (E.var 8) (Es.nil))))))) (Es.nil)))) (Ss.cons (S.asg (T.name 12) (E.callk 89 [3, 2, 1, 0] (Es.cons (E.lst false (Es.cons (E.int 3) (Es.cons (E.int 0) (Es.nil)))) (Es.cons (E.lst false (Es.cons (E.int 0) (Es.cons (E.int 1) (Es.cons (E.int 2) (Es.nil))))) (Es.cons (E.var 9) (Es.cons (E.lst false (Es.cons (E.int 2) (Es.cons (E.int 4) (Es.cons (E.int 6) (Es.nil))))) (Es.nil))))))) (Ss.cons (S.expr (E.mt false .append (E.var 10) (Es.cons (E.callk 91 [4, 3, 2, 1, 0] (Es.cons (E.var 12) (Es.cons (E.lst false (Es.cons (E.int 3) (Es.cons (E.int 0) (Es.nil)))) (Es.cons (E.lst false (Es.cons (E.int 0) (Es.cons (E.int 1) (Es.cons (E.int 2) (Es.nil))))) (Es.cons (E.var 9) (Es.cons (E.lst false (Es.cons (E.int 2) (Es.cons (E.int 4) (Es.cons (E.int 6) (Es.nil))))) (Es.nil))))))) (Es.nil)))) (Ss.cons (S.ret (E.call 96 (Es.cons (E.bin false .add (E.var 10) (E.lst false (Es.cons (E.var 7) (Es.cons (E.var 8) (Es.cons (E.var 9) (Es.nil)))))) (Es.cons (E.bin false .add (E.var 11) (E.lst false (Es.cons (E.bl true) (Es.cons (E.bl true) (Es.cons (E.call 95 (Es.cons (E.var 0) (Es.nil))) (Es.cons (E.lst false (Es.cons (E.int 2) (Es.cons (E.int 3) (Es.cons (E.int 5) (Es.nil))))) (Es.cons (E.call 95 (Es.cons (E.var 6) (Es.nil))) (Es.nil)))))))) (Es.nil))))) (Ss.nil)))))))))))))))))))⟩ -- _law_names_right
def f106 : Fn := ⟨1, 2, false, Ss.cons (S.ite (E.notE (E.call 103 (Es.nil))) (Ss.cons (S.ret (E.bl false)) (Ss.nil)) (Ss.nil)) (Ss.cons (S.asg (T.name 1) (E.call 93 (Es.cons (E.call 92 (Es.cons (E.call 94 (Es.cons (E.var 0) (Es.cons (E.int 1) (Es.nil)))) (Es.cons (E.int 0) (Es.nil)))) (Es.cons (E.int 2) (Es.nil))))) (Ss.cons (S.ret (E.callv (E.ix (E.lst false (Es.cons (E.glo 113) (Es.cons (E.glo 114) (Es.nil)))) (E.var 1)) (Es.nil))) (Ss.nil)))⟩ -- law
def top (i : Nat) : Stmt := PySem.Challenge.pw_movedchest_k42_coins_and_told_by_hand_an.main.body.getD i (.Pass ⟨0, 0, 0, 0⟩)
def cls (i j : Nat) : Stmt := match top i with
  | .ClassDef (body := b) .. => b.getD j (.Pass ⟨0, 0, 0, 0⟩)
  | _ => .Pass ⟨0, 0, 0, 0⟩
def x0 : Fx := ⟨((sx [105, 115, 95, 110, 117, 109, 98, 101, 114]), none), (sx [105, 115, 95, 110, 117, 109, 98, 101, 114]), (sx [105, 115, 95, 110, 117, 109, 98, 101, 114]), defArgs (top 5), defBody (top 5), defScope (top 5), [(sx [116, 104, 105, 110, 103])], [(sx [116, 104, 105, 110, 103])]⟩
def x1 : Fx := ⟨((sx [105, 115, 95, 102, 114, 111, 109]), none), (sx [105, 115, 95, 102, 114, 111, 109]), (sx [105, 115, 95, 102, 114, 111, 109]), defArgs (top 6), defBody (top 6), defScope (top 6), [(sx [116, 104, 105, 110, 103]), (sx [108, 101, 97, 115, 116])], [(sx [116, 104, 105, 110, 103]), (sx [108, 101, 97, 115, 116])]⟩
def x2 : Fx := ⟨((sx [105, 115, 95, 119, 105, 116, 104, 105, 110]), none), (sx [105, 115, 95, 119, 105, 116, 104, 105, 110]), (sx [105, 115, 95, 119, 105, 116, 104, 105, 110]), defArgs (top 7), defBody (top 7), defScope (top 7), [(sx [116, 104, 105, 110, 103]), (sx [108, 101, 97, 115, 116]), (sx [109, 111, 115, 116])], [(sx [116, 104, 105, 110, 103]), (sx [108, 101, 97, 115, 116]), (sx [109, 111, 115, 116])]⟩
def x3 : Fx := ⟨((sx [105, 115, 95, 108, 111, 110, 103]), none), (sx [105, 115, 95, 108, 111, 110, 103]), (sx [105, 115, 95, 108, 111, 110, 103]), defArgs (top 8), defBody (top 8), defScope (top 8), [(sx [116, 104, 105, 110, 103]), (sx [108, 101, 110, 103, 116, 104])], [(sx [116, 104, 105, 110, 103]), (sx [108, 101, 110, 103, 116, 104])]⟩
def x4 : Fx := ⟨((sx [116, 117, 112, 108, 101, 100]), none), (sx [116, 117, 112, 108, 101, 100]), (sx [116, 117, 112, 108, 101, 100]), defArgs (top 9), defBody (top 9), defScope (top 9), [(sx [118, 97, 108, 117, 101]), (sx [111, 119, 110])], [(sx [118, 97, 108, 117, 101])]⟩
def x5 : Fx := ⟨((sx [97, 115, 99, 101, 110, 100, 115]), none), (sx [97, 115, 99, 101, 110, 100, 115]), (sx [97, 115, 99, 101, 110, 100, 115]), defArgs (top 10), defBody (top 10), defScope (top 10), [(sx [114, 111, 119]), (sx [107])], [(sx [114, 111, 119])]⟩
def x6 : Fx := ⟨((sx [115, 101, 116, 95, 111, 102]), none), (sx [115, 101, 116, 95, 111, 102]), (sx [115, 101, 116, 95, 111, 102]), defArgs (top 11), defBody (top 11), defScope (top 11), [(sx [114, 111, 119])], [(sx [114, 111, 119])]⟩
def x7 : Fx := ⟨((sx [97, 114, 101, 95, 110, 117, 109, 98, 101, 114, 115]), none), (sx [97, 114, 101, 95, 110, 117, 109, 98, 101, 114, 115]), (sx [97, 114, 101, 95, 110, 117, 109, 98, 101, 114, 115]), defArgs (top 12), defBody (top 12), defScope (top 12), [(sx [116, 104, 105, 110, 103]), (sx [111, 119, 110])], [(sx [116, 104, 105, 110, 103])]⟩
def x8 : Fx := ⟨((sx [105, 115, 95, 99, 111, 105, 110]), none), (sx [105, 115, 95, 99, 111, 105, 110]), (sx [105, 115, 95, 99, 111, 105, 110]), defArgs (top 14), defBody (top 14), defScope (top 14), [(sx [116, 104, 105, 110, 103])], [(sx [116, 104, 105, 110, 103])]⟩
def x9 : Fx := ⟨((sx [105, 115, 95, 99, 111, 105, 110, 115]), none), (sx [105, 115, 95, 99, 111, 105, 110, 115]), (sx [105, 115, 95, 99, 111, 105, 110, 115]), defArgs (top 15), defBody (top 15), defScope (top 15), [(sx [116, 104, 105, 110, 103]), (sx [111, 119, 110])], [(sx [116, 104, 105, 110, 103])]⟩
def x10 : Fx := ⟨((sx [115, 117, 114, 101, 95, 99, 111, 105, 110, 115]), none), (sx [115, 117, 114, 101, 95, 99, 111, 105, 110, 115]), (sx [115, 117, 114, 101, 95, 99, 111, 105, 110, 115]), defArgs (top 16), defBody (top 16), defScope (top 16), [(sx [99, 111, 105, 110, 115]), (sx [111, 119, 110])], [(sx [99, 111, 105, 110, 115])]⟩
def x11 : Fx := ⟨((sx [115, 117, 114, 101, 95, 119, 104, 111, 108, 101]), none), (sx [115, 117, 114, 101, 95, 119, 104, 111, 108, 101]), (sx [115, 117, 114, 101, 95, 119, 104, 111, 108, 101]), defArgs (top 17), defBody (top 17), defScope (top 17), [(sx [110, 117, 109, 98, 101, 114])], [(sx [110, 117, 109, 98, 101, 114])]⟩
def x12 : Fx := ⟨((sx [99, 111, 109, 109, 111, 110, 95, 105, 110]), none), (sx [99, 111, 109, 109, 111, 110, 95, 105, 110]), (sx [99, 111, 109, 109, 111, 110, 95, 105, 110]), defArgs (top 18), defBody (top 18), defScope (top 18), [(sx [111, 110, 101]), (sx [111, 116, 104, 101, 114]), (sx [110, 101, 97, 114]), (sx [102, 97, 114])], [(sx [111, 110, 101]), (sx [111, 116, 104, 101, 114])]⟩
def x13 : Fx := ⟨((sx [115, 116, 101, 112, 95, 105, 110]), none), (sx [115, 116, 101, 112, 95, 105, 110]), (sx [115, 116, 101, 112, 95, 105, 110]), defArgs (top 19), defBody (top 19), defScope (top 19), [(sx [99, 111, 105, 110, 115]), (sx [102, 111, 117, 110, 100]), (sx [118, 97, 108, 117, 101]), (sx [95])], [(sx [99, 111, 105, 110, 115])]⟩
def x14 : Fx := ⟨((sx [111, 100, 100, 95, 105, 110, 95, 99, 111, 105, 110, 115]), none), (sx [111, 100, 100, 95, 105, 110]), (sx [111, 100, 100, 95, 105, 110]), defArgs (top 20), defBody (top 20), defScope (top 20), [(sx [99, 111, 105, 110, 115]), (sx [118, 97, 108, 117, 101]), (sx [111, 100, 100]), (sx [95])], [(sx [99, 111, 105, 110, 115])]⟩
def x15 : Fx := ⟨((sx [99, 97, 110, 95, 105, 110]), none), (sx [99, 97, 110, 95, 105, 110]), (sx [99, 97, 110, 95, 105, 110]), defArgs (top 22), defBody (top 22), defScope (top 22), [(sx [99, 111, 105, 110, 115]), (sx [110, 117, 109, 98, 101, 114]), (sx [115, 116, 101, 112]), (sx [108, 101, 102, 116])], [(sx [99, 111, 105, 110, 115]), (sx [110, 117, 109, 98, 101, 114])]⟩
def x16 : Fx := ⟨((sx [99, 97, 110, 95, 112, 97, 121]), none), (sx [99, 97, 110, 95, 112, 97, 121]), (sx [99, 97, 110, 95, 112, 97, 121]), defArgs (top 23), defBody (top 23), defScope (top 23), [(sx [99, 111, 105, 110, 115]), (sx [110, 117, 109, 98, 101, 114]), (sx [111, 119, 110])], [(sx [99, 111, 105, 110, 115]), (sx [110, 117, 109, 98, 101, 114])]⟩
def x17 : Fx := ⟨((sx [105, 115, 95, 114, 111, 119, 95, 102, 111, 114]), none), (sx [105, 115, 95, 114, 111, 119, 95, 102, 111, 114]), (sx [105, 115, 95, 114, 111, 119, 95, 102, 111, 114]), defArgs (top 24), defBody (top 24), defScope (top 24), [(sx [99, 111, 105, 110, 115]), (sx [116, 104, 105, 110, 103]), (sx [111, 119, 110]), (sx [99, 111, 105, 110]), (sx [109, 97, 110, 121])], [(sx [99, 111, 105, 110, 115]), (sx [116, 104, 105, 110, 103])]⟩
def x18 : Fx := ⟨((sx [115, 117, 109, 95, 105, 110]), none), (sx [115, 117, 109, 95, 105, 110]), (sx [115, 117, 109, 95, 105, 110]), defArgs (top 25), defBody (top 25), defScope (top 25), [(sx [99, 111, 105, 110, 115]), (sx [114, 111, 119]), (sx [99, 111, 105, 110]), (sx [109, 97, 110, 121])], [(sx [99, 111, 105, 110, 115]), (sx [114, 111, 119])]⟩
def x19 : Fx := ⟨((sx [105, 115, 95, 112, 97, 121, 105, 110, 103, 95, 105, 110]), none), (sx [105, 115, 95, 112, 97, 121, 105, 110, 103, 95, 105, 110]), (sx [105, 115, 95, 112, 97, 121, 105, 110, 103, 95, 105, 110]), defArgs (top 26), defBody (top 26), defScope (top 26), [(sx [99, 111, 105, 110, 115]), (sx [110, 117, 109, 98, 101, 114]), (sx [116, 104, 105, 110, 103])], [(sx [99, 111, 105, 110, 115]), (sx [110, 117, 109, 98, 101, 114]), (sx [116, 104, 105, 110, 103])]⟩
def x20 : Fx := ⟨((sx [105, 115, 95, 112, 97, 121, 105, 110, 103]), none), (sx [105, 115, 95, 112, 97, 121, 105, 110, 103]), (sx [105, 115, 95, 112, 97, 121, 105, 110, 103]), defArgs (top 27), defBody (top 27), defScope (top 27), [(sx [99, 111, 105, 110, 115]), (sx [110, 117, 109, 98, 101, 114]), (sx [116, 104, 105, 110, 103]), (sx [111, 119, 110])], [(sx [99, 111, 105, 110, 115]), (sx [110, 117, 109, 98, 101, 114]), (sx [116, 104, 105, 110, 103])]⟩
def x21 : Fx := ⟨((sx [99, 111, 115, 116, 95, 105, 110]), none), (sx [99, 111, 115, 116, 95, 105, 110]), (sx [99, 111, 115, 116, 95, 105, 110]), defArgs (top 28), defBody (top 28), defScope (top 28), [(sx [99, 111, 105, 110, 115]), (sx [114, 111, 119]), (sx [102, 111, 117, 110, 100]), (sx [99, 111, 105, 110]), (sx [109, 97, 110, 121])], [(sx [99, 111, 105, 110, 115]), (sx [114, 111, 119])]⟩
def x22 : Fx := ⟨((sx [99, 111, 115, 116, 95, 111, 102]), none), (sx [99, 111, 115, 116, 95, 111, 102]), (sx [99, 111, 115, 116, 95, 111, 102]), defArgs (top 29), defBody (top 29), defScope (top 29), [(sx [99, 111, 105, 110, 115]), (sx [112, 97, 121, 105, 110, 103]), (sx [111, 119, 110]), (sx [114, 111, 119])], [(sx [99, 111, 105, 110, 115]), (sx [112, 97, 121, 105, 110, 103])]⟩
def x23 : Fx := ⟨((sx [115, 111, 108, 118, 101, 100, 95, 105, 110]), none), (sx [115, 111, 108, 118, 101, 100, 95, 105, 110]), (sx [115, 111, 108, 118, 101, 100, 95, 105, 110]), defArgs (top 30), defBody (top 30), defScope (top 30), [(sx [111, 110, 101]), (sx [111, 116, 104, 101, 114]), (sx [110, 117, 109, 98, 101, 114]), (sx [110, 101, 97, 114]), (sx [102, 97, 114]), (sx [116, 105, 109, 101, 115])], [(sx [111, 110, 101]), (sx [111, 116, 104, 101, 114]), (sx [110, 117, 109, 98, 101, 114])]⟩
def x24 : Fx := ⟨((sx [108, 101, 115, 115, 101, 114, 95, 111, 102]), none), (sx [108, 101, 115, 115, 101, 114, 95, 111, 102]), (sx [108, 101, 115, 115, 101, 114, 95, 111, 102]), defArgs (top 31), defBody (top 31), defScope (top 31), [(sx [99, 111, 105, 110, 115]), (sx [98, 101, 115, 116]), (sx [114, 111, 119]), (sx [102, 111, 117, 110, 100])], [(sx [99, 111, 105, 110, 115]), (sx [98, 101, 115, 116]), (sx [114, 111, 119])]⟩
def x25 : Fx := ⟨((sx [98, 101, 115, 116, 95, 111, 102, 95, 116, 119, 111]), none), (sx [98, 101, 115, 116, 95, 111, 102, 95, 116, 119, 111]), (sx [98, 101, 115, 116, 95, 111, 102, 95, 116, 119, 111]), defArgs (top 32), defBody (top 32), defScope (top 32), [(sx [99, 111, 105, 110, 115]), (sx [110, 117, 109, 98, 101, 114]), (sx [111, 110, 101]), (sx [111, 100, 100]), (sx [95]), (sx [111, 116, 104, 101, 114]), (sx [102, 97, 114, 95, 111, 100, 100]), (sx [102, 105, 114, 115, 116]), (sx [110, 101, 97, 114]), (sx [102, 97, 114]), (sx [117, 112]), (sx [100, 111, 119, 110]), (sx [98, 101, 115, 116]), (sx [116, 117, 114, 110]), (sx [116, 105, 109, 101, 115])], [(sx [99, 111, 105, 110, 115]), (sx [110, 117, 109, 98, 101, 114])]⟩
def x26 : Fx := ⟨((sx [98, 101, 115, 116, 95, 111, 102, 95, 116, 104, 114, 101, 101]), none), (sx [98, 101, 115, 116, 95, 111, 102, 95, 116, 104, 114, 101, 101]), (sx [98, 101, 115, 116, 95, 111, 102, 95, 116, 104, 114, 101, 101]), defArgs (top 33), defBody (top 33), defScope (top 33), [(sx [99, 111, 105, 110, 115]), (sx [110, 117, 109, 98, 101, 114]), (sx [118, 97, 108, 117, 101, 115]), (sx [112, 108, 97, 99, 101]), (sx [98, 101, 115, 116]), (sx [114, 101, 115, 116]), (sx [109, 111, 115, 116]), (sx [102, 105, 114, 115, 116]), (sx [109, 97, 110, 121]), (sx [102, 111, 117, 110, 100]), (sx [118, 97, 108, 117, 101]), (sx [95])], [(sx [99, 111, 105, 110, 115]), (sx [110, 117, 109, 98, 101, 114])]⟩
def x27 : Fx := ⟨((sx [98, 101, 115, 116, 95, 105, 110]), none), (sx [98, 101, 115, 116, 95, 105, 110]), (sx [98, 101, 115, 116, 95, 105, 110]), defArgs (top 34), defBody (top 34), defScope (top 34), [(sx [99, 111, 105, 110, 115]), (sx [110, 117, 109, 98, 101, 114]), (sx [114, 111, 119])], [(sx [99, 111, 105, 110, 115]), (sx [110, 117, 109, 98, 101, 114])]⟩
def x28 : Fx := ⟨((sx [115, 117, 114, 101, 95, 98, 101, 115, 116]), none), (sx [115, 117, 114, 101, 95, 98, 101, 115, 116]), (sx [115, 117, 114, 101, 95, 98, 101, 115, 116]), defArgs (top 35), defBody (top 35), defScope (top 35), [(sx [99, 111, 105, 110, 115]), (sx [110, 117, 109, 98, 101, 114]), (sx [111, 119, 110]), (sx [102, 111, 117, 110, 100])], [(sx [99, 111, 105, 110, 115]), (sx [110, 117, 109, 98, 101, 114])]⟩
def x29 : Fx := ⟨((sx [108, 101, 97, 115, 116, 95, 99, 111, 115, 116]), none), (sx [108, 101, 97, 115, 116, 95, 99, 111, 115, 116]), (sx [108, 101, 97, 115, 116, 95, 99, 111, 115, 116]), defArgs (top 36), defBody (top 36), defScope (top 36), [(sx [99, 111, 105, 110, 115]), (sx [110, 117, 109, 98, 101, 114])], [(sx [99, 111, 105, 110, 115]), (sx [110, 117, 109, 98, 101, 114])]⟩
def x30 : Fx := ⟨((sx [112, 97, 121, 105, 110, 103]), none), (sx [112, 97, 121, 105, 110, 103]), (sx [112, 97, 121, 105, 110, 103]), defArgs (top 37), defBody (top 37), defScope (top 37), [(sx [99, 111, 105, 110, 115]), (sx [110, 117, 109, 98, 101, 114])], [(sx [99, 111, 105, 110, 115]), (sx [110, 117, 109, 98, 101, 114])]⟩
def x31 : Fx := ⟨((sx [105, 115, 95, 108, 101, 97, 115, 116, 95, 112, 97, 121, 105, 110, 103]), none), (sx [105, 115, 95, 108, 101, 97, 115, 116, 95, 112, 97, 121, 105, 110, 103]), (sx [105, 115, 95, 108, 101, 97, 115, 116, 95, 112, 97, 121, 105, 110, 103]), defArgs (top 38), defBody (top 38), defScope (top 38), [(sx [99, 111, 105, 110, 115]), (sx [110, 117, 109, 98, 101, 114]), (sx [116, 104, 105, 110, 103]), (sx [111, 119, 110]), (sx [103, 111, 97, 108])], [(sx [99, 111, 105, 110, 115]), (sx [110, 117, 109, 98, 101, 114]), (sx [116, 104, 105, 110, 103])]⟩
def x32 : Fx := ⟨((sx [98, 97, 114, 115, 95, 105, 110]), none), (sx [98, 97, 114, 115, 95, 105, 110]), (sx [98, 97, 114, 115, 95, 105, 110]), defArgs (top 39), defBody (top 39), defScope (top 39), [(sx [99, 111, 105, 110, 115]), (sx [110, 117, 109, 98, 101, 114]), (sx [116, 104, 105, 110, 103]), (sx [118, 97, 108, 117, 101]), (sx [95])], [(sx [99, 111, 105, 110, 115]), (sx [110, 117, 109, 98, 101, 114]), (sx [116, 104, 105, 110, 103])]⟩
def x33 : Fx := ⟨((sx [98, 97, 114, 95, 105, 110]), none), (sx [98, 97, 114, 95, 105, 110]), (sx [98, 97, 114, 95, 105, 110]), defArgs (top 40), defBody (top 40), defScope (top 40), [(sx [99, 111, 105, 110, 115]), (sx [110, 117, 109, 98, 101, 114]), (sx [115, 116, 101, 112])], [(sx [99, 111, 105, 110, 115]), (sx [110, 117, 109, 98, 101, 114])]⟩
def x34 : Fx := ⟨((sx [98, 97, 114]), none), (sx [98, 97, 114]), (sx [98, 97, 114]), defArgs (top 41), defBody (top 41), defScope (top 41), [(sx [99, 111, 105, 110, 115]), (sx [110, 117, 109, 98, 101, 114]), (sx [111, 119, 110]), (sx [102, 111, 117, 110, 100])], [(sx [99, 111, 105, 110, 115]), (sx [110, 117, 109, 98, 101, 114])]⟩
def x35 : Fx := ⟨((sx [105, 115, 95, 98, 97, 114]), none), (sx [105, 115, 95, 98, 97, 114]), (sx [105, 115, 95, 98, 97, 114]), defArgs (top 42), defBody (top 42), defScope (top 42), [(sx [99, 111, 105, 110, 115]), (sx [110, 117, 109, 98, 101, 114]), (sx [116, 104, 105, 110, 103]), (sx [111, 119, 110])], [(sx [99, 111, 105, 110, 115]), (sx [110, 117, 109, 98, 101, 114]), (sx [116, 104, 105, 110, 103])]⟩
def x36 : Fx := ⟨((sx [105, 115, 95, 99, 104, 101, 115, 116]), none), (sx [105, 115, 95, 99, 104, 101, 115, 116]), (sx [105, 115, 95, 99, 104, 101, 115, 116]), defArgs (top 46), defBody (top 46), defScope (top 46), [(sx [116, 104, 105, 110, 103]), (sx [111, 119, 110])], [(sx [116, 104, 105, 110, 103])]⟩
def x37 : Fx := ⟨((sx [115, 117, 114, 101, 95, 99, 104, 101, 115, 116]), none), (sx [115, 117, 114, 101, 95, 99, 104, 101, 115, 116]), (sx [115, 117, 114, 101, 95, 99, 104, 101, 115, 116]), defArgs (top 47), defBody (top 47), defScope (top 47), [(sx [99, 104, 101, 115, 116]), (sx [111, 119, 110])], [(sx [99, 104, 101, 115, 116])]⟩
def x38 : Fx := ⟨((sx [105, 115, 95, 115, 104, 97, 112, 101]), none), (sx [105, 115, 95, 115, 104, 97, 112, 101]), (sx [105, 115, 95, 115, 104, 97, 112, 101]), defArgs (top 48), defBody (top 48), defScope (top 48), [(sx [116, 104, 105, 110, 103]), (sx [111, 119, 110])], [(sx [116, 104, 105, 110, 103])]⟩
def x39 : Fx := ⟨((sx [115, 117, 114, 101, 95, 115, 104, 97, 112, 101]), none), (sx [115, 117, 114, 101, 95, 115, 104, 97, 112, 101]), (sx [115, 117, 114, 101, 95, 115, 104, 97, 112, 101]), defArgs (top 49), defBody (top 49), defScope (top 49), [(sx [115, 104, 97, 112, 101]), (sx [111, 119, 110])], [(sx [115, 104, 97, 112, 101])]⟩
def x40 : Fx := ⟨((sx [112, 108, 97, 99, 101, 95, 105, 110]), none), (sx [112, 108, 97, 99, 101, 95, 105, 110]), (sx [112, 108, 97, 99, 101, 95, 105, 110]), defArgs (top 50), defBody (top 50), defScope (top 50), [(sx [115, 104, 97, 112, 101])], [(sx [115, 104, 97, 112, 101])]⟩
def x41 : Fx := ⟨((sx [115, 105, 100, 101, 95, 105, 110]), none), (sx [115, 105, 100, 101, 95, 105, 110]), (sx [115, 105, 100, 101, 95, 105, 110]), defArgs (top 51), defBody (top 51), defScope (top 51), [(sx [108, 105, 110, 107])], [(sx [108, 105, 110, 107])]⟩
def x42 : Fx := ⟨((sx [97, 114, 99, 115, 95, 105, 110]), none), (sx [97, 114, 99, 115, 95, 105, 110]), (sx [97, 114, 99, 115, 95, 105, 110]), defArgs (top 52), defBody (top 52), defScope (top 52), [(sx [115, 104, 97, 112, 101]), (sx [111, 116, 104, 101, 114]), (sx [110, 117, 109, 98, 101, 114]), (sx [103, 111, 97, 108]), (sx [102, 111, 117, 110, 100]), (sx [108, 105, 110, 107])], [(sx [115, 104, 97, 112, 101]), (sx [111, 116, 104, 101, 114])]⟩
def x43 : Fx := ⟨((sx [105, 115, 95, 115, 116, 97, 110, 100]), none), (sx [105, 115, 95, 115, 116, 97, 110, 100]), (sx [105, 115, 95, 115, 116, 97, 110, 100]), defArgs (top 54), defBody (top 54), defScope (top 54), [(sx [116, 104, 105, 110, 103]), (sx [111, 119, 110])], [(sx [116, 104, 105, 110, 103])]⟩
def x44 : Fx := ⟨((sx [115, 117, 114, 101, 95, 115, 116, 97, 110, 100]), none), (sx [115, 117, 114, 101, 95, 115, 116, 97, 110, 100]), (sx [115, 117, 114, 101, 95, 115, 116, 97, 110, 100]), defArgs (top 55), defBody (top 55), defScope (top 55), [(sx [115, 116, 97, 110, 100]), (sx [111, 119, 110])], [(sx [115, 116, 97, 110, 100])]⟩
def x45 : Fx := ⟨((sx [105, 115, 95, 109, 111, 118, 101]), none), (sx [105, 115, 95, 109, 111, 118, 101]), (sx [105, 115, 95, 109, 111, 118, 101]), defArgs (top 56), defBody (top 56), defScope (top 56), [(sx [116, 104, 105, 110, 103])], [(sx [116, 104, 105, 110, 103])]⟩
def x46 : Fx := ⟨((sx [109, 111, 114, 101, 95, 97, 116]), none), (sx [109, 111, 114, 101, 95, 97, 116]), (sx [109, 111, 114, 101, 95, 97, 116]), defArgs (top 57), defBody (top 57), defScope (top 57), [(sx [114, 111, 119]), (sx [112, 108, 97, 99, 101]), (sx [98, 121])], [(sx [114, 111, 119]), (sx [112, 108, 97, 99, 101]), (sx [98, 121])]⟩
def x47 : Fx := ⟨((sx [102, 108, 105, 112, 112, 101, 100]), none), (sx [102, 108, 105, 112, 112, 101, 100]), (sx [102, 108, 105, 112, 112, 101, 100]), defArgs (top 58), defBody (top 58), defScope (top 58), [(sx [114, 111, 119]), (sx [112, 108, 97, 99, 101])], [(sx [114, 111, 119]), (sx [112, 108, 97, 99, 101])]⟩
def x48 : Fx := ⟨((sx [116, 105, 112, 112, 101, 100, 95, 105, 110]), none), (sx [116, 105, 112, 112, 101, 100, 95, 105, 110]), (sx [116, 105, 112, 112, 101, 100, 95, 105, 110]), defArgs (top 59), defBody (top 59), defScope (top 59), [(sx [115, 116, 97, 110, 100]), (sx [119, 97, 121]), (sx [115, 104, 97, 112, 101]), (sx [120, 115]), (sx [121, 115]), (sx [102, 114, 111, 110, 116, 115]), (sx [105]), (sx [106]), (sx [107]), (sx [98, 121])], [(sx [115, 116, 97, 110, 100]), (sx [119, 97, 121])]⟩
def x49 : Fx := ⟨((sx [116, 117, 114, 110, 101, 100, 95, 105, 110]), none), (sx [116, 117, 114, 110, 101, 100, 95, 105, 110]), (sx [116, 117, 114, 110, 101, 100, 95, 105, 110]), defArgs (top 60), defBody (top 60), defScope (top 60), [(sx [115, 116, 97, 110, 100]), (sx [99, 111, 114, 110, 101, 114]), (sx [104, 97, 110, 100]), (sx [115, 104, 97, 112, 101]), (sx [120, 115]), (sx [121, 115]), (sx [102, 114, 111, 110, 116, 115]), (sx [105]), (sx [106]), (sx [107]), (sx [101, 97, 115, 116]), (sx [110, 111, 114, 116, 104])], [(sx [115, 116, 97, 110, 100]), (sx [99, 111, 114, 110, 101, 114]), (sx [104, 97, 110, 100])]⟩
def x50 : Fx := ⟨((sx [109, 111, 118, 101, 100, 95, 105, 110]), none), (sx [109, 111, 118, 101, 100, 95, 105, 110]), (sx [109, 111, 118, 101, 100, 95, 105, 110]), defArgs (top 61), defBody (top 61), defScope (top 61), [(sx [115, 116, 97, 110, 100]), (sx [109, 111, 118, 101])], [(sx [115, 116, 97, 110, 100]), (sx [109, 111, 118, 101])]⟩
def x51 : Fx := ⟨((sx [109, 105, 100, 100, 108, 101, 95, 105, 110]), none), (sx [109, 105, 100, 100, 108, 101, 95, 105, 110]), (sx [109, 105, 100, 100, 108, 101, 95, 105, 110]), defArgs (top 62), defBody (top 62), defScope (top 62), [(sx [99, 104, 101, 115, 116]), (sx [115, 116, 97, 110, 100]), (sx [101, 97, 115, 116]), (sx [109, 97, 110, 121]), (sx [115, 105, 100, 101])], [(sx [99, 104, 101, 115, 116]), (sx [115, 116, 97, 110, 100])]⟩
def x52 : Fx := ⟨((sx [105, 115, 95, 114, 111, 119, 95, 105, 110]), none), (sx [105, 115, 95, 114, 111, 119, 95, 105, 110]), (sx [105, 115, 95, 114, 111, 119, 95, 105, 110]), defArgs (top 64), defBody (top 64), defScope (top 64), [(sx [116, 104, 105, 110, 103]), (sx [109, 111, 118, 101])], [(sx [116, 104, 105, 110, 103])]⟩
def x53 : Fx := ⟨((sx [98, 101, 104, 105, 110, 100, 95, 105, 110]), none), (sx [98, 101, 104, 105, 110, 100, 95, 105, 110]), (sx [98, 101, 104, 105, 110, 100, 95, 105, 110]), defArgs (top 65), defBody (top 65), defScope (top 65), [(sx [115, 116, 97, 110, 100]), (sx [114, 111, 119]), (sx [109, 111, 118, 101])], [(sx [115, 116, 97, 110, 100]), (sx [114, 111, 119])]⟩
def x54 : Fx := ⟨((sx [109, 111, 114, 101, 95, 111, 102]), none), (sx [109, 111, 114, 101, 95, 111, 102]), (sx [109, 111, 114, 101, 95, 111, 102]), defArgs (top 69), defBody (top 69), defScope (top 69), [(sx [111, 110, 101]), (sx [111, 116, 104, 101, 114]), (sx [110, 101, 97, 114]), (sx [102, 97, 114])], [(sx [111, 110, 101]), (sx [111, 116, 104, 101, 114])]⟩
def x55 : Fx := ⟨((sx [99, 111, 117, 110, 116, 115, 95, 105, 110]), none), (sx [99, 111, 117, 110, 116, 115, 95, 105, 110]), (sx [99, 111, 117, 110, 116, 115, 95, 105, 110]), defArgs (top 70), defBody (top 70), defScope (top 70), [(sx [115, 116, 97, 110, 100]), (sx [103, 111, 97, 108]), (sx [98, 111, 116, 104]), (sx [111, 119, 110]), (sx [108, 105, 110, 107])], [(sx [115, 116, 97, 110, 100]), (sx [103, 111, 97, 108])]⟩
def x56 : Fx := ⟨((sx [115, 104, 105, 102, 116, 95, 105, 110]), none), (sx [115, 104, 105, 102, 116, 95, 105, 110]), (sx [115, 104, 105, 102, 116, 95, 105, 110]), defArgs (top 71), defBody (top 71), defScope (top 71), [(sx [99, 111, 117, 110, 116, 115]), (sx [114, 101, 115, 116]), (sx [108, 105, 110, 107, 115]), (sx [102, 111, 117, 110, 100]), (sx [115, 105, 100, 101]), (sx [108, 105, 110, 107])], [(sx [99, 111, 117, 110, 116, 115]), (sx [114, 101, 115, 116])]⟩
def x57 : Fx := ⟨((sx [111, 100, 100, 95, 105, 110]), none), (sx [111, 100, 100, 95, 105, 110]), (sx [111, 100, 100, 95, 105, 110]), defArgs (top 72), defBody (top 72), defScope (top 72), [(sx [99, 111, 117, 110, 116, 115]), (sx [108, 105, 110, 107]), (sx [111, 119, 110])], [(sx [99, 111, 117, 110, 116, 115])]⟩
def x58 : Fx := ⟨((sx [108, 101, 97, 100, 115, 95, 105, 110]), none), (sx [108, 101, 97, 100, 115, 95, 105, 110]), (sx [108, 101, 97, 100, 115, 95, 105, 110]), defArgs (top 74), defBody (top 74), defScope (top 74), [(sx [115, 104, 97, 112, 101]), (sx [111, 116, 104, 101, 114]), (sx [99, 111, 117, 110, 116, 115]), (sx [111, 119, 110])], [(sx [115, 104, 97, 112, 101]), (sx [111, 116, 104, 101, 114]), (sx [99, 111, 117, 110, 116, 115])]⟩
def x59 : Fx := ⟨((sx [104, 97, 108, 118, 101, 115, 95, 105, 110]), none), (sx [104, 97, 108, 118, 101, 115, 95, 105, 110]), (sx [104, 97, 108, 118, 101, 115, 95, 105, 110]), defArgs (top 75), defBody (top 75), defScope (top 75), [(sx [115, 104, 105, 102, 116]), (sx [119, 97, 115]), (sx [108, 105, 101, 115])], [(sx [115, 104, 105, 102, 116]), (sx [119, 97, 115]), (sx [108, 105, 101, 115])]⟩
def x60 : Fx := ⟨((sx [102, 114, 111, 110, 116, 115, 95, 105, 110]), none), (sx [102, 114, 111, 110, 116, 115, 95, 105, 110]), (sx [102, 114, 111, 110, 116, 115, 95, 105, 110]), defArgs (top 76), defBody (top 76), defScope (top 76), [(sx [115, 116, 97, 110, 100]), (sx [115, 104, 97, 112, 101]), (sx [99, 111, 117, 110, 116, 115]), (sx [108, 101, 118, 101, 108]), (sx [117, 112, 114, 105, 103, 104, 116]), (sx [102, 111, 117, 110, 100]), (sx [115, 105, 100, 101]), (sx [116, 117, 114, 110, 115])], [(sx [115, 116, 97, 110, 100]), (sx [115, 104, 97, 112, 101]), (sx [99, 111, 117, 110, 116, 115])]⟩
def x61 : Fx := ⟨((sx [115, 116, 97, 110, 100, 95, 105, 110]), none), (sx [115, 116, 97, 110, 100, 95, 105, 110]), (sx [115, 116, 97, 110, 100, 95, 105, 110]), defArgs (top 77), defBody (top 77), defScope (top 77), [(sx [115, 116, 97, 110, 100]), (sx [115, 104, 97, 112, 101]), (sx [99, 111, 117, 110, 116, 115]), (sx [120, 115]), (sx [121, 115]), (sx [115, 105, 100, 101]), (sx [111, 119, 110])], [(sx [115, 116, 97, 110, 100]), (sx [115, 104, 97, 112, 101]), (sx [99, 111, 117, 110, 116, 115])]⟩
def x62 : Fx := ⟨((sx [115, 116, 114, 101, 116, 99, 104, 95, 102, 114, 111, 109]), none), (sx [115, 116, 114, 101, 116, 99, 104, 95, 102, 114, 111, 109]), (sx [115, 116, 114, 101, 116, 99, 104, 95, 102, 114, 111, 109]), defArgs (top 80), defBody (top 80), defScope (top 80), [(sx [101, 110, 100, 115]), (sx [99, 111, 117, 110, 116, 115]), (sx [102, 105, 114, 115, 116]), (sx [102, 111, 117, 110, 100]), (sx [112, 108, 97, 99, 101])], [(sx [101, 110, 100, 115]), (sx [99, 111, 117, 110, 116, 115]), (sx [102, 105, 114, 115, 116])]⟩
def x63 : Fx := ⟨((sx [115, 116, 114, 101, 116, 99, 104, 101, 115, 95, 105, 110]), none), (sx [115, 116, 114, 101, 116, 99, 104, 101, 115, 95, 105, 110]), (sx [115, 116, 114, 101, 116, 99, 104, 101, 115, 95, 105, 110]), defArgs (top 81), defBody (top 81), defScope (top 81), [(sx [115, 104, 97, 112, 101]), (sx [111, 116, 104, 101, 114]), (sx [99, 111, 117, 110, 116, 115]), (sx [101, 110, 100, 115]), (sx [102, 111, 117, 110, 100]), (sx [112, 108, 97, 99, 101])], [(sx [115, 104, 97, 112, 101]), (sx [111, 116, 104, 101, 114]), (sx [99, 111, 117, 110, 116, 115])]⟩
def x64 : Fx := ⟨((sx [108, 111, 110, 103, 101, 115, 116, 95, 105, 110]), none), (sx [108, 111, 110, 103, 101, 115, 116, 95, 105, 110]), (sx [108, 111, 110, 103, 101, 115, 116, 95, 105, 110]), defArgs (top 83), defBody (top 83), defScope (top 83), [(sx [115, 116, 97, 110, 100]), (sx [103, 111, 97, 108]), (sx [116, 111, 108, 100]), (sx [109, 111, 115, 116]), (sx [111, 119, 110])], [(sx [115, 116, 97, 110, 100]), (sx [103, 111, 97, 108])]⟩
def x65 : Fx := ⟨((sx [116, 105, 109, 101, 115, 95, 105, 110]), none), (sx [116, 105, 109, 101, 115, 95, 105, 110]), (sx [116, 105, 109, 101, 115, 95, 105, 110]), defArgs (top 85), defBody (top 85), defScope (top 85), [(sx [115, 116, 97, 110, 100]), (sx [103, 111, 97, 108]), (sx [99, 111, 117, 110, 116, 115]), (sx [115, 116, 114, 101, 116, 99, 104]), (sx [102, 111, 117, 110, 100]), (sx [108, 105, 110, 107]), (sx [111, 119, 110])], [(sx [115, 116, 97, 110, 100]), (sx [103, 111, 97, 108])]⟩
def x66 : Fx := ⟨((sx [104, 97, 110, 103, 115]), none), (sx [104, 97, 110, 103, 115]), (sx [104, 97, 110, 103, 115]), defArgs (top 86), defBody (top 86), defScope (top 86), [(sx [108, 101, 102, 116]), (sx [104, 101, 114, 101]), (sx [101, 110, 100]), (sx [115, 101, 101, 110]), (sx [110, 111, 119]), (sx [108, 97, 116, 101, 114]), (sx [111, 119, 110]), (sx [108, 105, 110, 107]), (sx [102, 97, 114])], [(sx [108, 101, 102, 116]), (sx [104, 101, 114, 101]), (sx [101, 110, 100])]⟩
def x67 : Fx := ⟨((sx [119, 97, 121, 95, 111, 118, 101, 114]), none), (sx [119, 97, 121, 95, 111, 118, 101, 114]), (sx [119, 97, 121, 95, 111, 118, 101, 114]), defArgs (top 87), defBody (top 87), defScope (top 87), [(sx [108, 105, 110, 107]), (sx [105, 115, 95, 111, 110])], [(sx [108, 105, 110, 107]), (sx [105, 115, 95, 111, 110])]⟩
def x68 : Fx := ⟨((sx [114, 111, 119, 95, 98, 121, 95, 116, 105, 109, 101, 115]), none), (sx [114, 111, 119, 95, 98, 121, 95, 116, 105, 109, 101, 115]), (sx [114, 111, 119, 95, 98, 121, 95, 116, 105, 109, 101, 115]), defArgs (top 88), defBody (top 88), defScope (top 88), [(sx [115, 116, 97, 110, 100]), (sx [103, 111, 97, 108]), (sx [116, 105, 109, 101, 115]), (sx [99, 111, 117, 110, 116, 115]), (sx [108, 101, 102, 116]), (sx [102, 111, 117, 110, 100]), (sx [104, 101, 114, 101]), (sx [101, 110, 100]), (sx [95]), (sx [108, 105, 110, 107]), (sx [102, 97, 114]), (sx [114, 101, 115, 116]), (sx [105, 115, 95, 111, 110]), (sx [111, 119, 110])], [(sx [115, 116, 97, 110, 100]), (sx [103, 111, 97, 108]), (sx [116, 105, 109, 101, 115])]⟩
def x69 : Fx := ⟨((sx [112, 108, 97, 110, 95, 105, 110]), none), (sx [112, 108, 97, 110, 95, 105, 110]), (sx [112, 108, 97, 110, 95, 105, 110]), defArgs (top 89), defBody (top 89), defScope (top 89), [(sx [115, 116, 97, 110, 100]), (sx [103, 111, 97, 108])], [(sx [115, 116, 97, 110, 100]), (sx [103, 111, 97, 108])]⟩
def x70 : Fx := ⟨((sx [115, 117, 114, 101, 95, 109, 105, 100, 100, 108, 101]), none), (sx [115, 117, 114, 101, 95, 109, 105, 100, 100, 108, 101]), (sx [115, 117, 114, 101, 95, 109, 105, 100, 100, 108, 101]), defArgs (top 94), defBody (top 94), defScope (top 94), [(sx [109, 105, 100, 100, 108, 101]), (sx [111, 119, 110]), (sx [112, 97, 114, 116])], [(sx [109, 105, 100, 100, 108, 101])]⟩
def x71 : Fx := ⟨((sx [99, 111, 105, 110, 115, 95, 105, 110]), none), (sx [99, 111, 105, 110, 115, 95, 105, 110]), (sx [99, 111, 105, 110, 115, 95, 105, 110]), defArgs (top 95), defBody (top 95), defScope (top 95), [(sx [99, 104, 101, 115, 116]), (sx [97, 114, 99]), (sx [97, 120, 105, 115]), (sx [108, 105, 110, 107, 115]), (sx [109, 117, 115, 116]), (sx [102, 111, 117, 110, 100]), (sx [108, 105, 110, 107])], [(sx [99, 104, 101, 115, 116]), (sx [97, 114, 99]), (sx [97, 120, 105, 115]), (sx [108, 105, 110, 107, 115]), (sx [109, 117, 115, 116])]⟩
def x72 : Fx := ⟨((sx [108, 105, 110, 107, 95, 99, 111, 105, 110, 115]), none), (sx [108, 105, 110, 107, 95, 99, 111, 105, 110, 115]), (sx [108, 105, 110, 107, 95, 99, 111, 105, 110, 115]), defArgs (top 96), defBody (top 96), defScope (top 96), [(sx [99, 104, 101, 115, 116]), (sx [97, 114, 99]), (sx [97, 120, 105, 115]), (sx [111, 119, 110]), (sx [108, 105, 110, 107, 115]), (sx [108, 105, 110, 107])], [(sx [99, 104, 101, 115, 116]), (sx [97, 114, 99]), (sx [97, 120, 105, 115])]⟩
def x73 : Fx := ⟨((sx [108, 101, 102, 116, 95, 105, 110]), none), (sx [108, 101, 102, 116, 95, 105, 110]), (sx [108, 101, 102, 116, 95, 105, 110]), defArgs (top 97), defBody (top 97), defScope (top 97), [(sx [99, 104, 101, 115, 116]), (sx [115, 116, 97, 110, 100]), (sx [109, 105, 100, 100, 108, 101]), (sx [104, 101, 114, 101])], [(sx [99, 104, 101, 115, 116]), (sx [115, 116, 97, 110, 100]), (sx [109, 105, 100, 100, 108, 101])]⟩
def x74 : Fx := ⟨((sx [119, 97, 121, 95, 108, 101, 102, 116]), none), (sx [119, 97, 121, 95, 108, 101, 102, 116]), (sx [119, 97, 121, 95, 108, 101, 102, 116]), defArgs (top 98), defBody (top 98), defScope (top 98), [(sx [99, 104, 101, 115, 116]), (sx [115, 116, 97, 110, 100]), (sx [109, 105, 100, 100, 108, 101]), (sx [111, 119, 110]), (sx [115, 112, 111, 116])], [(sx [99, 104, 101, 115, 116]), (sx [115, 116, 97, 110, 100]), (sx [109, 105, 100, 100, 108, 101])]⟩
def x75 : Fx := ⟨((sx [115, 117, 114, 101, 95, 97, 105, 109]), none), (sx [115, 117, 114, 101, 95, 97, 105, 109]), (sx [115, 117, 114, 101, 95, 97, 105, 109]), defArgs (top 99), defBody (top 99), defScope (top 99), [(sx [99, 104, 101, 115, 116]), (sx [115, 116, 97, 110, 100]), (sx [115, 104, 97, 112, 101]), (sx [109, 105, 100, 100, 108, 101]), (sx [111, 119, 110]), (sx [115, 112, 111, 116]), (sx [103, 111, 97, 108])], [(sx [99, 104, 101, 115, 116]), (sx [115, 116, 97, 110, 100]), (sx [115, 104, 97, 112, 101]), (sx [109, 105, 100, 100, 108, 101])]⟩
def x76 : Fx := ⟨((sx [114, 117, 110, 115, 95, 105, 110]), none), (sx [114, 117, 110, 115, 95, 105, 110]), (sx [114, 117, 110, 115, 95, 105, 110]), defArgs (top 100), defBody (top 100), defScope (top 100), [(sx [115, 104, 97, 112, 101]), (sx [111, 116, 104, 101, 114]), (sx [110, 101, 97, 114]), (sx [102, 97, 114]), (sx [102, 111, 117, 110, 100]), (sx [109, 97, 110, 121]), (sx [102, 105, 114, 115, 116]), (sx [105, 110, 115, 105, 100, 101]), (sx [115, 116, 101, 112])], [(sx [115, 104, 97, 112, 101]), (sx [111, 116, 104, 101, 114])]⟩
def x77 : Fx := ⟨((sx [97, 114, 99, 95, 99, 97, 110, 95, 105, 110]), none), (sx [97, 114, 99, 95, 99, 97, 110, 95, 105, 110]), (sx [97, 114, 99, 95, 99, 97, 110, 95, 105, 110]), defArgs (top 101), defBody (top 101), defScope (top 101), [(sx [99, 104, 101, 115, 116]), (sx [97, 114, 99]), (sx [108, 101, 102, 116]), (sx [97, 120, 105, 115])], [(sx [99, 104, 101, 115, 116]), (sx [97, 114, 99]), (sx [108, 101, 102, 116])]⟩
def x78 : Fx := ⟨((sx [99, 97, 110, 95, 116, 105, 112, 95, 116, 104, 101, 114, 101]), none), (sx [99, 97, 110, 95, 116, 105, 112, 95, 116, 104, 101, 114, 101]), (sx [99, 97, 110, 95, 116, 105, 112, 95, 116, 104, 101, 114, 101]), defArgs (top 102), defBody (top 102), defScope (top 102), [(sx [99, 104, 101, 115, 116]), (sx [115, 116, 97, 110, 100]), (sx [115, 104, 97, 112, 101]), (sx [109, 105, 100, 100, 108, 101]), (sx [111, 119, 110]), (sx [115, 112, 111, 116]), (sx [103, 111, 97, 108]), (sx [108, 101, 102, 116]), (sx [97, 114, 99])], [(sx [99, 104, 101, 115, 116]), (sx [115, 116, 97, 110, 100]), (sx [115, 104, 97, 112, 101]), (sx [109, 105, 100, 100, 108, 101])]⟩
def x79 : Fx := ⟨((sx [112, 97, 105, 100, 95, 105, 110]), none), (sx [112, 97, 105, 100, 95, 105, 110]), (sx [112, 97, 105, 100, 95, 105, 110]), defArgs (top 103), defBody (top 103), defScope (top 103), [(sx [107, 110, 111, 119, 110]), (sx [99, 104, 101, 115, 116]), (sx [97, 114, 99]), (sx [108, 105, 110, 107, 115]), (sx [108, 101, 102, 116]), (sx [102, 111, 117, 110, 100]), (sx [97, 120, 105, 115]), (sx [111, 119, 110]), (sx [108, 105, 110, 107])], [(sx [107, 110, 111, 119, 110]), (sx [99, 104, 101, 115, 116]), (sx [97, 114, 99]), (sx [108, 105, 110, 107, 115]), (sx [108, 101, 102, 116])]⟩
def x80 : Fx := ⟨((sx [99, 111, 117, 110, 116, 115, 95, 98, 121]), none), (sx [99, 111, 117, 110, 116, 115, 95, 98, 121]), (sx [99, 111, 117, 110, 116, 115, 95, 98, 121]), defArgs (top 104), defBody (top 104), defScope (top 104), [(sx [108, 105, 110, 107, 115]), (sx [114, 111, 119, 115]), (sx [102, 111, 117, 110, 100]), (sx [97, 120, 105, 115]), (sx [111, 119, 110]), (sx [108, 105, 110, 107]), (sx [109, 97, 110, 121])], [(sx [108, 105, 110, 107, 115]), (sx [114, 111, 119, 115])]⟩
def x81 : Fx := ⟨((sx [98, 101, 115, 116, 95, 116, 111, 108, 100]), none), (sx [98, 101, 115, 116, 95, 116, 111, 108, 100]), (sx [98, 101, 115, 116, 95, 116, 111, 108, 100]), defArgs (top 105), defBody (top 105), defScope (top 105), [(sx [99, 104, 101, 115, 116]), (sx [115, 112, 111, 116]), (sx [103, 111, 97, 108]), (sx [108, 101, 102, 116]), (sx [98, 101, 115, 116]), (sx [107, 110, 111, 119, 110]), (sx [97, 114, 99]), (sx [114, 117, 110]), (sx [108, 105, 110, 107, 115]), (sx [111, 110, 101]), (sx [111, 116, 104, 101, 114]), (sx [102, 111, 117, 110, 100]), (sx [108, 105, 110, 107])], [(sx [99, 104, 101, 115, 116]), (sx [115, 112, 111, 116]), (sx [103, 111, 97, 108]), (sx [108, 101, 102, 116])]⟩
def x82 : Fx := ⟨((sx [115, 117, 114, 101, 95, 116, 111, 108, 100]), none), (sx [115, 117, 114, 101, 95, 116, 111, 108, 100]), (sx [115, 117, 114, 101, 95, 116, 111, 108, 100]), defArgs (top 106), defBody (top 106), defScope (top 106), [(sx [99, 104, 101, 115, 116]), (sx [115, 116, 97, 110, 100]), (sx [115, 104, 97, 112, 101]), (sx [109, 105, 100, 100, 108, 101]), (sx [111, 119, 110]), (sx [115, 112, 111, 116]), (sx [103, 111, 97, 108]), (sx [108, 101, 102, 116]), (sx [102, 111, 117, 110, 100])], [(sx [99, 104, 101, 115, 116]), (sx [115, 116, 97, 110, 100]), (sx [115, 104, 97, 112, 101]), (sx [109, 105, 100, 100, 108, 101])]⟩
def x83 : Fx := ⟨((sx [102, 101, 119, 101, 115, 116, 95, 116, 111]), none), (sx [102, 101, 119, 101, 115, 116, 95, 116, 111]), (sx [102, 101, 119, 101, 115, 116, 95, 116, 111]), defArgs (top 107), defBody (top 107), defScope (top 107), [(sx [99, 104, 101, 115, 116]), (sx [115, 116, 97, 110, 100]), (sx [115, 104, 97, 112, 101]), (sx [109, 105, 100, 100, 108, 101])], [(sx [99, 104, 101, 115, 116]), (sx [115, 116, 97, 110, 100]), (sx [115, 104, 97, 112, 101]), (sx [109, 105, 100, 100, 108, 101])]⟩
def x84 : Fx := ⟨((sx [98, 101, 115, 116, 95, 99, 111, 117, 110, 116, 115]), none), (sx [98, 101, 115, 116, 95, 99, 111, 117, 110, 116, 115]), (sx [98, 101, 115, 116, 95, 99, 111, 117, 110, 116, 115]), defArgs (top 108), defBody (top 108), defScope (top 108), [(sx [99, 104, 101, 115, 116]), (sx [115, 116, 97, 110, 100]), (sx [115, 104, 97, 112, 101]), (sx [109, 105, 100, 100, 108, 101])], [(sx [99, 104, 101, 115, 116]), (sx [115, 116, 97, 110, 100]), (sx [115, 104, 97, 112, 101]), (sx [109, 105, 100, 100, 108, 101])]⟩
def x85 : Fx := ⟨((sx [98, 101, 115, 116, 95, 103, 111, 97, 108]), none), (sx [98, 101, 115, 116, 95, 103, 111, 97, 108]), (sx [98, 101, 115, 116, 95, 103, 111, 97, 108]), defArgs (top 109), defBody (top 109), defScope (top 109), [(sx [99, 104, 101, 115, 116]), (sx [115, 116, 97, 110, 100]), (sx [115, 104, 97, 112, 101]), (sx [109, 105, 100, 100, 108, 101]), (sx [99, 111, 117, 110, 116, 115])], [(sx [99, 104, 101, 115, 116]), (sx [115, 116, 97, 110, 100]), (sx [115, 104, 97, 112, 101]), (sx [109, 105, 100, 100, 108, 101])]⟩
def x86 : Fx := ⟨((sx [116, 105, 112, 95, 114, 111, 119]), none), (sx [116, 105, 112, 95, 114, 111, 119]), (sx [116, 105, 112, 95, 114, 111, 119]), defArgs (top 110), defBody (top 110), defScope (top 110), [(sx [99, 104, 101, 115, 116]), (sx [115, 116, 97, 110, 100]), (sx [115, 104, 97, 112, 101]), (sx [109, 105, 100, 100, 108, 101]), (sx [109, 97, 110, 121]), (sx [99, 111, 117, 110, 116, 115]), (sx [115, 112, 111, 116])], [(sx [99, 104, 101, 115, 116]), (sx [115, 116, 97, 110, 100]), (sx [115, 104, 97, 112, 101]), (sx [109, 105, 100, 100, 108, 101])]⟩
def x87 : Fx := ⟨((sx [105, 115, 95, 116, 105, 112, 95, 114, 111, 119]), none), (sx [105, 115, 95, 116, 105, 112, 95, 114, 111, 119]), (sx [105, 115, 95, 116, 105, 112, 95, 114, 111, 119]), defArgs (top 111), defBody (top 111), defScope (top 111), [(sx [99, 104, 101, 115, 116]), (sx [115, 116, 97, 110, 100]), (sx [115, 104, 97, 112, 101]), (sx [109, 105, 100, 100, 108, 101]), (sx [116, 104, 105, 110, 103]), (sx [111, 119, 110]), (sx [115, 112, 111, 116]), (sx [103, 111, 97, 108]), (sx [108, 101, 102, 116]), (sx [98, 101, 115, 116]), (sx [108, 97, 116, 101, 114]), (sx [109, 111, 118, 101])], [(sx [99, 104, 101, 115, 116]), (sx [115, 116, 97, 110, 100]), (sx [115, 104, 97, 112, 101]), (sx [109, 105, 100, 100, 108, 101]), (sx [116, 104, 105, 110, 103])]⟩
def x88 : Fx := ⟨((sx [97, 114, 99, 95, 98, 97, 114, 95, 105, 110]), none), (sx [97, 114, 99, 95, 98, 97, 114, 95, 105, 110]), (sx [97, 114, 99, 95, 98, 97, 114, 95, 105, 110]), defArgs (top 112), defBody (top 112), defScope (top 112), [(sx [99, 104, 101, 115, 116]), (sx [97, 114, 99]), (sx [108, 101, 102, 116]), (sx [97, 120, 105, 115]), (sx [102, 111, 117, 110, 100])], [(sx [99, 104, 101, 115, 116]), (sx [97, 114, 99]), (sx [108, 101, 102, 116])]⟩
def x89 : Fx := ⟨((sx [119, 104, 121, 95, 110, 101, 118, 101, 114]), none), (sx [119, 104, 121, 95, 110, 101, 118, 101, 114]), (sx [119, 104, 121, 95, 110, 101, 118, 101, 114]), defArgs (top 113), defBody (top 113), defScope (top 113), [(sx [99, 104, 101, 115, 116]), (sx [115, 116, 97, 110, 100]), (sx [115, 104, 97, 112, 101]), (sx [109, 105, 100, 100, 108, 101]), (sx [111, 119, 110]), (sx [115, 112, 111, 116]), (sx [103, 111, 97, 108]), (sx [108, 101, 102, 116]), (sx [102, 111, 117, 110, 100]), (sx [97, 114, 99])], [(sx [99, 104, 101, 115, 116]), (sx [115, 116, 97, 110, 100]), (sx [115, 104, 97, 112, 101]), (sx [109, 105, 100, 100, 108, 101])]⟩
def x90 : Fx := ⟨((sx [105, 115, 95, 97, 114, 99, 95, 98, 97, 114]), none), (sx [105, 115, 95, 97, 114, 99, 95, 98, 97, 114]), (sx [105, 115, 95, 97, 114, 99, 95, 98, 97, 114]), defArgs (top 114), defBody (top 114), defScope (top 114), [(sx [99, 104, 101, 115, 116]), (sx [97, 114, 99]), (sx [108, 101, 102, 116]), (sx [116, 104, 105, 110, 103])], [(sx [99, 104, 101, 115, 116]), (sx [97, 114, 99]), (sx [108, 101, 102, 116]), (sx [116, 104, 105, 110, 103])]⟩
def x91 : Fx := ⟨((sx [105, 115, 95, 119, 104, 121, 95, 110, 101, 118, 101, 114]), none), (sx [105, 115, 95, 119, 104, 121, 95, 110, 101, 118, 101, 114]), (sx [105, 115, 95, 119, 104, 121, 95, 110, 101, 118, 101, 114]), defArgs (top 115), defBody (top 115), defScope (top 115), [(sx [99, 104, 101, 115, 116]), (sx [115, 116, 97, 110, 100]), (sx [115, 104, 97, 112, 101]), (sx [109, 105, 100, 100, 108, 101]), (sx [116, 104, 105, 110, 103]), (sx [111, 119, 110]), (sx [115, 112, 111, 116]), (sx [103, 111, 97, 108]), (sx [108, 101, 102, 116]), (sx [97, 114, 99, 115]), (sx [97, 114, 99]), (sx [116, 111, 108, 100])], [(sx [99, 104, 101, 115, 116]), (sx [115, 116, 97, 110, 100]), (sx [115, 104, 97, 112, 101]), (sx [109, 105, 100, 100, 108, 101]), (sx [116, 104, 105, 110, 103])]⟩
def x92 : Fx := ⟨((sx [95, 108, 97, 119, 95, 98, 111, 120]), none), (sx [95, 108, 97, 119, 95, 98, 111, 120]), (sx [95, 108, 97, 119, 95, 98, 111, 120]), defArgs (top 117), defBody (top 117), defScope (top 117), [(sx [95, 108, 97, 119, 95, 115, 99, 114, 105, 112, 116]), (sx [95, 108, 97, 119, 95, 107]), (sx [95, 108, 97, 119, 95, 98, 105, 116, 95, 115, 111])], [(sx [95, 108, 97, 119, 95, 115, 99, 114, 105, 112, 116]), (sx [95, 108, 97, 119, 95, 107])]⟩
def x93 : Fx := ⟨((sx [95, 108, 97, 119, 95, 116, 97, 107, 101]), none), (sx [95, 108, 97, 119, 95, 116, 97, 107, 101]), (sx [95, 108, 97, 119, 95, 116, 97, 107, 101]), defArgs (top 118), defBody (top 118), defScope (top 118), [(sx [95, 108, 97, 119, 95, 116, 105, 110]), (sx [95, 108, 97, 119, 95, 98, 101, 108, 111, 119, 95, 115, 111]), (sx [95, 108, 97, 119, 95, 100, 114, 97, 119, 110]), (sx [95, 108, 97, 119, 95, 111, 110, 99, 101, 95, 115, 111]), (sx [95, 108, 97, 119, 95, 119, 105, 100, 101, 95, 115, 111]), (sx [95, 108, 97, 119, 95, 116, 119, 105, 99, 101, 95, 115, 111])], [(sx [95, 108, 97, 119, 95, 116, 105, 110]), (sx [95, 108, 97, 119, 95, 98, 101, 108, 111, 119, 95, 115, 111])]⟩
def x94 : Fx := ⟨((sx [95, 108, 97, 119, 95, 99, 101, 108, 108, 115]), none), (sx [95, 108, 97, 119, 95, 99, 101, 108, 108, 115]), (sx [95, 108, 97, 119, 95, 99, 101, 108, 108, 115]), defArgs (top 119), defBody (top 119), defScope (top 119), [(sx [95, 108, 97, 119, 95, 115, 99, 114, 105, 112, 116]), (sx [95, 108, 97, 119, 95, 109, 111, 115, 116, 95, 115, 111]), (sx [95, 108, 97, 119, 95, 99, 101, 108, 108, 115, 95, 115, 111]), (sx [95, 108, 97, 119, 95, 107]), (sx [95, 108, 97, 119, 95, 98, 105, 116, 95, 115, 111]), (sx [95, 108, 97, 119, 95, 97, 116, 95, 115, 111])], [(sx [95, 108, 97, 119, 95, 115, 99, 114, 105, 112, 116]), (sx [95, 108, 97, 119, 95, 109, 111, 115, 116, 95, 115, 111])]⟩
def x95 : Fx := ⟨((sx [95, 108, 97, 119, 95, 108, 105, 115, 116, 115]), none), (sx [95, 108, 97, 119, 95, 108, 105, 115, 116, 115]), (sx [95, 108, 97, 119, 95, 108, 105, 115, 116, 115]), defArgs (top 120), defBody (top 120), defScope (top 120), [(sx [95, 108, 97, 119, 95, 109, 97, 116, 116, 101, 114]), (sx [95, 108, 97, 119, 95, 98, 105, 116])], [(sx [95, 108, 97, 119, 95, 109, 97, 116, 116, 101, 114])]⟩
def x96 : Fx := ⟨((sx [95, 108, 97, 119, 95, 115, 97, 109, 101]), none), (sx [95, 108, 97, 119, 95, 115, 97, 109, 101]), (sx [95, 108, 97, 119, 95, 115, 97, 109, 101]), defArgs (top 121), defBody (top 121), defScope (top 121), [(sx [95, 108, 97, 119, 95, 103, 111, 116]), (sx [95, 108, 97, 119, 95, 100, 117, 101]), (sx [95, 108, 97, 119, 95, 109, 105, 110, 101]), (sx [95, 108, 97, 119, 95, 105, 116, 115])], [(sx [95, 108, 97, 119, 95, 103, 111, 116]), (sx [95, 108, 97, 119, 95, 100, 117, 101])]⟩
def x97 : Fx := ⟨((sx [95, 108, 97, 119, 95, 104, 111, 109, 101]), none), (sx [95, 108, 97, 119, 95, 104, 111, 109, 101]), (sx [95, 108, 97, 119, 95, 104, 111, 109, 101]), defArgs (top 122), defBody (top 122), defScope (top 122), [], []⟩
def x98 : Fx := ⟨((sx [95, 108, 97, 119, 95, 112, 108, 117, 115]), none), (sx [95, 108, 97, 119, 95, 112, 108, 117, 115]), (sx [95, 108, 97, 119, 95, 112, 108, 117, 115]), defArgs (top 123), defBody (top 123), defScope (top 123), [(sx [95, 108, 97, 119, 95, 114, 111, 119, 95, 115, 111]), (sx [95, 108, 97, 119, 95, 107]), (sx [95, 108, 97, 119, 95, 98, 121, 95, 115, 111])], [(sx [95, 108, 97, 119, 95, 114, 111, 119, 95, 115, 111]), (sx [95, 108, 97, 119, 95, 107]), (sx [95, 108, 97, 119, 95, 98, 121, 95, 115, 111])]⟩
def x99 : Fx := ⟨((sx [95, 108, 97, 119, 95, 102, 108, 105, 112]), none), (sx [95, 108, 97, 119, 95, 102, 108, 105, 112]), (sx [95, 108, 97, 119, 95, 102, 108, 105, 112]), defArgs (top 124), defBody (top 124), defScope (top 124), [(sx [95, 108, 97, 119, 95, 114, 111, 119, 95, 115, 111]), (sx [95, 108, 97, 119, 95, 107])], [(sx [95, 108, 97, 119, 95, 114, 111, 119, 95, 115, 111]), (sx [95, 108, 97, 119, 95, 107])]⟩
def x100 : Fx := ⟨((sx [95, 108, 97, 119, 95, 116, 105, 112]), none), (sx [95, 108, 97, 119, 95, 116, 105, 112]), (sx [95, 108, 97, 119, 95, 116, 105, 112]), defArgs (top 125), defBody (top 125), defScope (top 125), [(sx [95, 108, 97, 119, 95, 115, 112, 111, 116]), (sx [95, 108, 97, 119, 95, 119, 97, 121, 95, 115, 111]), (sx [95, 108, 97, 119, 95, 112, 111, 115, 101]), (sx [95, 108, 97, 119, 95, 120, 115, 95, 115, 111]), (sx [95, 108, 97, 119, 95, 121, 115, 95, 115, 111]), (sx [95, 108, 97, 119, 95, 108, 111, 111, 107, 115, 95, 115, 111]), (sx [95, 108, 97, 119, 95, 105]), (sx [95, 108, 97, 119, 95, 106]), (sx [95, 108, 97, 119, 95, 107]), (sx [95, 108, 97, 119, 95, 98, 121, 95, 115, 111])], [(sx [95, 108, 97, 119, 95, 115, 112, 111, 116]), (sx [95, 108, 97, 119, 95, 119, 97, 121, 95, 115, 111])]⟩
def x101 : Fx := ⟨((sx [95, 108, 97, 119, 95, 116, 111, 108, 100, 95, 115, 105, 100, 101, 115]), none), (sx [95, 108, 97, 119, 95, 116, 111, 108, 100, 95, 115, 105, 100, 101, 115]), (sx [95, 108, 97, 119, 95, 116, 111, 108, 100, 95, 115, 105, 100, 101, 115]), defArgs (top 126), defBody (top 126), defScope (top 126), [(sx [95, 108, 97, 119, 95, 116, 119, 111]), (sx [95, 108, 97, 119, 95, 116, 104, 114, 101, 101])], []⟩
def x102 : Fx := ⟨((sx [95, 108, 97, 119, 95, 104, 101, 97, 114, 100]), none), (sx [95, 108, 97, 119, 95, 104, 101, 97, 114, 100]), (sx [95, 108, 97, 119, 95, 104, 101, 97, 114, 100]), defArgs (top 127), defBody (top 127), defScope (top 127), [(sx [95, 108, 97, 119, 95, 100, 111, 111, 114, 95, 115, 111]), (sx [95, 108, 97, 119, 95, 112, 97, 114, 116, 115, 95, 115, 111]), (sx [95, 108, 97, 119, 95, 116, 119, 111, 95, 115, 111]), (sx [95, 108, 97, 119, 95, 102, 111, 117, 114, 95, 115, 111]), (sx [95, 108, 97, 119, 95, 108, 97, 115, 116, 95, 115, 111]), (sx [115, 108, 105, 112, 95, 115, 111])], [(sx [95, 108, 97, 119, 95, 100, 111, 111, 114, 95, 115, 111]), (sx [95, 108, 97, 119, 95, 112, 97, 114, 116, 115, 95, 115, 111])]⟩
def x103 : Fx := ⟨((sx [95, 108, 97, 119, 95, 97, 108, 119, 97, 121, 115, 95, 114, 105, 103, 104, 116]), none), (sx [95, 108, 97, 119, 95, 97, 108, 119, 97, 121, 115, 95, 114, 105, 103, 104, 116]), (sx [95, 108, 97, 119, 95, 97, 108, 119, 97, 121, 115, 95, 114, 105, 103, 104, 116]), defArgs (top 128), defBody (top 128), defScope (top 128), [(sx [95, 108, 97, 119, 95, 116, 119, 111]), (sx [95, 108, 97, 119, 95, 116, 104, 114, 101, 101]), (sx [95, 108, 97, 119, 95, 116, 111, 117, 99, 104, 101, 100]), (sx [95, 108, 97, 119, 95, 99, 111, 102, 102, 101, 114]), (sx [95, 108, 97, 119, 95, 101, 118, 101, 110]), (sx [95, 108, 97, 119, 95, 108, 121, 105, 110, 103]), (sx [95, 108, 97, 119, 95, 99, 111, 105, 110]), (sx [95, 108, 97, 119, 95, 116, 104, 105, 110, 103, 115, 95, 115, 111]), (sx [95, 108, 97, 119, 95, 103, 111, 116]), (sx [95, 108, 97, 119, 95, 100, 117, 101]), (sx [95, 108, 97, 119, 95, 111, 119, 110])], []⟩
def x104 : Fx := ⟨((sx [95, 108, 97, 119, 95, 114, 101, 102, 117, 115, 101, 100, 95, 114, 105, 103, 104, 116]), none), (sx [95, 108, 97, 119, 95, 114, 101, 102, 117, 115, 101, 100, 95, 114, 105, 103, 104, 116]), (sx [95, 108, 97, 119, 95, 114, 101, 102, 117, 115, 101, 100, 95, 114, 105, 103, 104, 116]), defArgs (top 129), defBody (top 129), defScope (top 129), [(sx [95, 108, 97, 119, 95, 116, 119, 111]), (sx [95, 108, 97, 119, 95, 116, 104, 114, 101, 101]), (sx [95, 108, 97, 119, 95, 116, 111, 117, 99, 104, 101, 100]), (sx [95, 108, 97, 119, 95, 99, 111, 102, 102, 101, 114]), (sx [95, 108, 97, 119, 95, 101, 118, 101, 110]), (sx [95, 108, 97, 119, 95, 108, 121, 105, 110, 103]), (sx [95, 108, 97, 119, 95, 117, 110, 102, 105, 116, 95, 115, 111]), (sx [95, 108, 97, 119, 95, 102, 105, 114, 115, 116]), (sx [95, 108, 97, 119, 95, 103, 111, 116]), (sx [95, 108, 97, 119, 95, 100, 117, 101]), (sx [95, 108, 97, 119, 95, 111, 100, 100, 115, 95, 115, 111]), (sx [95, 108, 97, 119, 95, 111, 119, 110]), (sx [95, 108, 97, 119, 95, 98, 97, 100, 95, 115, 111]), (sx [95, 108, 97, 119, 95, 99, 117, 98, 101]), (sx [95, 108, 97, 119, 95, 116, 111, 108, 100]), (sx [95, 108, 97, 119, 95, 107])], []⟩
def x105 : Fx := ⟨((sx [95, 108, 97, 119, 95, 110, 97, 109, 101, 115, 95, 114, 105, 103, 104, 116]), none), (sx [95, 108, 97, 119, 95, 110, 97, 109, 101, 115, 95, 114, 105, 103, 104, 116]), (sx [95, 108, 97, 119, 95, 110, 97, 109, 101, 115, 95, 114, 105, 103, 104, 116]), defArgs (top 130), defBody (top 130), defScope (top 130), [(sx [95, 108, 97, 119, 95, 116, 119, 111]), (sx [95, 108, 97, 119, 95, 116, 104, 114, 101, 101]), (sx [95, 108, 97, 119, 95, 116, 111, 117, 99, 104, 101, 100]), (sx [95, 108, 97, 119, 95, 99, 111, 102, 102, 101, 114]), (sx [95, 108, 97, 119, 95, 101, 118, 101, 110]), (sx [95, 108, 97, 119, 95, 108, 121, 105, 110, 103]), (sx [95, 108, 97, 119, 95, 102, 105, 114, 115, 116]), (sx [95, 108, 97, 119, 95, 115, 111, 102, 116, 95, 115, 111]), (sx [95, 108, 97, 119, 95, 116, 114, 117, 110, 107]), (sx [95, 108, 97, 119, 95, 115, 112, 111, 116]), (sx [95, 108, 97, 119, 95, 103, 111, 116]), (sx [95, 108, 97, 119, 95, 100, 117, 101]), (sx [95, 108, 97, 119, 95, 116, 111, 108, 100])], []⟩
def x106 : Fx := ⟨((sx [108, 97, 119]), none), (sx [108, 97, 119]), (sx [108, 97, 119]), defArgs (top 131), defBody (top 131), defScope (top 131), [(sx [95, 108, 97, 119, 95, 115, 99, 114, 105, 112, 116]), (sx [95, 108, 97, 119, 95, 116, 117, 114, 110])], [(sx [95, 108, 97, 119, 95, 115, 99, 114, 105, 112, 116])]⟩
def lfx_0 : List (Option Fx) := [some x0, some x1, some x2, some x3, some x4, some x5, some x6, some x7, some x8, some x9, some x10, some x11, some x12, some x13, some x14, some x15, some x16, some x17, some x18, some x19, some x20, some x21, some x22, some x23, some x24, some x25, some x26, some x27, some x28, some x29]
def lfx_1 : List (Option Fx) := [some x30, some x31, some x32, some x33, some x34, some x35, some x36, some x37, some x38, some x39, some x40, some x41, some x42, some x43, some x44, some x45, some x46, some x47, some x48, some x49, some x50, some x51, some x52, some x53, some x54, some x55, some x56, some x57, some x58, some x59]
def lfx_2 : List (Option Fx) := [some x60, some x61, some x62, some x63, some x64, some x65, some x66, some x67, some x68, some x69, some x70, some x71, some x72, some x73, some x74, some x75, some x76, some x77, some x78, some x79, some x80, some x81, some x82, some x83, some x84, some x85, some x86, some x87, some x88, some x89]
def lfx_3 : List (Option Fx) := [some x90, some x91, some x92, some x93, some x94, some x95, some x96, some x97, some x98, some x99, some x100, some x101, some x102, some x103, some x104, some x105, some x106]
def lfx : List (Option Fx) := lfx_0 ++ lfx_1 ++ lfx_2 ++ lfx_3
def lP_0 : List (Fn) := [f0, f1, f2, f3, f4, f5, f6, f7, f8, f9, f10, f11, f12, f13, f14, f15, f16, f17, f18, f19, f20, f21, f22, f23, f24, f25, f26, f27, f28, f29]
def lP_1 : List (Fn) := [f30, f31, f32, f33, f34, f35, f36, f37, f38, f39, f40, f41, f42, f43, f44, f45, f46, f47, f48, f49, f50, f51, f52, f53, f54, f55, f56, f57, f58, f59]
def lP_2 : List (Fn) := [f60, f61, f62, f63, f64, f65, f66, f67, f68, f69, f70, f71, f72, f73, f74, f75, f76, f77, f78, f79, f80, f81, f82, f83, f84, f85, f86, f87, f88, f89]
def lP_3 : List (Fn) := [f90, f91, f92, f93, f94, f95, f96, f97, f98, f99, f100, f101, f102, f103, f104, f105, f106]
def lP : List (Fn) := lP_0 ++ lP_1 ++ lP_2 ++ lP_3
def lgl_0 : List (Str × Ip.D) := [((sx [82, 73, 78, 71]), Ip.D.tup [Ip.D.tup [Ip.D.int 0, Ip.D.int 1, Ip.D.int 2], Ip.D.tup [Ip.D.int 2, Ip.D.int 1, Ip.D.int 0], Ip.D.tup [Ip.D.int 2, Ip.D.int 0, Ip.D.int 1], Ip.D.tup [Ip.D.int 1, Ip.D.int 0, Ip.D.int 2], Ip.D.tup [Ip.D.int 1, Ip.D.int 2, Ip.D.int 0], Ip.D.tup [Ip.D.int 0, Ip.D.int 2, Ip.D.int 1]]), ((sx [65, 67, 82, 79, 83, 83]), Ip.D.tup [Ip.D.int 1, Ip.D.int 2, Ip.D.int 0, Ip.D.int 1, Ip.D.int 2, Ip.D.int 0]), ((sx [76, 73, 78, 75, 83, 95, 99, 111, 117, 110, 116, 115]), Ip.D.int 6), ((sx [83, 73, 68, 69, 83]), Ip.D.int 3), ((sx [76, 73, 78, 75, 83, 95, 108, 105, 110, 107, 115]), Ip.D.int 6), ((sx [76, 73, 78, 75, 83, 95, 116, 111, 108, 100]), Ip.D.int 6), ((sx [65, 76, 76, 95, 76, 73, 78, 75, 83]), Ip.D.tup [Ip.D.int 0, Ip.D.int 1, Ip.D.int 2, Ip.D.int 3, Ip.D.int 4, Ip.D.int 5]), ((sx [77, 79, 83, 84, 95, 84, 73, 80, 83]), Ip.D.int 2000), ((sx [105, 115, 95, 110, 117, 109, 98, 101, 114]), Ip.D.fn 0), ((sx [105, 115, 95, 102, 114, 111, 109]), Ip.D.fn 1), ((sx [105, 115, 95, 119, 105, 116, 104, 105, 110]), Ip.D.fn 2), ((sx [105, 115, 95, 108, 111, 110, 103]), Ip.D.fn 3), ((sx [116, 117, 112, 108, 101, 100]), Ip.D.fn 4), ((sx [97, 115, 99, 101, 110, 100, 115]), Ip.D.fn 5), ((sx [115, 101, 116, 95, 111, 102]), Ip.D.fn 6), ((sx [97, 114, 101, 95, 110, 117, 109, 98, 101, 114, 115]), Ip.D.fn 7), ((sx [105, 115, 95, 99, 111, 105, 110]), Ip.D.fn 8), ((sx [105, 115, 95, 99, 111, 105, 110, 115]), Ip.D.fn 9), ((sx [115, 117, 114, 101, 95, 99, 111, 105, 110, 115]), Ip.D.fn 10), ((sx [115, 117, 114, 101, 95, 119, 104, 111, 108, 101]), Ip.D.fn 11), ((sx [99, 111, 109, 109, 111, 110, 95, 105, 110]), Ip.D.fn 12), ((sx [115, 116, 101, 112, 95, 105, 110]), Ip.D.fn 13), ((sx [111, 100, 100, 95, 105, 110]), Ip.D.fn 57), ((sx [111, 100, 100, 95, 105, 110, 95, 99, 111, 105, 110, 115]), Ip.D.fn 14), ((sx [99, 97, 110, 95, 105, 110]), Ip.D.fn 15), ((sx [99, 97, 110, 95, 112, 97, 121]), Ip.D.fn 16), ((sx [105, 115, 95, 114, 111, 119, 95, 102, 111, 114]), Ip.D.fn 17), ((sx [115, 117, 109, 95, 105, 110]), Ip.D.fn 18), ((sx [105, 115, 95, 112, 97, 121, 105, 110, 103, 95, 105, 110]), Ip.D.fn 19), ((sx [105, 115, 95, 112, 97, 121, 105, 110, 103]), Ip.D.fn 20)]
def lgl_1 : List (Str × Ip.D) := [((sx [99, 111, 115, 116, 95, 105, 110]), Ip.D.fn 21), ((sx [99, 111, 115, 116, 95, 111, 102]), Ip.D.fn 22), ((sx [115, 111, 108, 118, 101, 100, 95, 105, 110]), Ip.D.fn 23), ((sx [108, 101, 115, 115, 101, 114, 95, 111, 102]), Ip.D.fn 24), ((sx [98, 101, 115, 116, 95, 111, 102, 95, 116, 119, 111]), Ip.D.fn 25), ((sx [98, 101, 115, 116, 95, 111, 102, 95, 116, 104, 114, 101, 101]), Ip.D.fn 26), ((sx [98, 101, 115, 116, 95, 105, 110]), Ip.D.fn 27), ((sx [115, 117, 114, 101, 95, 98, 101, 115, 116]), Ip.D.fn 28), ((sx [108, 101, 97, 115, 116, 95, 99, 111, 115, 116]), Ip.D.fn 29), ((sx [112, 97, 121, 105, 110, 103]), Ip.D.fn 30), ((sx [105, 115, 95, 108, 101, 97, 115, 116, 95, 112, 97, 121, 105, 110, 103]), Ip.D.fn 31), ((sx [98, 97, 114, 115, 95, 105, 110]), Ip.D.fn 32), ((sx [98, 97, 114, 95, 105, 110]), Ip.D.fn 33), ((sx [98, 97, 114]), Ip.D.fn 34), ((sx [105, 115, 95, 98, 97, 114]), Ip.D.fn 35), ((sx [105, 115, 95, 99, 104, 101, 115, 116]), Ip.D.fn 36), ((sx [115, 117, 114, 101, 95, 99, 104, 101, 115, 116]), Ip.D.fn 37), ((sx [105, 115, 95, 115, 104, 97, 112, 101]), Ip.D.fn 38), ((sx [115, 117, 114, 101, 95, 115, 104, 97, 112, 101]), Ip.D.fn 39), ((sx [112, 108, 97, 99, 101, 95, 105, 110]), Ip.D.fn 40), ((sx [115, 105, 100, 101, 95, 105, 110]), Ip.D.fn 41), ((sx [97, 114, 99, 115, 95, 105, 110]), Ip.D.fn 42), ((sx [105, 115, 95, 115, 116, 97, 110, 100]), Ip.D.fn 43), ((sx [115, 117, 114, 101, 95, 115, 116, 97, 110, 100]), Ip.D.fn 44), ((sx [105, 115, 95, 109, 111, 118, 101]), Ip.D.fn 45), ((sx [109, 111, 114, 101, 95, 97, 116]), Ip.D.fn 46), ((sx [102, 108, 105, 112, 112, 101, 100]), Ip.D.fn 47), ((sx [116, 105, 112, 112, 101, 100, 95, 105, 110]), Ip.D.fn 48), ((sx [116, 117, 114, 110, 101, 100, 95, 105, 110]), Ip.D.fn 49), ((sx [109, 111, 118, 101, 100, 95, 105, 110]), Ip.D.fn 50)]
def lgl_2 : List (Str × Ip.D) := [((sx [109, 105, 100, 100, 108, 101, 95, 105, 110]), Ip.D.fn 51), ((sx [105, 115, 95, 114, 111, 119, 95, 105, 110]), Ip.D.fn 52), ((sx [98, 101, 104, 105, 110, 100, 95, 105, 110]), Ip.D.fn 53), ((sx [109, 111, 114, 101, 95, 111, 102]), Ip.D.fn 54), ((sx [99, 111, 117, 110, 116, 115, 95, 105, 110]), Ip.D.fn 55), ((sx [115, 104, 105, 102, 116, 95, 105, 110]), Ip.D.fn 56), ((sx [111, 100, 100, 95, 105, 110, 95, 99, 111, 117, 110, 116, 115]), Ip.D.fn 57), ((sx [108, 101, 97, 100, 115, 95, 105, 110]), Ip.D.fn 58), ((sx [104, 97, 108, 118, 101, 115, 95, 105, 110]), Ip.D.fn 59), ((sx [102, 114, 111, 110, 116, 115, 95, 105, 110]), Ip.D.fn 60), ((sx [115, 116, 97, 110, 100, 95, 105, 110]), Ip.D.fn 61), ((sx [115, 116, 114, 101, 116, 99, 104, 95, 102, 114, 111, 109]), Ip.D.fn 62), ((sx [115, 116, 114, 101, 116, 99, 104, 101, 115, 95, 105, 110]), Ip.D.fn 63), ((sx [108, 111, 110, 103, 101, 115, 116, 95, 105, 110]), Ip.D.fn 64), ((sx [116, 105, 109, 101, 115, 95, 105, 110]), Ip.D.fn 65), ((sx [104, 97, 110, 103, 115]), Ip.D.fn 66), ((sx [119, 97, 121, 95, 111, 118, 101, 114]), Ip.D.fn 67), ((sx [114, 111, 119, 95, 98, 121, 95, 116, 105, 109, 101, 115]), Ip.D.fn 68), ((sx [112, 108, 97, 110, 95, 105, 110]), Ip.D.fn 69), ((sx [115, 117, 114, 101, 95, 109, 105, 100, 100, 108, 101]), Ip.D.fn 70), ((sx [99, 111, 105, 110, 115, 95, 105, 110]), Ip.D.fn 71), ((sx [108, 105, 110, 107, 95, 99, 111, 105, 110, 115]), Ip.D.fn 72), ((sx [108, 101, 102, 116, 95, 105, 110]), Ip.D.fn 73), ((sx [119, 97, 121, 95, 108, 101, 102, 116]), Ip.D.fn 74), ((sx [115, 117, 114, 101, 95, 97, 105, 109]), Ip.D.fn 75), ((sx [114, 117, 110, 115, 95, 105, 110]), Ip.D.fn 76), ((sx [97, 114, 99, 95, 99, 97, 110, 95, 105, 110]), Ip.D.fn 77), ((sx [99, 97, 110, 95, 116, 105, 112, 95, 116, 104, 101, 114, 101]), Ip.D.fn 78), ((sx [112, 97, 105, 100, 95, 105, 110]), Ip.D.fn 79), ((sx [99, 111, 117, 110, 116, 115, 95, 98, 121]), Ip.D.fn 80)]
def lgl_3 : List (Str × Ip.D) := [((sx [98, 101, 115, 116, 95, 116, 111, 108, 100]), Ip.D.fn 81), ((sx [115, 117, 114, 101, 95, 116, 111, 108, 100]), Ip.D.fn 82), ((sx [102, 101, 119, 101, 115, 116, 95, 116, 111]), Ip.D.fn 83), ((sx [98, 101, 115, 116, 95, 99, 111, 117, 110, 116, 115]), Ip.D.fn 84), ((sx [98, 101, 115, 116, 95, 103, 111, 97, 108]), Ip.D.fn 85), ((sx [116, 105, 112, 95, 114, 111, 119]), Ip.D.fn 86), ((sx [105, 115, 95, 116, 105, 112, 95, 114, 111, 119]), Ip.D.fn 87), ((sx [97, 114, 99, 95, 98, 97, 114, 95, 105, 110]), Ip.D.fn 88), ((sx [119, 104, 121, 95, 110, 101, 118, 101, 114]), Ip.D.fn 89), ((sx [105, 115, 95, 97, 114, 99, 95, 98, 97, 114]), Ip.D.fn 90), ((sx [105, 115, 95, 119, 104, 121, 95, 110, 101, 118, 101, 114]), Ip.D.fn 91), ((sx [95, 108, 97, 119, 95, 98, 111, 120]), Ip.D.fn 92), ((sx [95, 108, 97, 119, 95, 116, 97, 107, 101]), Ip.D.fn 93), ((sx [95, 108, 97, 119, 95, 99, 101, 108, 108, 115]), Ip.D.fn 94), ((sx [95, 108, 97, 119, 95, 108, 105, 115, 116, 115]), Ip.D.fn 95), ((sx [95, 108, 97, 119, 95, 115, 97, 109, 101]), Ip.D.fn 96), ((sx [95, 108, 97, 119, 95, 104, 111, 109, 101]), Ip.D.fn 97), ((sx [95, 108, 97, 119, 95, 112, 108, 117, 115]), Ip.D.fn 98), ((sx [95, 108, 97, 119, 95, 102, 108, 105, 112]), Ip.D.fn 99), ((sx [95, 108, 97, 119, 95, 116, 105, 112]), Ip.D.fn 100), ((sx [95, 108, 97, 119, 95, 116, 111, 108, 100, 95, 115, 105, 100, 101, 115]), Ip.D.fn 101), ((sx [95, 108, 97, 119, 95, 104, 101, 97, 114, 100]), Ip.D.fn 102), ((sx [95, 108, 97, 119, 95, 97, 108, 119, 97, 121, 115, 95, 114, 105, 103, 104, 116]), Ip.D.fn 103), ((sx [95, 108, 97, 119, 95, 114, 101, 102, 117, 115, 101, 100, 95, 114, 105, 103, 104, 116]), Ip.D.fn 104), ((sx [95, 108, 97, 119, 95, 110, 97, 109, 101, 115, 95, 114, 105, 103, 104, 116]), Ip.D.fn 105), ((sx [108, 97, 119]), Ip.D.fn 106)]
def lgl : List (Str × Ip.D) := lgl_0 ++ lgl_1 ++ lgl_2 ++ lgl_3
def lfn_0 : List (Option Str) := [some (sx [105, 115, 95, 110, 117, 109, 98, 101, 114]), some (sx [105, 115, 95, 102, 114, 111, 109]), some (sx [105, 115, 95, 119, 105, 116, 104, 105, 110]), some (sx [105, 115, 95, 108, 111, 110, 103]), some (sx [116, 117, 112, 108, 101, 100]), some (sx [97, 115, 99, 101, 110, 100, 115]), some (sx [115, 101, 116, 95, 111, 102]), some (sx [97, 114, 101, 95, 110, 117, 109, 98, 101, 114, 115]), some (sx [105, 115, 95, 99, 111, 105, 110]), some (sx [105, 115, 95, 99, 111, 105, 110, 115]), some (sx [115, 117, 114, 101, 95, 99, 111, 105, 110, 115]), some (sx [115, 117, 114, 101, 95, 119, 104, 111, 108, 101]), some (sx [99, 111, 109, 109, 111, 110, 95, 105, 110]), some (sx [115, 116, 101, 112, 95, 105, 110]), none, some (sx [99, 97, 110, 95, 105, 110]), some (sx [99, 97, 110, 95, 112, 97, 121]), some (sx [105, 115, 95, 114, 111, 119, 95, 102, 111, 114]), some (sx [115, 117, 109, 95, 105, 110]), some (sx [105, 115, 95, 112, 97, 121, 105, 110, 103, 95, 105, 110]), some (sx [105, 115, 95, 112, 97, 121, 105, 110, 103]), some (sx [99, 111, 115, 116, 95, 105, 110]), some (sx [99, 111, 115, 116, 95, 111, 102]), some (sx [115, 111, 108, 118, 101, 100, 95, 105, 110]), some (sx [108, 101, 115, 115, 101, 114, 95, 111, 102]), some (sx [98, 101, 115, 116, 95, 111, 102, 95, 116, 119, 111]), some (sx [98, 101, 115, 116, 95, 111, 102, 95, 116, 104, 114, 101, 101]), some (sx [98, 101, 115, 116, 95, 105, 110]), some (sx [115, 117, 114, 101, 95, 98, 101, 115, 116]), some (sx [108, 101, 97, 115, 116, 95, 99, 111, 115, 116])]
def lfn_1 : List (Option Str) := [some (sx [112, 97, 121, 105, 110, 103]), some (sx [105, 115, 95, 108, 101, 97, 115, 116, 95, 112, 97, 121, 105, 110, 103]), some (sx [98, 97, 114, 115, 95, 105, 110]), some (sx [98, 97, 114, 95, 105, 110]), some (sx [98, 97, 114]), some (sx [105, 115, 95, 98, 97, 114]), some (sx [105, 115, 95, 99, 104, 101, 115, 116]), some (sx [115, 117, 114, 101, 95, 99, 104, 101, 115, 116]), some (sx [105, 115, 95, 115, 104, 97, 112, 101]), some (sx [115, 117, 114, 101, 95, 115, 104, 97, 112, 101]), some (sx [112, 108, 97, 99, 101, 95, 105, 110]), some (sx [115, 105, 100, 101, 95, 105, 110]), some (sx [97, 114, 99, 115, 95, 105, 110]), some (sx [105, 115, 95, 115, 116, 97, 110, 100]), some (sx [115, 117, 114, 101, 95, 115, 116, 97, 110, 100]), some (sx [105, 115, 95, 109, 111, 118, 101]), some (sx [109, 111, 114, 101, 95, 97, 116]), some (sx [102, 108, 105, 112, 112, 101, 100]), some (sx [116, 105, 112, 112, 101, 100, 95, 105, 110]), some (sx [116, 117, 114, 110, 101, 100, 95, 105, 110]), some (sx [109, 111, 118, 101, 100, 95, 105, 110]), some (sx [109, 105, 100, 100, 108, 101, 95, 105, 110]), some (sx [105, 115, 95, 114, 111, 119, 95, 105, 110]), some (sx [98, 101, 104, 105, 110, 100, 95, 105, 110]), some (sx [109, 111, 114, 101, 95, 111, 102]), some (sx [99, 111, 117, 110, 116, 115, 95, 105, 110]), some (sx [115, 104, 105, 102, 116, 95, 105, 110]), some (sx [111, 100, 100, 95, 105, 110]), some (sx [108, 101, 97, 100, 115, 95, 105, 110]), some (sx [104, 97, 108, 118, 101, 115, 95, 105, 110])]
def lfn_2 : List (Option Str) := [some (sx [102, 114, 111, 110, 116, 115, 95, 105, 110]), some (sx [115, 116, 97, 110, 100, 95, 105, 110]), some (sx [115, 116, 114, 101, 116, 99, 104, 95, 102, 114, 111, 109]), some (sx [115, 116, 114, 101, 116, 99, 104, 101, 115, 95, 105, 110]), some (sx [108, 111, 110, 103, 101, 115, 116, 95, 105, 110]), some (sx [116, 105, 109, 101, 115, 95, 105, 110]), some (sx [104, 97, 110, 103, 115]), some (sx [119, 97, 121, 95, 111, 118, 101, 114]), some (sx [114, 111, 119, 95, 98, 121, 95, 116, 105, 109, 101, 115]), some (sx [112, 108, 97, 110, 95, 105, 110]), some (sx [115, 117, 114, 101, 95, 109, 105, 100, 100, 108, 101]), some (sx [99, 111, 105, 110, 115, 95, 105, 110]), some (sx [108, 105, 110, 107, 95, 99, 111, 105, 110, 115]), some (sx [108, 101, 102, 116, 95, 105, 110]), some (sx [119, 97, 121, 95, 108, 101, 102, 116]), some (sx [115, 117, 114, 101, 95, 97, 105, 109]), some (sx [114, 117, 110, 115, 95, 105, 110]), some (sx [97, 114, 99, 95, 99, 97, 110, 95, 105, 110]), some (sx [99, 97, 110, 95, 116, 105, 112, 95, 116, 104, 101, 114, 101]), some (sx [112, 97, 105, 100, 95, 105, 110]), some (sx [99, 111, 117, 110, 116, 115, 95, 98, 121]), some (sx [98, 101, 115, 116, 95, 116, 111, 108, 100]), some (sx [115, 117, 114, 101, 95, 116, 111, 108, 100]), some (sx [102, 101, 119, 101, 115, 116, 95, 116, 111]), some (sx [98, 101, 115, 116, 95, 99, 111, 117, 110, 116, 115]), some (sx [98, 101, 115, 116, 95, 103, 111, 97, 108]), some (sx [116, 105, 112, 95, 114, 111, 119]), some (sx [105, 115, 95, 116, 105, 112, 95, 114, 111, 119]), some (sx [97, 114, 99, 95, 98, 97, 114, 95, 105, 110]), some (sx [119, 104, 121, 95, 110, 101, 118, 101, 114])]
def lfn_3 : List (Option Str) := [some (sx [105, 115, 95, 97, 114, 99, 95, 98, 97, 114]), some (sx [105, 115, 95, 119, 104, 121, 95, 110, 101, 118, 101, 114]), some (sx [95, 108, 97, 119, 95, 98, 111, 120]), some (sx [95, 108, 97, 119, 95, 116, 97, 107, 101]), some (sx [95, 108, 97, 119, 95, 99, 101, 108, 108, 115]), some (sx [95, 108, 97, 119, 95, 108, 105, 115, 116, 115]), some (sx [95, 108, 97, 119, 95, 115, 97, 109, 101]), some (sx [95, 108, 97, 119, 95, 104, 111, 109, 101]), some (sx [95, 108, 97, 119, 95, 112, 108, 117, 115]), some (sx [95, 108, 97, 119, 95, 102, 108, 105, 112]), some (sx [95, 108, 97, 119, 95, 116, 105, 112]), some (sx [95, 108, 97, 119, 95, 116, 111, 108, 100, 95, 115, 105, 100, 101, 115]), some (sx [95, 108, 97, 119, 95, 104, 101, 97, 114, 100]), some (sx [95, 108, 97, 119, 95, 97, 108, 119, 97, 121, 115, 95, 114, 105, 103, 104, 116]), some (sx [95, 108, 97, 119, 95, 114, 101, 102, 117, 115, 101, 100, 95, 114, 105, 103, 104, 116]), some (sx [95, 108, 97, 119, 95, 110, 97, 109, 101, 115, 95, 114, 105, 103, 104, 116]), some (sx [108, 97, 119])]
def lfn : List (Option Str) := lfn_0 ++ lfn_1 ++ lfn_2 ++ lfn_3
def lce : List (Option Ce) := [some ⟨(sx [67, 97, 110, 78, 111, 116]), false, none⟩, some ⟨(sx [84, 111, 111, 77, 97, 110, 121]), false, none⟩, some ⟨(sx [85, 110, 102, 105, 116]), false, none⟩]
def lats : List Str := []
def loc : List (Option Oc) := [none, none, none]
def T : Tx := ⟨lfx, lP, lgl, lfn, lce, (sx [108, 105, 110, 107]), lats, loc, false⟩
theorem st : T.stB = true := by decide +kernel
def loose0 : List Str := ["CanNot", "TooMany", "Unfit", "is_number", "is_from", "is_within", "is_long", "tupled", "ascends", "set_of", "are_numbers", "is_coin", "is_coins", "sure_coins", "sure_whole", "common_in", "step_in", "odd_in", "odd_in_coins", "can_in", "can_pay", "is_row_for", "sum_in", "is_paying_in", "is_paying", "cost_in", "cost_of", "solved_in", "lesser_of", "best_of_two"]
def loose1 : List Str := ["best_of_three", "best_in", "sure_best", "least_cost", "paying", "is_least_paying", "bars_in", "bar_in", "bar", "is_bar", "RING", "ACROSS", "is_chest", "sure_chest", "is_shape", "sure_shape", "place_in", "side_in", "arcs_in", "is_stand", "sure_stand", "is_move", "more_at", "flipped", "tipped_in", "turned_in", "moved_in", "middle_in", "is_row_in", "behind_in"]
def loose2 : List Str := ["LINKS_counts", "SIDES", "more_of", "counts_in", "shift_in", "odd_in_counts", "leads_in", "halves_in", "fronts_in", "stand_in", "LINKS_links", "stretch_from", "stretches_in", "longest_in", "times_in", "hangs", "way_over", "row_by_times", "plan_in", "LINKS_told", "ALL_LINKS", "MOST_TIPS", "sure_middle", "coins_in", "link_coins", "left_in", "way_left", "sure_aim", "runs_in", "arc_can_in"]
def loose3 : List Str := ["can_tip_there", "paid_in", "counts_by", "best_told", "sure_told", "fewest_to", "best_counts", "best_goal", "tip_row", "is_tip_row", "arc_bar_in", "why_never", "is_arc_bar", "is_why_never", "_law_box", "_law_take", "_law_cells", "_law_lists", "_law_same", "_law_home", "_law_plus", "_law_flip", "_law_tip", "_law_told_sides", "_law_heard", "_law_always_right", "_law_refused_right", "_law_names_right"]
def loose : List Str := loose0 ++ loose1 ++ loose2 ++ loose3
abbrev Rw : PySem.W.OpenRow := PySem.W.OpenLaw.row PySem.Challenge.rw_movedchest_k42_coins_and_told_by_hand_an
abbrev hk : PySem.W.Hook := hookI 5 T x106 Rw.prog
def ob (s : PySem.W.SharedT) : He.AlD × Bool := obsI 5 T x106 Rw.prog (HandSHeadRun.getT s)
theorem ob_eq (s : PySem.W.SharedT) : ob s = hk.obs s.abs := obsI_eq (HandSHeadRun.getT_eq s)
open PySem.W HandSHeadRun in
theorem runA (w : World) (os : OsState) : (endF (stepQ (denQ tabQ) Rw.prog w) 8000 Rw.prog w os).map (fun s => looksF Rw.prog (boot_heap w.params) s.abs) = some true := by
  kernel_rfl
open PySem.W HandSHeadRun in
theorem runB (w : World) (os : OsState) : (endF (stepQ (denQ tabQ) Rw.prog w) 8000 Rw.prog w os).map (fun s => seenQ (PySem.W.view Rw.prog [131]) loose (importedModules Rw.prog.main.body) (fun s => xlAt (PySem.W.view Rw.prog [131]) [] s && recOk Rw.toRowW.records s) s.abs) = some (openGood (PySem.W.view Rw.prog [131]) loose) := by
  kernel_rfl
open PySem.W HandSHeadRun in
theorem runC (w : World) (os : OsState) : (endF (stepQ (denQ tabQ) Rw.prog w) 8000 Rw.prog w os).map (fun s => ob s) = some (hk.val w) := by
  kernel_rfl
theorem run (w : World) : HandSHeadRun.RunEq Rw (PySem.W.view Rw.prog [131]) hk ob 8000 loose w := fun os => map3 (runA w os) (runB w os) (runC w os)
section
def cube : Ip.D := .tup [.int 1, .int 1, .int 1]
def hom : Ip.D := .tup [.tup [.int 0, .int 1, .int 2], .tup [.int 0, .int 0, .int 0], .tup [.int 0, .int 0, .int 0], .tup [.int 1, .int 1, .int 1]]
def lyi : Ip.D := .tup [.int 0, .int 1, .int 2]
def goal0 : Ip.D := .tup [.tup [.int 0, .int 1, .int 2], .tup [.int 2000, .int 0, .int 2000], .tup [.int 0, .int 0, .int 0], .tup [.int 1, .int 1, .int 1]]
def forOf : Ss → Option (Ip.T × It × Ss × Ss)
  | .cons (.for t it b) r => some (t, it, b, r)
  | .cons _ r => forOf r
  | .frz _ r => forOf r
  | .frzL _ r => forOf r
  | .nil => none
def b68 : Ss := Ss.cons (S.for (T.tup (Ts.cons (T.name 9) (Ts.cons (T.name 10) (Ts.nil)))) (It.of (E.tup (Es.cons (E.tup (Es.cons (E.var 6) (Es.cons (E.bin false .mod (E.bin false .add (E.var 6) (E.int 1)) (E.int 6)) (Es.nil)))) (Es.cons (E.tup (Es.cons (E.bin false .mod (E.bin false .add (E.var 6) (E.int 5)) (E.int 6)) (Es.cons (E.bin false .mod (E.bin false .add (E.var 6) (E.int 5)) (E.int 6)) (Es.nil)))) (Es.nil))))) (Ss.cons (S.asg (T.name 11) (E.comp false (E.ifx (E.cmp .eq (E.var 13) (E.var 9)) (E.bin false .sub (E.ix (E.var 4) (E.var 13)) (E.int 1)) (E.ix (E.var 4) (E.var 13))) (T.name 13) [13] (It.rng (Es.cons (E.int 6) (Es.nil))) (Es.nil))) (Ss.cons (S.ite (E.or (Es.cons (E.cmp .gt (E.ix (E.var 11) (E.var 9)) (E.int 0)) (Es.cons (E.and (Es.cons (E.cmp .eq (E.ix (E.var 11) (E.var 9)) (E.int 0)) (Es.cons (E.call 66 (Es.cons (E.var 11) (Es.cons (E.var 10) (Es.cons (E.var 7) (Es.nil))))) (Es.nil)))) (Es.nil)))) (Ss.cons (S.asg (T.name 12) (E.or (Es.cons (E.cmp .gt (E.ix (E.var 3) (E.var 9)) (E.int 0)) (Es.cons (E.and (Es.cons (E.cmp .eq (E.ix (E.var 3) (E.var 9)) (E.int 0)) (Es.cons (E.cmp .eq (E.ix (E.var 4) (E.var 9)) (E.int 2)) (Es.nil)))) (Es.nil))))) (Ss.cons (S.expr (E.mt false .append (E.var 5) (Es.cons (E.tup (Es.cons (E.str (sx [116, 105, 112])) (Es.cons (E.call 67 (Es.cons (E.var 9) (Es.cons (E.var 12) (Es.nil)))) (Es.nil)))) (Es.nil)))) (Ss.cons (S.par (Ts.cons (T.name 4) (Ts.cons (T.name 6) (Ts.nil))) (Es.cons (E.var 11) (Es.cons (E.var 10) (Es.nil)))) (Ss.cons (S.brk) (Ss.nil))))) (Ss.nil)) (Ss.nil)))) (Ss.nil)
section
variable {P : List Fn} {glo : List Ip.D} {eb : Nat → Ty → Bool} {W : Nat}
def six (i : Int) : List Ip.D := [.int i, .int 0, .int 0, .int 0, .int 0, .int 0]
def tip0 : Ip.D := .tup [.str (sx [116, 105, 112]), .int 0]
def E68 (m h : Int) (s0 s1 s2 x8 x9 x10 x11 x12 x13 : Option Ip.D) : Env := [s0, s1, s2, some (.tup (six 2000)), some (.lst (six m)), some (.loc 0), some (.int h), some (.int 0), x8, x9, x10, x11, x12, x13]
theorem rng6 : rngItems [.int 6] = some [.int 0, .int 1, .int 2, .int 3, .int 4, .int 5] := rfl
theorem wo_ok (h67 : P[67]? = some f67) (n : Nat) (η : Hs) : callN P glo eb W (n + 1) 67 [.int 0, .bl true] η = .ok (.int 0) η := by
  rw [callN_succ h67 rfl]
  simp [f67, start, evSs, evS, evE, evEs, R.bind, tru, binop, oki_eq', Pr.r, eqI_eq, callEnd, fin, beqN]
theorem turnA (h67 : P[67]? = some f67) (n : Nat) (m : Nat) (hm : 0 < m) (ys : List Ip.D) (hy : ys.length < 5000) (d : Ip.D) (s0 s1 s2 x8 x9 x10 x11 x12 x13 : Option Ip.D) :
    (asT ⟨callN P glo eb W (n + 1), glo, eb, W⟩ (.name 8) d (E68 (m + 1 : Nat) 0 s0 s1 s2 x8 x9 x10 x11 x12 x13) [.lst ys]).bind (fun env η => evSs ⟨callN P glo eb W (n + 1), glo, eb, W⟩ b68 env η) =
      .ok (.nx (E68 m 1 s0 s1 s2 (some d) (some (.int 0)) (some (.int 1)) (some (.lst (six m))) (some (.bl true)) x13)) [.lst (ys ++ [tip0])] := by
  have wo := wo_ok (glo := glo) (eb := eb) (W := W) h67 n
  have hz : Nat.blt ys.length 16777216 = true := by rw [bltN, decide_eq_true_eq]; omega
  have l0 : ltI 0 (m : Int) = true := by rw [ltI_eq, decide_eq_true_eq]; omega
  have e6 : eqI 6 0 = false := rfl
  have e60 : eqI (-1) 0 = false := rfl
  have sub1 : ((m + 1 : Nat) : Int) - 1 = m := by omega
  have l1 : ltI 0 (-1) = false := rfl
  have l2 : ltI 0 2000 = true := rfl
  have l3 : ltI 0 0 = false := rfl
  simp [E68, six, b68, tip0, asT, asTs, evSs, evS, evE, evEs, evOr, evAnd, evIt, evIfs, Ts.len, R.bind, R.calm, rng6, walk, guardOf, floop, cloop, chk, Ip.wipe, binop, oki_eq', Pr.r, e6, e60, sub1, cmpop, lessD, l0, l1, l2, l3, eqI_eq, getIx, dctAt, seqAt, lstAt, atI, tru, wo, noneLoc, Ip.D.noLoc, sizeMax, mkL, mt, recv, hz, setAll, beqN, bltN, hy]
theorem turnB (h67 : P[67]? = some f67) (n : Nat) (m : Nat) (hm : 0 < m) (ys : List Ip.D) (hy : ys.length < 5000) (d : Ip.D) (s0 s1 s2 x8 x9 x10 x11 x12 x13 : Option Ip.D) :
    (asT ⟨callN P glo eb W (n + 1), glo, eb, W⟩ (.name 8) d (E68 (m + 1 : Nat) 1 s0 s1 s2 x8 x9 x10 x11 x12 x13) [.lst ys]).bind (fun env η => evSs ⟨callN P glo eb W (n + 1), glo, eb, W⟩ b68 env η) =
      .ok (.nx (E68 m 0 s0 s1 s2 (some d) (some (.int 0)) (some (.int 0)) (some (.lst (six m))) (some (.bl true)) x13)) [.lst (ys ++ [tip0])] := by
  have wo := wo_ok (glo := glo) (eb := eb) (W := W) h67 n
  have hz : Nat.blt ys.length 16777216 = true := by rw [bltN, decide_eq_true_eq]; omega
  have l0 : ltI 0 (m : Int) = true := by rw [ltI_eq, decide_eq_true_eq]; omega
  have e6 : eqI 6 0 = false := rfl
  have e60 : eqI (-1) 0 = false := rfl
  have sub1 : ((m + 1 : Nat) : Int) - 1 = m := by omega
  have l1 : ltI 0 (-1) = false := rfl
  have l2 : ltI 0 2000 = true := rfl
  have l3 : ltI 0 0 = false := rfl
  simp [E68, six, b68, tip0, asT, asTs, evSs, evS, evE, evEs, evOr, evAnd, evIt, evIfs, Ts.len, R.bind, R.calm, rng6, walk, guardOf, floop, cloop, chk, Ip.wipe, binop, oki_eq', Pr.r, e6, e60, sub1, cmpop, lessD, l0, l1, l2, l3, eqI_eq, getIx, dctAt, seqAt, lstAt, atI, tru, wo, noneLoc, Ip.D.noLoc, sizeMax, mkL, mt, recv, hz, setAll, beqN, bltN, hy]
theorem runs_turn {asg : Ip.D → Env → Hs → R Env} {b : Env → Hs → R F} {x : Ip.D} {xs : List Ip.D} {env env1 : Env} {η η1 : Hs} (h : (asg x env η).bind (fun env η => b env η) = .ok (.nx env1) η1) : runs asg b (x :: xs) env η = runs asg b xs env1 η1 := by
  rw [runs]
  cases e : asg x env η with
  | ok env2 η2 =>
    rw [e] at h
    simp only [R.bind] at h ⊢
    rw [h]
  | ex _ _ => rw [e] at h; cases h
  | bad => rw [e] at h; cases h
theorem loop68 (h67 : P[67]? = some f67) (n : Nat) : ∀ (j m : Nat) (hm : 0 < m) (xs ys : List Ip.D) (s0 s1 s2 x8 x9 x10 x11 x12 x13 : Option Ip.D), xs.length = 2 * j → ys.length + 2 * j < 5000 →
    ∃ y8 y9 y10 y11 y12, runs (fun d env η => asT ⟨callN P glo eb W (n + 1), glo, eb, W⟩ (.name 8) d env η) (fun env η => evSs ⟨callN P glo eb W (n + 1), glo, eb, W⟩ b68 env η) xs (E68 (m + 2 * j : Nat) 0 s0 s1 s2 x8 x9 x10 x11 x12 x13) [.lst ys] =
      .ok (E68 m 0 s0 s1 s2 y8 y9 y10 y11 y12 x13) [.lst (ys ++ List.replicate (2 * j) tip0)]
  | 0, m, hm, xs, ys, s0, s1, s2, x8, x9, x10, x11, x12, x13, hx, hy => by
    have : xs = [] := List.eq_nil_of_length_eq_zero hx
    subst this
    exact ⟨x8, x9, x10, x11, x12, by simp [runs]⟩
  | j + 1, m, hm, [], ys, s0, s1, s2, x8, x9, x10, x11, x12, x13, hx, hy => by simp at hx
  | j + 1, m, hm, [a], ys, s0, s1, s2, x8, x9, x10, x11, x12, x13, hx, hy => by simp at hx; omega
  | j + 1, m, hm, a :: b :: xs, ys, s0, s1, s2, x8, x9, x10, x11, x12, x13, hx, hy => by
    simp only [List.length_cons] at hx
    rw [show m + 2 * (j + 1) = (m + 2 * j + 1) + 1 by omega, runs_turn (turnA h67 n (m + 2 * j + 1) (by omega) ys (by omega) a s0 s1 s2 x8 x9 x10 x11 x12 x13),
      runs_turn (turnB h67 n (m + 2 * j) (by omega) (ys ++ [tip0]) (by rw [List.length_append, List.length_singleton]; omega) b s0 s1 s2 _ _ _ _ _ x13)]
    obtain ⟨y8, y9, y10, y11, y12, h⟩ := loop68 h67 n j m hm xs ((ys ++ [tip0]) ++ [tip0]) s0 s1 s2 _ _ _ _ _ x13 (by omega) (by simp only [List.length_append, List.length_singleton]; omega)
    refine ⟨y8, y9, y10, y11, y12, h.trans ?_⟩
    rw [show 2 * (j + 1) = 2 * j + 1 + 1 by omega, List.replicate_succ, List.replicate_succ]
    simp
end
def ent1 : Ent := ⟨81, 20, [cube, hom, lyi, .tup [.int 4000, .int 0]], .tup [.int 2000, .tup (six 2000)]⟩
def ent2 : Ent := ⟨81, 20, [cube, hom, lyi, .tup [.int 4004, .int 0]], .tup [.int 2002, .tup (six 2002)]⟩
def ent3 : Ent := ⟨81, 20, [.tup [.int 2, .int 3, .int 5], hom, .tup [.int 2, .int 1, .int 0], .tup [.int 7, .int 0]], .tup [.int 1, .tup (six 1)]⟩
def ent4 : Ent := ⟨68, 20, [hom, goal0, .lst (six 2000)], .tup (List.replicate 2000 tip0)⟩
theorem en1 : GoodE T.P T.glo T.eb 100000 ent1 := ⟨by kernel_rfl, by kernel_rfl, by kernel_rfl⟩
theorem en2 : GoodE T.P T.glo T.eb 100000 ent2 := ⟨by kernel_rfl, by kernel_rfl, by kernel_rfl⟩
def ent5 : Ent := ⟨26, 17, [.tup [.tup [.int 7, .bl true, .bl true], .tup [.int 8, .bl false, .bl true], .tup [.int 5, .bl false, .bl true]], .int 7], .tup [.int 5, .tup [.int 1, .int 0, .int 0]]⟩
def ent6 : Ent := ⟨26, 17, [.tup [.tup [.int 5, .bl false, .bl true], .tup [.int 7, .bl false, .bl true], .tup [.int 8, .bl false, .bl true]], .int 0], .tup [.int 6, .tup [.int 0, .int 0, .int 0]]⟩
def ent7 : Ent := ⟨26, 17, [.tup [.tup [.int 7, .bl false, .bl true], .tup [.int 8, .bl true, .bl true], .tup [.int 5, .bl true, .bl true]], .int 7], .tup [.int 6, .tup [.int 0, .int (-1), .int 3]]⟩
def ent8 : Ent := ⟨26, 17, [.tup [.tup [.int 5, .bl true, .bl true], .tup [.int 7, .bl true, .bl true], .tup [.int 8, .bl true, .bl true]], .int 0], .tup [.int 5, .tup [.int (-3), .int 1, .int 1]]⟩
theorem en5 : GoodE T.P T.glo T.eb 100000 ent5 := ⟨by kernel_rfl, by kernel_rfl, by kernel_rfl⟩
theorem en6 : GoodE T.P T.glo T.eb 100000 ent6 := ⟨by kernel_rfl, by kernel_rfl, by kernel_rfl⟩
theorem en7 : GoodE T.P T.glo T.eb 100000 ent7 := ⟨by kernel_rfl, by kernel_rfl, by kernel_rfl⟩
theorem en8 : GoodE T.P T.glo T.eb 100000 ent8 := ⟨by kernel_rfl, by kernel_rfl, by kernel_rfl⟩
def tbl3 : List Ent := [ent5, ent6, ent7, ent8]
theorem frG : freeG T.glo = true := by kernel_rfl
theorem tblok3 : ∀ e ∈ tbl3, GoodE T.P T.glo T.eb 100000 e := good_cons en5 (good_cons en6 (good_cons en7 (good_cons en8 good_nil)))
theorem run3 : callO (lookE tbl3) T.P T.glo T.eb 100000 ent3.n ent3.g ent3.xs [] = .ok ent3.d [] := by kernel_rfl
theorem en3 : GoodE T.P T.glo T.eb 100000 ent3 := ⟨tab_call (tb := tbl3) frG tblok3 run3, by kernel_rfl, by kernel_rfl⟩
def X68 : Cx := ⟨callN T.P T.glo T.eb 100000 19, T.glo, T.eb, 100000⟩
def r68 : Ss := match forOf f68.body with
  | some p => p.2.2.2
  | none => .nil
def h68 : Ss := match f68.body with
  | .cons a (.cons b _) => .cons a (.cons b .nil)
  | _ => .nil
def i68 : It := match forOf f68.body with
  | some p => p.2.1
  | none => .rng .nil
theorem e68 : f68.body = h68.app (.cons (.for (.name 8) i68 b68) r68) := by kernel_rfl
def sl : Option Ip.D × Option Ip.D × Option Ip.D := (some hom, some goal0, some (.lst (six 2000)))
theorem q0 : evSs X68 h68 (start f68 [hom, goal0, .lst (six 2000)]) [] = .ok (.nx (E68 2000 0 (some hom) (some goal0) (some (.lst (six 2000))) none none none none none none)) [.lst []] := by kernel_rfl
abbrev a68 : Ip.D → Env → Hs → R Env := fun d env η => asT X68 (.name 8) d env η
abbrev c68 : Env → Hs → R F := fun env η => evSs X68 b68 env η
theorem rn : rngL 2000 0 1 = rngL 1998 0 1 ++ [.int 1998, .int 1999] := by kernel_rfl
theorem rl : (rngL 1998 0 1).length = 2 * 999 := by kernel_rfl
theorem it68 : evIt X68 i68 (E68 2000 0 (some hom) (some goal0) (some (.lst (six 2000))) none none none none none none) [.lst []] = .ok (rngL 2000 0 1, []) [.lst []] := by kernel_rfl
theorem l68 (y8 y9 y10 y11 y12 : Option Ip.D) : floop [] a68 c68 [.int 1998, .int 1999] (E68 2 0 (some hom) (some goal0) (some (.lst (six 2000))) y8 y9 y10 y11 y12 none) [.lst (List.replicate 1998 tip0)] = .ok (.nx (E68 0 0 (some hom) (some goal0) (some (.lst (six 2000))) (some (.int 1999)) (some (.int 0)) (some (.int 0)) (some (.lst (six 0))) (some (.bl true)) none)) [.lst (List.replicate 2000 tip0)] := by kernel_rfl
theorem q1 : evS X68 (.for (.name 8) i68 b68) (E68 2000 0 (some hom) (some goal0) (some (.lst (six 2000))) none none none none none none) [.lst []] = .ok (.nx (E68 0 0 (some hom) (some goal0) (some (.lst (six 2000))) (some (.int 1999)) (some (.int 0)) (some (.int 0)) (some (.lst (six 0))) (some (.bl true)) none)) [.lst (List.replicate 2000 tip0)] := by
  refine (for_run it68).trans ?_
  obtain ⟨y8, y9, y10, y11, y12, h⟩ := loop68 (P := T.P) (glo := T.glo) (eb := T.eb) (W := 100000) (by rfl) 18 999 2 (by decide) (rngL 1998 0 1) [] (some hom) (some goal0) (some (.lst (six 2000))) none none none none none none rl (by decide)
  have e1 : ((2 + 2 * 999 : Nat) : Int) = 2000 := by decide
  have e2 : ([] : List Ip.D) ++ List.replicate (2 * 999) tip0 = List.replicate 1998 tip0 := by rw [List.nil_append]
  have e3 : ((2 : Nat) : Int) = 2 := by decide
  rw [e1, e2, e3] at h
  rw [rn]
  exact (runs_ok h).trans (l68 y8 y9 y10 y11 y12)
theorem q2 : evSs X68 r68 (E68 0 0 (some hom) (some goal0) (some (.lst (six 2000))) (some (.int 1999)) (some (.int 0)) (some (.int 0)) (some (.lst (six 0))) (some (.bl true)) none) [.lst (List.replicate 2000 tip0)] = .ok (.rt (.tup (List.replicate 2000 tip0))) [.lst (List.replicate 2000 tip0)] := by kernel_rfl
theorem en4 : GoodE T.P T.glo T.eb 100000 ent4 := by
  refine ⟨?_, by kernel_rfl, by kernel_rfl⟩
  show callN T.P T.glo T.eb 100000 (19 + 1) 68 [hom, goal0, .lst (six 2000)] [] = _
  rw [callN_succ (f := f68) (by rfl) (by rfl), e68]
  show callEnd f68.rc [] (evSs X68 _ _ _) = _
  rw [app_nx q0, step_nx q1, q2]
  kernel_rfl
def tbl : List Ent := [ent1, ent2, ent3, ent4]
theorem tblok : ∀ e ∈ tbl, GoodE T.P T.glo T.eb 100000 e := good_cons en1 (good_cons en2 (good_cons en3 (good_cons en4 good_nil)))
def cat (xs : List (List Ip.D)) : List Ip.D := xs.flatten
def un : Ip.D := .lst [.str (sx [117, 110, 102, 105, 116]), .bl true]
def en104_0 : Env := [some (.tup [.tup [.int (3), .bl false, .bl false], .tup [.int (5), .bl true, .bl false]]), some (.tup [.tup [.int (5), .bl true, .bl false], .tup [.int (7), .bl false, .bl true], .tup [.int (8), .bl false, .bl true]]), some (.tup [.tup [.int (4), .bl false, .bl true], .tup [.int (6), .bl false, .bl true]]), some (.tup [.int (2), .int (3), .int (5)]), some (.tup [.int (2), .int (4), .int (6)]), some (.tup [.int (0), .int (1), .int (2)]), some (un), some (.tup [.tup [.int (0), .int (1), .int (2)], .tup [.int (0), .int (0), .int (0)], .tup [.int (0), .int (0), .int (0)], .tup [.int (1), .int (1), .int (1)]]), some (.loc 5), some (.loc 6), some (.lst [.non, .tup [.tup [.int (3), .bl false, .bl false], .tup [.int (3), .bl false, .bl false], .tup [.int (3), .bl false, .bl false], .tup [.int (3), .bl false, .bl false]], .tup [.tup [.int (0), .bl true, .bl true]], .tup [.tup [.int (3), .int (1), .int (0)]], .tup [.tup [.int (3), .bl true]], .int (3), .str (sx [97, 98])]), some (.tup []), some (.lst [.non, .tup [.tup [.int (0), .int (1), .int (2)], .tup [.int (0), .int (0), .int (0)], .tup [.int (0), .int (0), .int (0)]], .tup [.tup [.int (0), .int (1), .int (2)], .tup [.int (0), .int (0), .int (0)], .tup [.int (0), .int (0), .int (0)], .tup [.int (1), .int (1), .int (0)]], .tup [.tup [.int (0), .int (1), .int (2)], .tup [.int (0), .int (0)], .tup [.int (0), .int (0), .int (0)], .tup [.int (1), .int (1), .int (1)]], .tup [.tup [.int (0), .int (1), .int (1)], .tup [.int (0), .int (0), .int (0)], .tup [.int (0), .int (0), .int (0)], .tup [.int (1), .int (1), .int (1)]], .int (7), .tup [.tup [.int (0), .int (1), .int (2)], .tup [.int (0), .int (0), .int (0)], .tup [.int (0), .int (0), .int (0)], .tup [.int (1), .int (1), .int (1)], .tup []], .tup [.tup [.int (0), .int (1), .int (2)], .tup [.int (0), .int (0), .bl true], .tup [.int (0), .int (0), .int (0)], .tup [.int (1), .int (1), .int (1)]]]), none, none, none]
def hs104_0 : Hs := [.lst (cat [List.replicate 9 (.lst (List.replicate 8 un)), (cat [List.replicate 5 (.lst (List.replicate 7 un)), [.lst (List.replicate 8 un)]])]), .lst (cat [List.replicate 9 (.lst (List.replicate 8 un)), (cat [List.replicate 5 (.lst (List.replicate 7 un)), [.lst (List.replicate 8 un)]])]), .lst (cat [List.replicate 9 (.lst (List.replicate 8 un)), (cat [List.replicate 5 (.lst (List.replicate 7 un)), (cat [List.replicate 9 (.lst (List.replicate 8 un))])])]), .lst (cat [List.replicate 9 (.lst (List.replicate 8 un)), (cat [List.replicate 5 (.lst (List.replicate 7 un)), (cat [List.replicate 11 (.lst (List.replicate 8 un))])])]), .lst (cat [List.replicate 9 (.lst (List.replicate 8 un)), (cat [List.replicate 5 (.lst (List.replicate 7 un)), (cat [List.replicate 11 (.lst (List.replicate 8 un))])])]), .lst (cat [List.replicate 9 (.lst (List.replicate 8 un)), (cat [List.replicate 5 (.lst (List.replicate 7 un)), (cat [List.replicate 20 (.lst (List.replicate 8 un))])])]), .lst (cat [List.replicate 9 (.lst (List.replicate 8 un)), (cat [List.replicate 5 (.lst (List.replicate 7 un)), (cat [List.replicate 20 (.lst (List.replicate 8 un))])])])]
theorem p104_0 : evSs ⟨callO (lookE tbl) T.P T.glo T.eb 100000 78, T.glo, T.eb, 100000⟩ (Ss.tk 14 f104.body) (start f104 []) [] = .ok (.nx en104_0) hs104_0 := by kernel_rfl
def en104_1 : Env := [some (.tup [.tup [.int (3), .bl false, .bl false], .tup [.int (5), .bl true, .bl false]]), some (.tup [.tup [.int (5), .bl true, .bl false], .tup [.int (7), .bl false, .bl true], .tup [.int (8), .bl false, .bl true]]), some (.tup [.tup [.int (4), .bl false, .bl true], .tup [.int (6), .bl false, .bl true]]), some (.tup [.int (2), .int (3), .int (5)]), some (.tup [.int (2), .int (4), .int (6)]), some (.tup [.int (0), .int (1), .int (2)]), some (un), some (.tup [.tup [.int (0), .int (1), .int (2)], .tup [.int (0), .int (0), .int (0)], .tup [.int (0), .int (0), .int (0)], .tup [.int (1), .int (1), .int (1)]]), some (.loc 7), some (.loc 8), some (.lst [.non, .tup [.tup [.int (3), .bl false, .bl false], .tup [.int (3), .bl false, .bl false], .tup [.int (3), .bl false, .bl false], .tup [.int (3), .bl false, .bl false]], .tup [.tup [.int (0), .bl true, .bl true]], .tup [.tup [.int (3), .int (1), .int (0)]], .tup [.tup [.int (3), .bl true]], .int (3), .str (sx [97, 98])]), some (.tup []), some (.lst [.non, .tup [.int (0)], .tup [.int (0), .int (0), .int (0)], .tup [.int (0), .bl true], .tup [.int (0), .non], .str (sx [48, 48]), .int (0), .tup [.tup [.int (0), .int (0)]]]), none, none, none]
def hs104_1 : Hs := [.lst (cat [List.replicate 9 (.lst (List.replicate 8 un)), (cat [List.replicate 5 (.lst (List.replicate 7 un)), [.lst (List.replicate 8 un)]])]), .lst (cat [List.replicate 9 (.lst (List.replicate 8 un)), (cat [List.replicate 5 (.lst (List.replicate 7 un)), [.lst (List.replicate 8 un)]])]), .lst (cat [List.replicate 9 (.lst (List.replicate 8 un)), (cat [List.replicate 5 (.lst (List.replicate 7 un)), (cat [List.replicate 9 (.lst (List.replicate 8 un))])])]), .lst (cat [List.replicate 9 (.lst (List.replicate 8 un)), (cat [List.replicate 5 (.lst (List.replicate 7 un)), (cat [List.replicate 11 (.lst (List.replicate 8 un))])])]), .lst (cat [List.replicate 9 (.lst (List.replicate 8 un)), (cat [List.replicate 5 (.lst (List.replicate 7 un)), (cat [List.replicate 11 (.lst (List.replicate 8 un))])])]), .lst (cat [List.replicate 9 (.lst (List.replicate 8 un)), (cat [List.replicate 5 (.lst (List.replicate 7 un)), (cat [List.replicate 20 (.lst (List.replicate 8 un))])])]), .lst (cat [List.replicate 9 (.lst (List.replicate 8 un)), (cat [List.replicate 5 (.lst (List.replicate 7 un)), (cat [List.replicate 20 (.lst (List.replicate 8 un))])])]), .lst (cat [List.replicate 9 (.lst (List.replicate 8 un)), (cat [List.replicate 5 (.lst (List.replicate 7 un)), (cat [List.replicate 28 (.lst (List.replicate 8 un))])])]), .lst (cat [List.replicate 9 (.lst (List.replicate 8 un)), (cat [List.replicate 5 (.lst (List.replicate 7 un)), (cat [List.replicate 28 (.lst (List.replicate 8 un))])])])]
theorem p104_1 : evSs ⟨callO (lookE tbl) T.P T.glo T.eb 100000 78, T.glo, T.eb, 100000⟩ (Ss.tk 4 (Ss.dp 14 f104.body)) en104_0 hs104_0 = .ok (.nx en104_1) hs104_1 := by kernel_rfl
def hs104_z : Hs := [.lst (cat [List.replicate 9 (.lst (List.replicate 8 un)), (cat [List.replicate 5 (.lst (List.replicate 7 un)), [.lst (List.replicate 8 un)]])]), .lst (cat [List.replicate 9 (.lst (List.replicate 8 un)), (cat [List.replicate 5 (.lst (List.replicate 7 un)), [.lst (List.replicate 8 un)]])]), .lst (cat [List.replicate 9 (.lst (List.replicate 8 un)), (cat [List.replicate 5 (.lst (List.replicate 7 un)), (cat [List.replicate 9 (.lst (List.replicate 8 un))])])]), .lst (cat [List.replicate 9 (.lst (List.replicate 8 un)), (cat [List.replicate 5 (.lst (List.replicate 7 un)), (cat [List.replicate 11 (.lst (List.replicate 8 un))])])]), .lst (cat [List.replicate 9 (.lst (List.replicate 8 un)), (cat [List.replicate 5 (.lst (List.replicate 7 un)), (cat [List.replicate 11 (.lst (List.replicate 8 un))])])]), .lst (cat [List.replicate 9 (.lst (List.replicate 8 un)), (cat [List.replicate 5 (.lst (List.replicate 7 un)), (cat [List.replicate 20 (.lst (List.replicate 8 un))])])]), .lst (cat [List.replicate 9 (.lst (List.replicate 8 un)), (cat [List.replicate 5 (.lst (List.replicate 7 un)), (cat [List.replicate 20 (.lst (List.replicate 8 un))])])]), .lst (cat [List.replicate 9 (.lst (List.replicate 8 un)), (cat [List.replicate 5 (.lst (List.replicate 7 un)), (cat [List.replicate 28 (.lst (List.replicate 8 un))])])]), .lst (cat [List.replicate 9 (.lst (List.replicate 8 un)), (cat [List.replicate 5 (.lst (List.replicate 7 un)), (cat [List.replicate 28 (.lst (List.replicate 8 un))])])]), .dead, .lst (cat [List.replicate 9 (.lst (List.replicate 8 un)), (cat [List.replicate 5 (.lst (List.replicate 7 un)), (cat [List.replicate 37 (.lst (List.replicate 8 un)), [.lst (List.replicate 11 un), .lst [.lst [.str (sx [99, 97, 110, 32, 110, 111, 116]), .bl true], .lst [.str (sx [99, 97, 110, 32, 110, 111, 116]), .bl true], .lst [.str (sx [99, 97, 110, 32, 110, 111, 116]), .bl true], .lst [.str (sx [99, 97, 110, 32, 110, 111, 116]), .bl true], .lst [.str (sx [99, 97, 110, 32, 110, 111, 116]), .bl true], .lst [.str (sx [99, 97, 110, 32, 110, 111, 116]), .bl true], .lst [.str (sx [99, 97, 110, 32, 110, 111, 116]), .bl true]]]])])]), .dead, .dct [], .lst [], .lst [.tup [.int (8), .bl false, .bl false], .tup [.int (10), .bl false, .bl false], .tup [.int (6), .bl false, .bl false]], .lst [.tup [.int (6), .bl false, .bl false], .tup [.int (8), .bl false, .bl false], .tup [.int (10), .bl false, .bl false]], .lst [.tup [.int (8), .bl true, .bl false], .tup [.int (10), .bl true, .bl false], .tup [.int (6), .bl true, .bl false]], .lst [.tup [.int (6), .bl true, .bl false], .tup [.int (8), .bl true, .bl false], .tup [.int (10), .bl true, .bl false]], .lst [], .lst [.tup [.int (7), .bl false, .bl false], .tup [.int (8), .bl false, .bl false], .tup [.int (5), .bl false, .bl false]], .lst [.tup [.int (7), .bl true, .bl false], .tup [.int (8), .bl true, .bl false], .tup [.int (5), .bl true, .bl false]]]
theorem p104_z : evSs ⟨callO (lookE tbl) T.P T.glo T.eb 100000 78, T.glo, T.eb, 100000⟩ (Ss.dp 4 (Ss.dp 14 f104.body)) en104_1 hs104_1 = .ok (.rt (.bl true)) hs104_z := by kernel_rfl
theorem eva : callN T.P T.glo T.eb 100000 79 104 [] [] = .ok (.bl true) [] := by
  refine tab_call (tb := tbl) frG tblok ?_
  show callO (lookE tbl) T.P T.glo T.eb 100000 (78 + 1) 104 [] [] = _
  rw [callO_by (f := f104) rfl rfl rfl, show evSs ⟨callO (lookE tbl) T.P T.glo T.eb 100000 78, T.glo, T.eb, 100000⟩ f104.body (start f104 []) [] = .ok (.rt (.bl true)) hs104_z from (cut_at 14 p104_0).trans ((cut_at 4 p104_1).trans (p104_z))]
  rfl
end

theorem evo : callN T.P T.glo T.eb 100000 79 103 [] [] = .ok (.bl true) [] := by kernel_rfl
theorem evb : callN T.P T.glo T.eb 100000 79 105 [] [] = .ok (.bl true) [] := tab_call (tb := tbl) frG tblok (by kernel_rfl)
theorem ev0 : ∀ is : List Int, is.length ≤ 63 → okB (callN T.P T.glo T.eb 100000 80 106 [.lst (is.map .int)] []) = true := fun is hl => law_draw2 (n := 78) (f := f106) frG rfl rfl rfl rfl rfl (rfl : T.P[94]? = some cellsF) (rfl : T.P[92]? = some (boxF _)) (rfl : T.P[93]? = some takeF) hl (rfl : T.glo[113]? = some (.fn 104)) (rfl : T.glo[114]? = some (.fn 105)) evo eva evb
end Ip.Lw
open PySem PySem.W PySem.Calls PyProof.Rows
theorem PySem.Challenge.cw_movedchest_k42_coins_and_told_by_hand_an_holds : PySem.Challenge.rw_movedchest_k42_coins_and_told_by_hand_an.Holds := by
  w_on; o_law
  refine HandSHeadRun.head_any (r := OpenLaw.row PySem.Challenge.rw_movedchest_k42_coins_and_told_by_hand_an) (q := view (OpenLaw.row PySem.Challenge.rw_movedchest_k42_coins_and_told_by_hand_an).prog [131]) (H := Ip.Lw.hk) (ob := Ip.Lw.ob) (M := 8000) (loose := Ip.Lw.loose) (d := HandSHeadRun.topDef (OpenLaw.row PySem.Challenge.rw_movedchest_k42_coins_and_told_by_hand_an).prog 131) (kwd := []) Ip.Lw.ob_eq
    (by kernel_rfl) (fun s => by kernel_rfl) Ip.Lw.run (by kernel_rfl) (by kernel_rfl) (by kernel_rfl) (by rfl) (by first | assumption | decide +kernel) (by decide +kernel) ⟨rfl, rfl, rfl, rfl, rfl, by decide +kernel⟩ ?hw ?hc
  case hw => w_witness2
  case hc =>
    refine L2.walk_ofE (l := PySem.Challenge.rw_movedchest_k42_coins_and_told_by_hand_an) (n := 63) (k := 2 * 80) (x := "_law_script") (CX := L2.CX0) rfl (by decide) (by kernel_rfl) ⟨rfl, by decide, by decide⟩ ?F (fun _ _ _ _ z => z)
    intro w mg fa h Y G hmg0
    obtain ⟨K, KX, c, kb⟩ := Y
    have hmg : mg ("law" : PySem.Str) = some (.ref fa) := by
      have e : (HandSHeadRun.topDef (OpenLaw.row PySem.Challenge.rw_movedchest_k42_coins_and_told_by_hand_an).prog 131).name = ("law" : PySem.Str) := by kernel_rfl
      rw [← e]
      exact hmg0
    obtain ⟨fd, hb, hF⟩ := Ip.facts_of (prog := (PySem.Challenge.rw_movedchest_k42_coins_and_told_by_hand_an).prog) (w := w) KX G c kb Ip.Lw.st (li := 106) (n := 80) (Wn := 100000) (fl := Ip.Lw.f106) (x := "_law_script") (y := "law") rfl rfl rfl (by decide +kernel) (by decide +kernel) hmg (Ip.law_at (li := 106) kb (by decide +kernel)) (fun is hl => Ip.okB_ok (Ip.Lw.ev0 is hl))
    exact ⟨K, fd, Ip.spLaw K, KX, hb, fun H a ns hl _ hS => ⟨a, ns, rfl, hl, hS, fun _ => rfl⟩, hF⟩
