import PyProof.Rows.All
import Wide.All
import OpenK.AllK
import Wide.FinOn
import HandS.ForMost
import HandS.ForExc
import HandS.TupAny
import HandS.TupMul
import HandS.Deep
import HandS.Style
import HandS.CallSlots
import HandS.SortInts
import HandS.Conv
import HandS.IsInst
import HandS.SetFor
import HandS.Zip
import KE.GoesMore
import HandS.Small
import HandS.WordsExc
import HandS.Defaults
import HandS.Head0
import HandS.Head1
import HandS.Head2
import HandS.HeadEnd
import HandS.HeadHook1
import HandS.HeadHook2
import HandS.HeadHook3
import HandS.HeadHook4
import KE.KStateDown
import Lean
import PySem.Challenge.RW_heatdraws_k10_whole_sets_of_many_runners
section
set_option Elab.async false
set_option linter.all false
set_option maxRecDepth 100000
/-! A1: values, the store of things that change, a small language and what it reckons. -/
namespace HD
open PySem L2

/-- values: what never changes, and the number of a thing that may change -/
inductive D where
  | non | bl (b : Bool) | int (i : Int) | str (s : Str) | tup (l : List D) | lst (l : List D) | dk (l : List (Key × D)) | dt (l : List (List Key × D)) | ref (n : Nat) | scr (l : List Int)

inductive Mob where
  | lst (l : List D) | dk (l : List (Key × D)) | dt (l : List (List Key × D)) | dead

abbrev Mem := List Mob
inductive Res (α : Type) where
  | ok (a : α) (m : Mem) | exc (c : Nat) (m : Mem) | stk
def Res.bind {α β : Type} (r : Res α) (f : α → Mem → Res β) : Res β := match r with
  | .ok a m => f a m
  | .exc c m => .exc c m
  | .stk => .stk
@[simp] theorem Res.bind_ok {α β : Type} (a : α) (m : Mem) (f : α → Mem → Res β) : (Res.ok a m).bind f = f a m := (rfl)
@[simp] theorem Res.bind_exc {α β : Type} (c : Nat) (m : Mem) (f : α → Mem → Res β) : (Res.exc c m : Res α).bind f = .exc c m := (rfl)
@[simp] theorem Res.bind_stk {α β : Type} (f : α → Mem → Res β) : (Res.stk : Res α).bind f = .stk := (rfl)
/-- where nothing may be raised -/
def Res.calm {α : Type} (r : Res α) : Res α := match r with
  | .exc _ _ => .stk
  | r => r
@[simp] theorem Res.calm_ok {α : Type} (a : α) (m : Mem) : (Res.ok a m).calm = .ok a m := (rfl)
@[simp] theorem Res.calm_exc {α : Type} (c : Nat) (m : Mem) : (Res.exc c m : Res α).calm = .stk := (rfl)
@[simp] theorem Res.calm_stk {α : Type} : (Res.stk : Res α).calm = .stk := (rfl)
abbrev Env := List (Option D)

inductive Bop where | add | sub | mul | fdiv | mod | pow
  deriving DecidableEq
inductive Cop where | eq | ne | lt | le | gt | ge | isN | notN | isB | notB | inn | notin
  deriving DecidableEq
inductive ItK where | seq | rng1 | rng2 | rng3 | zip | enum | items | keys
  deriving DecidableEq
inductive Tg where | nm (i : Nat) | tp (is : List Nat)
  deriving DecidableEq
inductive Blt where
  | len | list | tuple | sorted | listRg1 | listRg2 | tupleRg2 | lenset | sortedset | max2 | min2 | maxl | minl | suml | alll | anyl
  | isInt | isBool | isTuple | isTupList | intOf | repr | index | sortedkeys | sumvals | listzip
  deriving DecidableEq

inductive C where
  | var (i : Nat) | int (i : Int) | bl (b : Bool) | non | str (s : Str)
  | tup (es : List C) | lst (es : List C)
  | ownL (es : List C) | ownC (e : C) | newk | newt | newkv (i j : Int)
  | bin (o : Bop) (a b : C) | neg (a : C)
  | cmp (o : Cop) (a b : C) | chain (o p : Cop) (a b c : C)
  | bop (isAnd : Bool) (es : List C) | not1 (a : C) | ifx (t a b : C)
  | ix (a i : C) | sl (a : C) (lo hi : Option C) | rev (a : C)
  | call (f : Nat) (es : List C) | blt (b : Blt) (es : List C)
  | comp (elt : C) (t : Tg) (k : ItK) (args ifs : List C) (own : List Nat)
  | comp2 (elt : C) (t : Tg) (k : ItK) (args ifs : List C) (t2 : Tg) (k2 : ItK) (args2 ifs2 : List C) (own own2 : List Nat)
  | get (d k x : C) | popAt (l i : C)

inductive S where
  | set (i : Nat) (e : C) | par (i j : Nat) (a b : C) | par3 (i j k : Nat) (a b c : C) | unp (is : List Nat) (e : C)
  | put (d i v : C) | app (l e : C) | rem (l e : C) | drop (e : C)
  | ite (t : C) (a b : List S)
  | for (t : Tg) (k : ItK) (args : List C) (body : List S)
  | whl (n : Nat) (t : C) (body : List S)
  | ret (e : C) | raise (c : Nat)
  | frz (i : Nat)

/-! ### what values are -/
def LIM : Nat := 16777216
def seqD (m : Mem) : D → Option (Bool × List D)
  | .tup l => some (true, l)
  | .lst l => some (false, l)
  | .ref n => match m[n]? with | some (.lst l) => some (false, l) | _ => none
  | _ => none
mutual
def toPy : D → Option PyData
  | .non => some .none
  | .bl b => some (.bool b)
  | .int i => some (.int i)
  | .str s => some (.str s)
  | .tup l => match toPyL l with | some r => some (.tuple r) | none => none
  | .lst l => match toPyL l with | some r => some (.list r) | none => none
  | .dk _ => none
  | .dt _ => none
  | .ref _ => none
  | .scr _ => none
def toPyL : List D → Option (List PyData)
  | [] => some []
  | d :: r => match toPy d, toPyL r with | some x, some y => some (x :: y) | _, _ => none
end
/-- as toPy, a changing list read as it stands -/
def viewPy (m : Mem) (d : D) : Option PyData := match d with
  | .ref n => match m[n]? with | some (.lst l) => toPy (.lst l) | _ => none
  | d => toPy d
def keyD : Key → D
  | .inl i => .int i
  | .inr s => .str s
def keyOf : D → Option Key
  | .int i => some (.inl i)
  | .str s => some (.inr s)
  | _ => none
def keysOf : List D → Option (List Key)
  | [] => some []
  | d :: r => match keyOf d, keysOf r with | some k, some ks => some (k :: ks) | _, _ => none
def tkeyOf : D → Option (List Key)
  | .tup l => keysOf l
  | _ => none
def isNon : D → Bool
  | .non => true
  | _ => false
def flatD : D → Bool
  | .non => true
  | .bl _ => true
  | .int _ => true
  | .str _ => true
  | _ => false
def eqF : D → D → Bool
  | .non, .non => true
  | .bl a, .bl b => a == b
  | .bl a, .int b => (if a then 1 else 0) == b
  | .int a, .bl b => a == (if b then 1 else 0)
  | .int a, .int b => a == b
  | .str a, .str b => a == b
  | _, _ => false
def intsOf : List D → Option (List Int)
  | [] => some []
  | .int i :: r => match intsOf r with | some l => some (i :: l) | none => none
  | _ :: _ => none
def blsOf : List D → Option (List Bool)
  | [] => some []
  | .bl b :: r => match blsOf r with | some l => some (b :: l) | none => none
  | _ :: _ => none
section
variable {κ α : Type} [DecidableEq κ]
def lookD (l : List (κ × α)) (k : κ) : Option α := (l.find? fun kv => decide (kv.1 = k)).map (·.2)
def putD (l : List (κ × α)) (k : κ) (v : α) : List (κ × α) := if (lookD l k).isSome then l.map fun kv => if kv.1 = k then (kv.1, v) else kv else l ++ [(k, v)]
end
/-- a look-up: none where it is no dict or no key of it -/
def dlook (m : Mem) (d k : D) : Option (Option D) := match d with
  | .dk l => (keyOf k).map (lookD l)
  | .dt l => (tkeyOf k).map (lookD l)
  | .ref n => match m[n]? with
    | some (.dk l) => (keyOf k).map (lookD l)
    | some (.dt l) => (tkeyOf k).map (lookD l)
    | _ => none
  | _ => none
def cutD (l : List D) (lo hi : Option Int) : List D := (l.drop (HT.sIx l.length 0 lo)).take (HT.sIx l.length l.length hi - HT.sIx l.length 0 lo)

/-! ### operators -/
def mkSeq (b : Bool) (l : List D) : D := if b then .tup l else .lst l
def addSeq (x y : D) (m : Mem) : Res D := match seqD m x, seqD m y with
  | some (b, l), some (c, r) => if b = c ∧ l.length + r.length ≤ LIM then .ok (mkSeq b (l ++ r)) m else .stk
  | _, _ => .stk
def mulSeq (x : D) (k : Int) (m : Mem) : Res D := match seqD m x with
  | some (true, l) => if l ≠ [] ∧ k ≤ 1000 ∧ -(2 ^ 63) ≤ k ∧ l.length ≤ 1000 then .ok (.tup (List.replicate k.toNat l).flatten) m else .stk
  | some (false, l) => if -(2 ^ 63) ≤ k ∧ k < 2 ^ 63 ∧ l.length * k.toNat ≤ LIM then .ok (.lst (List.replicate k.toNat l).flatten) m else .stk
  | none => .stk
def binop (o : Bop) (x y : D) (m : Mem) : Res D := match o with
  | .add => match x, y with
    | .int i, .int j => .ok (.int (i + j)) m
    | x, y => addSeq x y m
  | .sub => match x, y with
    | .int i, .int j => .ok (.int (i - j)) m
    | _, _ => .stk
  | .mul => match x, y with
    | .int i, .int j => if (-(2 ^ 64) < i ∧ i < 2 ^ 64) ∨ (-(2 ^ 64) < j ∧ j < 2 ^ 64) then .ok (.int (i * j)) m else .stk
    | x, .int k => mulSeq x k m
    | _, _ => .stk
  | .fdiv => match x, y with
    | .int i, .int j => if 0 < j ∧ j < 1073741824 then .ok (.int (i / j)) m else .stk
    | _, _ => .stk
  | .mod => match x, y with
    | .int i, .int j => if 0 < j then .ok (.int (i % j)) m else .stk
    | _, _ => .stk
  | .pow => match x, y with
    | .int i, .int j => if 0 ≤ j ∧ j ≤ 1000000 ∧ i.natAbs < 2 ^ 64 then .ok (.int (i ^ j.toNat)) m else .stk
    | _, _ => .stk
def eqv (x y : D) (m : Mem) : Option Bool := match viewPy m x, viewPy m y with
  | some p, some q => if SeqAt.shaped p = true ∧ SeqAt.shaped q = true then some (PyData.eqv p q) else none
  | _, _ => none
def memb (x y : D) (m : Mem) : Option Bool := match dlook m y x with
  | some o => some o.isSome
  | none => match seqD m y with
    | some (b, l) => if flatD x = true ∧ l.all flatD = true then some (l.any fun z => eqF z x)
        else match b, viewPy m x, toPyL l with
          | false, some p, some qs => if SeqAt.shaped p = true ∧ SeqAt.shaped (.list qs) = true then some (qs.any fun z => PyData.eqv z p) else none
          | true, some p, some qs => if SeqAt.shaped p = true ∧ SeqAt.shaped (.tuple qs) = true then some (qs.any fun z => PyData.eqv z p) else none
          | _, _, _ => none
    | none => none
def okB (o : Option Bool) (m : Mem) : Res D := match o with
  | some b => .ok (.bl b) m
  | none => .stk
def cmpI (f : Int → Int → Bool) (x y : D) (m : Mem) : Res D := match x, y with
  | .int i, .int j => .ok (.bl (f i j)) m
  | _, _ => .stk
def ltop (x y : D) (m : Mem) : Res D := match x, y with
  | .int i, .int j => .ok (.bl (decide (i < j))) m
  | .tup l, .tup r => match intsOf l, intsOf r with
    | some a, some b => .ok (.bl (HT.lexLt a b)) m
    | _, _ => .stk
  | _, _ => .stk
def blB (f : Bool → Bool → Bool) (x y : D) (m : Mem) : Res D := match x, y with
  | .bl a, .bl b => .ok (.bl (f a b)) m
  | _, _ => .stk
def cmpop (o : Cop) (x y : D) (m : Mem) : Res D := match o with
  | .eq => okB (eqv x y m) m
  | .ne => okB ((eqv x y m).map (!·)) m
  | .lt => ltop x y m
  | .le => cmpI (fun i j => decide (i ≤ j)) x y m
  | .gt => cmpI (fun i j => decide (j < i)) x y m
  | .ge => cmpI (fun i j => decide (j ≤ i)) x y m
  | .isN => if isNon y then .ok (.bl (isNon x)) m else .stk
  | .notN => if isNon y then .ok (.bl (!isNon x)) m else .stk
  | .isB => blB (fun a b => decide (a = b)) x y m
  | .notB => blB (fun a b => !decide (a = b)) x y m
  | .inn => okB (memb x y m) m
  | .notin => okB ((memb x y m).map (!·)) m
def okO (o : Option D) (m : Mem) : Res D := match o with
  | some d => .ok d m
  | none => .stk
def ixop (x i : D) (m : Mem) : Res D := match seqD m x with
  | some (_, l) => match i with
    | .int j => okO (atI l j) m
    | _ => .stk
  | none => match x, i with
    | .scr l, .int j => okO ((atI l j).map .int) m
    | x, i => match dlook m x i with
      | some (some d) => .ok d m
      | _ => .stk
def slop (x : D) (lo hi : Option Int) (m : Mem) : Res D := match seqD m x with
  | some (b, l) => .ok (mkSeq b (cutD l lo hi)) m
  | none => .stk
def revop (x : D) (m : Mem) : Res D := match seqD m x with
  | some (b, l) => .ok (mkSeq b l.reverse) m
  | none => .stk
def getop (d k x : D) (m : Mem) : Res D := match dlook m d k with
  | some o => .ok (o.getD x) m
  | none => .stk
/-- insertion sort: the sorted list is what matters -/
def insI (x : Int) : List Int → List Int
  | [] => [x]
  | y :: r => if x ≤ y then x :: y :: r else y :: insI x r
def sortI : List Int → List Int
  | [] => []
  | x :: r => insI x (sortI r)
def maxI : List Int → Int
  | [] => 0
  | [x] => x
  | x :: r => max x (maxI r)
def minI : List Int → Int
  | [] => 0
  | [x] => x
  | x :: r => min x (minI r)
def rngD (a : Int) (n : Nat) : List D := (List.range n).map fun (i : Nat) => .int (a + i)
def small62 (i : Int) : Bool := decide (-(2 ^ 62) ≤ i) && decide (i < 2 ^ 62)
def f1 (f : D → Mem → Res D) (ds : List D) (m : Mem) : Res D := match ds with
  | [x] => f x m
  | _ => .stk
def f2 (f : D → D → Mem → Res D) (ds : List D) (m : Mem) : Res D := match ds with
  | [x, y] => f x y m
  | _ => .stk
def lenop (x : D) (m : Mem) : Res D := match seqD m x with
  | some (_, l) => .ok (.int l.length) m
  | none => match x with
    | .scr l => .ok (.int l.length) m
    | _ => .stk
def listop (x : D) (m : Mem) : Res D := match seqD m x with
  | some (_, l) => .ok (.lst l) m
  | none => .stk
def tupleop (x : D) (m : Mem) : Res D := match seqD m x with
  | some (_, l) => .ok (.tup l) m
  | none => .stk
/-- the ints of a list (false) or a tuple (true) -/
def intsAt (b : Bool) (m : Mem) (x : D) : Option (List Int) := match seqD m x with
  | some (c, l) => if b = c then intsOf l else none
  | none => none
def blsAt (m : Mem) (x : D) : Option (List Bool) := match seqD m x with
  | some (c, l) => if c = false then blsOf l else none
  | none => none
def keyInts {α : Type} : List (Key × α) → Option (List Int)
  | [] => some []
  | (.inl i, _) :: r => (keyInts r).map (i :: ·)
  | (.inr _, _) :: _ => none
def sortedop (x : D) (m : Mem) : Res D := match intsAt false m x with
  | some is => .ok (.lst ((sortI is).map .int)) m
  | none => match intsAt true m x with
    | some is => .ok (.lst ((sortI is).map .int)) m
    | none => match x with
      | .dk l => match keyInts l with
        | some is => if is.length < 64 then .ok (.lst ((sortI is).map .int)) m else .stk
        | none => .stk
      | _ => .stk
def rg1op (mk : List D → D) (x : D) (m : Mem) : Res D := match x with
  | .int j => if j ≤ 16777216 ∧ -(2 ^ 62) ≤ j then .ok (mk (rngD 0 j.toNat)) m else .stk
  | _ => .stk
def rg2op (mk : List D → D) (x y : D) (m : Mem) : Res D := match x, y with
  | .int i, .int j => if small62 i && small62 j && decide (j - i ≤ 16777216) then .ok (mk (rngD i (j - i).toNat)) m else .stk
  | _, _ => .stk
def max2op (x y : D) (m : Mem) : Res D := match x, y with
  | .int i, .int j => .ok (.int (if j > i then j else i)) m
  | _, _ => .stk
def min2op (x y : D) (m : Mem) : Res D := match x, y with
  | .int i, .int j => .ok (.int (if j < i then j else i)) m
  | _, _ => .stk
def intsop (f : List Int → Option Int) (x : D) (m : Mem) : Res D := match intsAt false m x with
  | some is => match f is with
    | some i => .ok (.int i) m
    | none => .stk
  | none => .stk
def blsop (f : List Bool → Bool) (x : D) (m : Mem) : Res D := match blsAt m x with
  | some bs => .ok (.bl (f bs)) m
  | none => .stk
def known : D → Bool
  | .dk _ => false
  | .dt _ => false
  | .ref _ => false
  | .scr _ => false
  | _ => true
def isIntD : D → Bool
  | .int _ => true
  | .bl _ => true
  | _ => false
def isBlD : D → Bool
  | .bl _ => true
  | _ => false
def isTupD : D → Bool
  | .tup _ => true
  | _ => false
def isop (f : D → Bool) (x : D) (m : Mem) : Res D := if known x then .ok (.bl (f x)) m else .stk
def intop (x : D) (m : Mem) : Res D := match x with
  | .int i => .ok (.int i) m
  | .bl k => .ok (.int (if k then 1 else 0)) m
  | _ => .stk
/-- len(set(..)) of ints that differ -/
def lensetop (x : D) (m : Mem) : Res D := match intsAt false m x with
  | some is => if is.Nodup ∧ is.length ≤ 4000 then .ok (.int is.length) m else .stk
  | none => .stk
def bltop (b : Blt) (ds : List D) (m : Mem) : Res D := match b with
  | .lenset => f1 lensetop ds m
  | .len => f1 lenop ds m
  | .list => f1 listop ds m
  | .tuple => f1 tupleop ds m
  | .sorted => f1 sortedop ds m
  | .listRg1 => f1 (rg1op .lst) ds m
  | .listRg2 => f2 (rg2op .lst) ds m
  | .tupleRg2 => f2 (rg2op .tup) ds m
  | .max2 => f2 max2op ds m
  | .min2 => f2 min2op ds m
  | .maxl => f1 (intsop fun is => if 0 < is.length then some (maxI is) else none) ds m
  | .minl => f1 (intsop fun is => if 0 < is.length then some (minI is) else none) ds m
  | .suml => f1 (intsop fun is => some is.sum) ds m
  | .alll => f1 (blsop fun bs => bs.all id) ds m
  | .anyl => f1 (blsop fun bs => bs.any id) ds m
  | .isInt => f1 (isop isIntD) ds m
  | .isBool => f1 (isop isBlD) ds m
  | .isTuple => f1 (isop isTupD) ds m
  | .intOf => f1 intop ds m
  | _ => .stk

/-! ### targets, what is walked -/
def setAll : List Nat → List D → Env → Option Env
  | [], [], ρ => some ρ
  | i :: is, d :: ds, ρ => setAll is ds (ρ.set i (some d))
  | _, _, _ => none
def bindTg (t : Tg) (d : D) (ρ : Env) : Option Env := match t with
  | .nm i => some (ρ.set i (some d))
  | .tp is => match d with
    | .tup l => setAll is l ρ
    | _ => none
def pairUp : List D → List D → List D
  | x :: xs, y :: ys => .tup [x, y] :: pairUp xs ys
  | _, _ => []
def numbered : Nat → List D → List D
  | _, [] => []
  | n, x :: xs => .tup [.int n, x] :: numbered (n + 1) xs
def vseq : D → Option (List D)
  | .tup l => some l
  | .lst l => some l
  | _ => none
def vlst : D → Option (List D)
  | .lst l => some l
  | _ => none
def i1 (f : D → Option (List D)) (ds : List D) : Option (List D) := match ds with
  | [x] => f x
  | _ => none
def i2 (f : D → D → Option (List D)) (ds : List D) : Option (List D) := match ds with
  | [x, y] => f x y
  | _ => none
def rng1i (x : D) : Option (List D) := match x with
  | .int j => if small62 j then some (rngD 0 j.toNat) else none
  | _ => none
def rng2i (x y : D) : Option (List D) := match x, y with
  | .int i, .int j => if small62 i && small62 j then some (rngD i (j - i).toNat) else none
  | _, _ => none
def rngStep (a c : Int) (n : Nat) : List D := (List.range n).map fun (i : Nat) => .int (a + i * c)
/-- down to b, not b itself -/
def rng3i (x y z : D) : Option (List D) := match x, y, z with
  | .int i, .int j, .int c => if c = -1 && small62 i && small62 j then some (rngStep i (-1) (i - j).toNat) else none
  | _, _, _ => none
def i3 (f : D → D → D → Option (List D)) (ds : List D) : Option (List D) := match ds with
  | [x, y, z] => f x y z
  | _ => none
/-- both lists or both tuples -/
def zipi (x y : D) : Option (List D) := match x, y with
  | .lst a, .lst b => some (pairUp a b)
  | .tup a, .tup b => some (pairUp a b)
  | _, _ => none
def enumi (x : D) : Option (List D) := match x with
  | .lst a => some (numbered 0 a)
  | .tup a => some (numbered 0 a)
  | _ => none
def keysi (x : D) : Option (List D) := match x with
  | .dk l => some (l.map fun kv => keyD kv.1)
  | _ => none
def itemsi (x : D) : Option (List D) := match x with
  | .dk l => some (l.map fun kv => .tup [keyD kv.1, kv.2])
  | .dt l => some (l.map fun kv => .tup [.tup (kv.1.map keyD), kv.2])
  | _ => none
def itemsOf (k : ItK) (ds : List D) : Option (List D) := match k with
  | .seq => i1 vseq ds
  | .rng1 => i1 rng1i ds
  | .rng2 => i2 rng2i ds
  | .rng3 => i3 rng3i ds
  | .zip => i2 zipi ds
  | .enum => i1 enumi ds
  | .keys => i1 keysi ds
  | .items => i1 itemsi ds
def wipeE (ρ : Env) : List Nat → Env
  | [] => ρ
  | v :: vs => (wipeE ρ vs).set v none
/-- a comprehension's loop -/
def compL (tst : Env → Mem → Res Bool) (elt : Env → Mem → Res D) (t : Tg) (ρ : Env) : List D → Mem → Res (List D)
  | [], m => .ok [] m
  | x :: xs, m => match bindTg t x ρ with
    | none => .stk
    | some ρ' => (tst ρ' m).bind fun b m1 =>
        if b = true then (elt ρ' m1).bind fun y m2 => (compL tst elt t ρ xs m2).bind fun ys m3 => .ok (y :: ys) m3
        else compL tst elt t ρ xs m1
/-- the outer loop of one with two fors: inner gives the items of a turn -/
def compL2 (tst : Env → Mem → Res Bool) (inner : Env → Mem → Res (List D)) (t : Tg) (ρ : Env) : List D → Mem → Res (List D)
  | [], m => .ok [] m
  | x :: xs, m => match bindTg t x ρ with
    | none => .stk
    | some ρ' => (tst ρ' m).bind fun b m1 =>
        if b = true then (inner ρ' m1).bind fun ys m2 => (compL2 tst inner t ρ xs m2).bind fun zs m3 => .ok (ys ++ zs) m3
        else compL2 tst inner t ρ xs m1
def blOf (d : D) (m : Mem) : Res Bool := match d with
  | .bl b => .ok b m
  | _ => .stk
def intO (d : D) (m : Mem) : Res (Option Int) := match d with
  | .int i => .ok (some i) m
  | _ => .stk
/-- a new list becomes a thing of the store -/
def ownop (d : D) (m : Mem) : Res D := match d with
  | .lst l => .ok (.ref m.length) (m ++ [.lst l])
  | _ => .stk
def isLst (m : Mem) : D → Bool
  | .ref n => match m[n]? with | some (.lst _) => true | _ => false
  | _ => false
def isDic (m : Mem) : D → Bool
  | .dk _ => true
  | .dt _ => true
  | .ref n => match m[n]? with | some (.dk _) => true | some (.dt _) => true | _ => false
  | _ => false
def popop (l i : D) (m : Mem) : Res D := match l, i with
  | .ref n, .int i => match m[n]? with
    | some (.lst xs) => match ixN xs.length i with
      | some k => match xs[k]? with
        | some d => if small62 i then .ok d (m.set n (.lst (xs.eraseIdx k))) else .stk
        | none => .stk
      | none => .stk
    | _ => .stk
  | _, _ => .stk

/-- what is walked, out of the values -/
def itsOf (k : ItK) (r : Res (List D)) : Res (List D) := r.bind fun ds m1 => match itemsOf k ds with
  | none => .stk
  | some its => .ok its m1

/-! ### expressions -/
abbrev Phi := Nat → List D → Mem → Res D
mutual
def ev (Φ : Phi) : C → Env → Mem → Res D
  | .var i, ρ, m => match ρ[i]? with | some (some d) => .ok d m | _ => .stk
  | .int i, _, m => .ok (.int i) m
  | .bl b, _, m => .ok (.bl b) m
  | .non, _, m => .ok .non m
  | .str s, _, m => .ok (.str s) m
  | .tup es, ρ, m => (evL Φ es ρ m).bind fun ds m1 => if ds.length ≤ LIM then .ok (.tup ds) m1 else .stk
  | .lst es, ρ, m => (evL Φ es ρ m).bind fun ds m1 => if ds.length ≤ LIM then .ok (.lst ds) m1 else .stk
  | .ownL es, ρ, m => ((evL Φ es ρ m).bind fun ds m1 => if ds.length ≤ LIM then .ok (.lst ds) m1 else .stk).bind ownop
  | .ownC e, ρ, m => ((ev Φ e ρ m).bind listop).bind ownop
  | .newk, _, m => .ok (.ref m.length) (m ++ [.dk []])
  | .newkv i j, _, m => .ok (.ref m.length) (m ++ [.dk [(.inl i, .int j)]])
  | .newt, _, m => .ok (.ref m.length) (m ++ [.dt []])
  | .bin o a b, ρ, m => (ev Φ a ρ m).bind fun x m1 => (ev Φ b ρ m1).bind fun y m2 => binop o x y m2
  | .neg a, ρ, m => (ev Φ a ρ m).bind fun x m1 => match x with | .int i => .ok (.int (-i)) m1 | _ => .stk
  | .cmp o a b, ρ, m => (ev Φ a ρ m).bind fun x m1 => (ev Φ b ρ m1).bind fun y m2 => cmpop o x y m2
  | .chain o p a b c, ρ, m => (ev Φ a ρ m).bind fun x m1 => (ev Φ b ρ m1).bind fun y m2 => (cmpop o x y m2).bind fun k m3 => (blOf k m3).bind fun k m3 =>
      if k = true then (ev Φ c ρ m3).bind fun z m4 => cmpop p y z m4 else .ok (.bl false) m3
  | .bop c es, ρ, m => evB Φ c es ρ m
  | .not1 a, ρ, m => (ev Φ a ρ m).bind fun x m1 => (blOf x m1).bind fun b m1 => .ok (.bl (!b)) m1
  | .ifx t a b, ρ, m => (ev Φ t ρ m).bind fun x m1 => (blOf x m1).bind fun k m1 => if k = true then ev Φ a ρ m1 else ev Φ b ρ m1
  | .ix a i, ρ, m => (ev Φ a ρ m).bind fun x m1 => (ev Φ i ρ m1).bind fun y m2 => ixop x y m2
  | .sl a lo hi, ρ, m => (ev Φ a ρ m).bind fun x m1 => (evO Φ lo ρ m1).bind fun l m2 => (evO Φ hi ρ m2).bind fun h m3 => slop x l h m3
  | .rev a, ρ, m => (ev Φ a ρ m).bind revop
  | .call f es, ρ, m => (evL Φ es ρ m).bind fun ds m1 => Φ f ds m1
  | .blt b es, ρ, m => (evL Φ es ρ m).bind fun ds m1 => bltop b ds m1
  | .comp elt t k args ifs own, ρ, m => (itsOf k (evL Φ args ρ m)).bind fun its m1 =>
      if its.length ≤ LIM then (compL (fun ρ m => (evT Φ ifs ρ m).calm) (fun ρ m => (ev Φ elt ρ m).calm) t (wipeE ρ own) its m1).calm.bind fun l m2 => .ok (.lst l) m2 else .stk
  | .comp2 elt t k args ifs t2 k2 args2 ifs2 own own2, ρ, m => (itsOf k (evL Φ args ρ m)).bind fun its m1 =>
      (compL2 (fun ρ m => (evT Φ ifs ρ m).calm) (fun ρ m => ((itsOf k2 (evL Φ args2 ρ m)).calm).bind fun its2 m1 =>
            compL (fun ρ m => (evT Φ ifs2 ρ m).calm) (fun ρ m => (ev Φ elt ρ m).calm) t2 (wipeE ρ own2) its2 m1) t (wipeE ρ own) its m1).calm.bind fun l m2 => if l.length ≤ LIM then .ok (.lst l) m2 else .stk
  | .get d k x, ρ, m => (ev Φ d ρ m).bind fun a m1 => if isDic m1 a then (ev Φ k ρ m1).bind fun b m2 => (ev Φ x ρ m2).bind fun c m3 => getop a b c m3 else .stk
  | .popAt l i, ρ, m => (ev Φ l ρ m).bind fun a m1 => if isLst m1 a then (ev Φ i ρ m1).bind fun b m2 => popop a b m2 else .stk
def evL (Φ : Phi) : List C → Env → Mem → Res (List D)
  | [], _, m => .ok [] m
  | e :: es, ρ, m => (ev Φ e ρ m).bind fun d m1 => (evL Φ es ρ m1).bind fun ds m2 => .ok (d :: ds) m2
def evO (Φ : Phi) : Option C → Env → Mem → Res (Option Int)
  | none, _, m => .ok none m
  | some e, ρ, m => (ev Φ e ρ m).bind intO
def evB (Φ : Phi) (isAnd : Bool) : List C → Env → Mem → Res D
  | [], _, _ => .stk
  | [e], ρ, m => ev Φ e ρ m
  | e :: es, ρ, m => (ev Φ e ρ m).bind fun x m1 => (blOf x m1).bind fun b m1 => if b = isAnd then evB Φ isAnd es ρ m1 else .ok (.bl b) m1
def evT (Φ : Phi) : List C → Env → Mem → Res Bool
  | [], _, m => .ok true m
  | e :: es, ρ, m => (ev Φ e ρ m).bind fun x m1 => (blOf x m1).bind fun b m1 => if b = true then evT Φ es ρ m1 else .ok false m1
end

/-! ### statements -/
inductive SRes where
  | nx (ρ : Env) (m : Mem) | rt (d : D) (m : Mem) | ex (c : Nat) (m : Mem) | stk
def SRes.bind (r : SRes) (f : Env → Mem → SRes) : SRes := match r with
  | .nx ρ m => f ρ m
  | r => r
@[simp] theorem SRes.bind_nx (ρ : Env) (m : Mem) (f : Env → Mem → SRes) : (SRes.nx ρ m).bind f = f ρ m := (rfl)
@[simp] theorem SRes.bind_rt (d : D) (m : Mem) (f : Env → Mem → SRes) : (SRes.rt d m).bind f = .rt d m := (rfl)
@[simp] theorem SRes.bind_ex (c : Nat) (m : Mem) (f : Env → Mem → SRes) : (SRes.ex c m).bind f = .ex c m := (rfl)
@[simp] theorem SRes.bind_stk (f : Env → Mem → SRes) : (SRes.stk).bind f = .stk := (rfl)
def Res.toS {α : Type} (r : Res α) (f : α → Mem → SRes) : SRes := match r with
  | .ok a m => f a m
  | .exc c m => .ex c m
  | .stk => .stk
@[simp] theorem Res.toS_ok {α : Type} (a : α) (m : Mem) (f : α → Mem → SRes) : (Res.ok a m).toS f = f a m := (rfl)
@[simp] theorem Res.toS_exc {α : Type} (c : Nat) (m : Mem) (f : α → Mem → SRes) : (Res.exc c m : Res α).toS f = .ex c m := (rfl)
@[simp] theorem Res.toS_stk {α : Type} (f : α → Mem → SRes) : (Res.stk : Res α).toS f = .stk := (rfl)
def putop (d k v : D) (m : Mem) : Option Mem := match d with
  | .ref n => match m[n]? with
    | some (.lst l) => match k with
      | .int i => match ixN l.length i with
        | some j => some (m.set n (.lst (l.set j v)))
        | none => none
      | _ => none
    | some (.dk l) => match keyOf k with
      | some k => if l.length < LIM then some (m.set n (.dk (putD l k v))) else none
      | none => none
    | some (.dt l) => match tkeyOf k with
      | some k => if l.length < LIM then some (m.set n (.dt (putD l k v))) else none
      | none => none
    | _ => none
  | _ => none
def appop (l e : D) (m : Mem) : Option Mem := match l with
  | .ref n => match m[n]? with
    | some (.lst xs) => if xs.length < LIM then some (m.set n (.lst (xs ++ [e]))) else none
    | _ => none
  | _ => none
def placeI : List Int → Int → Option Nat
  | [], _ => none
  | x :: r, y => if x = y then some 0 else (placeI r y).map (· + 1)
def remop (l e : D) (m : Mem) : Option Mem := match l, e with
  | .ref n, .int i => match m[n]? with
    | some (.lst xs) => match intsOf xs with
      | some is => match placeI is i with
        | some j => some (m.set n (.lst (xs.eraseIdx j)))
        | none => none
      | none => none
    | _ => none
  | _, _ => none
def frzop (i : Nat) (ρ : Env) (m : Mem) : SRes := match ρ[i]? with
  | some (some (.ref n)) => match m[n]? with
    | some (.lst l) => .nx (ρ.set i (some (.lst l))) (m.set n .dead)
    | some (.dk l) => .nx (ρ.set i (some (.dk l))) (m.set n .dead)
    | some (.dt l) => .nx (ρ.set i (some (.dt l))) (m.set n .dead)
    | _ => .stk
  | _ => .stk
def okM (o : Option Mem) (ρ : Env) : SRes := match o with
  | some m => .nx ρ m
  | none => .stk
def okE (o : Option Env) (m : Mem) : SRes := match o with
  | some ρ => .nx ρ m
  | none => .stk
def forL (body : Env → Mem → SRes) (t : Tg) : List D → Env → Mem → SRes
  | [], ρ, m => .nx ρ m
  | x :: xs, ρ, m => match bindTg t x ρ with
    | none => .stk
    | some ρ' => (body ρ' m).bind fun ρ2 m2 => forL body t xs ρ2 m2
def whlL (tst : Env → Mem → Res D) (body : Env → Mem → SRes) : Nat → Env → Mem → SRes
  | 0, _, _ => .stk
  | n + 1, ρ, m => (tst ρ m).toS fun x m1 => (blOf x m1).toS fun b m1 => if b = true then (body ρ m1).bind fun ρ2 m2 => whlL tst body n ρ2 m2 else .nx ρ m1
mutual
def evS (Φ : Phi) : S → Env → Mem → SRes
  | .set i e, ρ, m => (ev Φ e ρ m).toS fun d m1 => .nx (ρ.set i (some d)) m1
  | .par i j a b, ρ, m => (ev Φ a ρ m).toS fun x m1 => (ev Φ b ρ m1).toS fun y m2 => .nx ((ρ.set i (some x)).set j (some y)) m2
  | .par3 i j k a b c, ρ, m => (ev Φ a ρ m).toS fun x m1 => (ev Φ b ρ m1).toS fun y m2 => (ev Φ c ρ m2).toS fun z m3 => .nx (((ρ.set i (some x)).set j (some y)).set k (some z)) m3
  | .unp is e, ρ, m => (ev Φ e ρ m).toS fun d m1 => okE (bindTg (.tp is) d ρ) m1
  | .put d i v, ρ, m => (ev Φ v ρ m).toS fun x m1 => (ev Φ d ρ m1).toS fun a m2 => (ev Φ i ρ m2).toS fun k m3 => okM (putop a k x m3) ρ
  | .app l e, ρ, m => (ev Φ l ρ m).toS fun a m1 => if isLst m1 a then (ev Φ e ρ m1).toS fun x m2 => okM (appop a x m2) ρ else .stk
  | .rem l e, ρ, m => (ev Φ l ρ m).toS fun a m1 => if isLst m1 a then (ev Φ e ρ m1).toS fun x m2 => okM (remop a x m2) ρ else .stk
  | .drop e, ρ, m => (ev Φ e ρ m).toS fun _ m1 => .nx ρ m1
  | .ite t a b, ρ, m => (ev Φ t ρ m).toS fun x m1 => (blOf x m1).toS fun k m1 => if k = true then evSs Φ a ρ m1 else evSs Φ b ρ m1
  | .for t k args body, ρ, m => (itsOf k (evL Φ args ρ m)).toS fun its m1 => forL (fun ρ m => evSs Φ body ρ m) t its ρ m1
  | .whl n t body, ρ, m => whlL (fun ρ m => ev Φ t ρ m) (fun ρ m => evSs Φ body ρ m) n ρ m
  | .ret e, ρ, m => (ev Φ e ρ m).toS fun d m1 => .rt d m1
  | .raise c, _, m => .ex c m
  | .frz i, ρ, m => frzop i ρ m
def evSs (Φ : Phi) : List S → Env → Mem → SRes
  | [], ρ, m => .nx ρ m
  | s :: ss, ρ, m => (evS Φ s ρ m).bind fun ρ1 m1 => evSs Φ ss ρ1 m1
end

/-! ### a def -/
structure Fn where
  arity : Nat
  slots : Nat
  body : List S
mutual
/-- no thing of the store with this number or a greater one is named -/
def closedD (n : Nat) : D → Bool
  | .tup l => closedL n l
  | .lst l => closedL n l
  | .dk l => closedK n l
  | .dt l => closedK2 n l
  | .ref k => decide (k < n)
  | _ => true
def closedL (n : Nat) : List D → Bool
  | [] => true
  | d :: r => closedD n d && closedL n r
def closedK (n : Nat) : List (Key × D) → Bool
  | [] => true
  | (_, d) :: r => closedD n d && closedK n r
def closedK2 (n : Nat) : List (List Key × D) → Bool
  | [] => true
  | (_, d) :: r => closedD n d && closedK2 n r
end
def closedM (n : Nat) : Mob → Bool
  | .lst l => closedL n l
  | .dk l => closedK n l
  | .dt l => closedK2 n l
  | .dead => true
/-- behind a def the things made in it are forgotten where nothing names them -/
def shut (n : Nat) (r : Res D) : Res D := match r with
  | .ok d m => if closedD n d && (m.take n).all (closedM n) then .ok d (m.take n) else .ok d m
  | .exc c m => if (m.take n).all (closedM n) then .exc c (m.take n) else .exc c m
  | .stk => .stk
def SRes.out (r : SRes) : Res D := match r with
  | .nx _ m => .ok .non m
  | .rt d m => .ok d m
  | .ex c m => .exc c m
  | .stk => .stk
def run (Φ : Phi) (f : Fn) (ds : List D) (m : Mem) : Res D :=
  if ds.length = f.arity then shut m.length (evSs Φ f.body (ds.map some ++ List.replicate (f.slots - ds.length) none) m).out else .stk
/-! sorting, greatest, least -/
theorem insI_perm (x : Int) : ∀ l, (insI x l).Perm (x :: l)
  | [] => List.Perm.refl _
  | y :: r => by
    unfold insI
    split
    · exact List.Perm.refl _
    · exact (List.Perm.cons y (insI_perm x r)).trans (List.Perm.swap x y r)
theorem sortI_perm : ∀ l, (sortI l).Perm l
  | [] => List.Perm.refl _
  | x :: r => (insI_perm x (sortI r)).trans (List.Perm.cons x (sortI_perm r))
theorem insI_pw (x : Int) : ∀ l : List Int, l.Pairwise (· ≤ ·) → (insI x l).Pairwise (· ≤ ·)
  | [], _ => by unfold insI; simp
  | y :: r, h => by
    have h' := List.pairwise_cons.mp h
    unfold insI
    split
    · rename_i hx
      exact List.pairwise_cons.mpr ⟨fun z hz => by
        rcases List.mem_cons.mp hz with e | hz
        · omega
        · have := h'.1 z hz; omega, h⟩
    · rename_i hx
      refine List.pairwise_cons.mpr ⟨fun z hz => ?_, insI_pw x r h'.2⟩
      rcases List.mem_cons.mp ((insI_perm x r).mem_iff.mp hz) with e | hz
      · omega
      · exact h'.1 z hz
theorem sortI_pw : ∀ l, (sortI l).Pairwise (· ≤ ·)
  | [] => List.Pairwise.nil
  | x :: r => insI_pw x _ (sortI_pw r)
theorem perm_pw_eq {l m : List Int} (p : l.Perm m) (h1 : l.Pairwise (· ≤ ·)) (h2 : m.Pairwise (· ≤ ·)) : l = m :=
  p.eq_of_pairwise (le := fun a b => a ≤ b) (fun a b _ _ h1 h2 => by omega) h1 h2
theorem sortI_unique {l m : List Int} (p : m.Perm l) (h : m.Pairwise (· ≤ ·)) : m = sortI l := perm_pw_eq (p.trans (sortI_perm l).symm) h (sortI_pw l)
theorem maxI_mem : ∀ l : List Int, 0 < l.length → maxI l ∈ l ∧ ∀ y ∈ l, y ≤ maxI l
  | [], h => by simp at h
  | [x], _ => by simp [maxI]
  | x :: y :: r, _ => by
    obtain ⟨h1, h2⟩ := maxI_mem (y :: r) (by simp)
    show max x (maxI (y :: r)) ∈ _ ∧ ∀ z ∈ _, z ≤ max x (maxI (y :: r))
    refine ⟨?_, fun z hz => ?_⟩
    · rcases Int.le_total x (maxI (y :: r)) with h | h
      · rw [Int.max_eq_right h]; exact List.mem_cons_of_mem _ h1
      · rw [Int.max_eq_left h]; exact List.mem_cons_self
    · rcases List.mem_cons.mp hz with e | hz
      · subst e; exact Int.le_max_left _ _
      · exact Int.le_trans (h2 z hz) (Int.le_max_right _ _)
theorem minI_mem : ∀ l : List Int, 0 < l.length → minI l ∈ l ∧ ∀ y ∈ l, minI l ≤ y
  | [], h => by simp at h
  | [x], _ => by simp [minI]
  | x :: y :: r, _ => by
    obtain ⟨h1, h2⟩ := minI_mem (y :: r) (by simp)
    show min x (minI (y :: r)) ∈ _ ∧ ∀ z ∈ _, min x (minI (y :: r)) ≤ z
    refine ⟨?_, fun z hz => ?_⟩
    · rcases Int.le_total x (minI (y :: r)) with h | h
      · rw [Int.min_eq_left h]; exact List.mem_cons_self
      · rw [Int.min_eq_right h]; exact List.mem_cons_of_mem _ h1
    · rcases List.mem_cons.mp hz with e | hz
      · subst e; exact Int.min_le_left _ _
      · exact Int.le_trans (Int.min_le_right _ _) (h2 z hz)
end HD
end

section
set_option Elab.async false
set_option linter.all false
set_option maxRecDepth 100000
/-! A2: how values stand in the heap. -/
namespace HD
open PySem L2

structure Wd where
  H : Hp
  ads : List Addr
  hid : List Addr
  M : Mem
/-- free to be read, never changed -/
def Wd.pub (W : Wd) (a : Addr) : Prop := a ∉ W.hid ∧ ∀ (n : Nat) (o : Mob), W.ads[n]? = some a → W.M[n]? = some o → o = Mob.dead
def dic : HO → Bool
  | .dK _ => true
  | .dT _ => true
  | _ => false
def Wd.rd (W : Wd) (a : Addr) (u : HO) : Prop := (W.H a = some u ∨ (dic u = true ∧ ∃ o, W.H a = some (.frz o u))) ∧ W.pub a
def KL (K : PySem.W.Frag) (a : Addr) (xs : List V) : Prop := SqL K (fun _ => none) a xs
mutual
inductive Rep (K : PySem.W.Frag) (W : Wd) : V → D → Prop
  | non : Rep K W .non .non
  | bl (b : Bool) : Rep K W (.bl b) (.bl b)
  | int (i : Int) : Rep K W (.int i) (.int i)
  | str (x : Str) : Rep K W (.str x) (.str x)
  | tup {a : Addr} {xs : List V} {ds : List D} : W.H a = some (.tup xs) → RepL K W xs ds → Rep K W (.ref a) (.tup ds)
  | lst {a : Addr} {xs : List V} {ds : List D} : W.rd a (.lst xs) → RepL K W xs ds → Rep K W (.ref a) (.lst ds)
  | dk {a : Addr} {xs : List (Key × V)} {ds : List (Key × D)} : W.rd a (.dK xs) → RepK K W xs ds → Rep K W (.ref a) (.dk ds)
  | dt {a : Addr} {xs : List (List Key × V)} {ds : List (List Key × D)} : W.rd a (.dT xs) → RepT K W xs ds → Rep K W (.ref a) (.dt ds)
  | ref {a : Addr} {n : Nat} : W.ads[n]? = some a → Rep K W (.ref a) (.ref n)
  | scr {a : Addr} {l : List Int} : ((∃ o, W.H a = some (.frz o (.lst (l.map V.int)))) ∨ KL K a (l.map V.int)) → Rep K W (.ref a) (.scr l)
inductive RepL (K : PySem.W.Frag) (W : Wd) : List V → List D → Prop
  | nil : RepL K W [] []
  | cons {v : V} {vs : List V} {d : D} {ds : List D} : Rep K W v d → RepL K W vs ds → RepL K W (v :: vs) (d :: ds)
inductive RepK (K : PySem.W.Frag) (W : Wd) : List (Key × V) → List (Key × D) → Prop
  | nil : RepK K W [] []
  | cons {k : Key} {v : V} {vs : List (Key × V)} {d : D} {ds : List (Key × D)} : Rep K W v d → RepK K W vs ds → RepK K W ((k, v) :: vs) ((k, d) :: ds)
inductive RepT (K : PySem.W.Frag) (W : Wd) : List (List Key × V) → List (List Key × D) → Prop
  | nil : RepT K W [] []
  | cons {k : List Key} {v : V} {vs : List (List Key × V)} {d : D} {ds : List (List Key × D)} : Rep K W v d → RepT K W vs ds → RepT K W ((k, v) :: vs) ((k, d) :: ds)
end
inductive MobOk (K : PySem.W.Frag) (W : Wd) (n : Nat) : Mob → Prop
  | lst {a : Addr} {xs : List V} {l : List D} : W.ads[n]? = some a → W.H a = some (.lst xs) → RepL K W xs l → MobOk K W n (.lst l)
  | dk {a : Addr} {xs : List (Key × V)} {l : List (Key × D)} : W.ads[n]? = some a → W.H a = some (.dK xs) → RepK K W xs l → MobOk K W n (.dk l)
  | dt {a : Addr} {xs : List (List Key × V)} {l : List (List Key × D)} : W.ads[n]? = some a → W.H a = some (.dT xs) → RepT K W xs l → MobOk K W n (.dt l)
  | dead : MobOk K W n .dead
structure Wd.Ok (K : PySem.W.Frag) (W : Wd) : Prop where
  len : W.ads.length = W.M.length
  nd : W.ads.Nodup
  there : ∀ a ∈ W.ads, W.H a ≠ none
  hid : ∀ a ∈ W.hid, W.H a ≠ none ∧ a ∉ W.ads
  obj : ∀ (n : Nat) (o : Mob), W.M[n]? = some o → MobOk K W n o
/-- what a step may do to the world -/
structure Wd.le (W W' : Wd) : Prop where
  ads : ∀ (n : Nat) (a : Addr), W.ads[n]? = some a → W'.ads[n]? = some a
  hid : W'.hid = W.hid
  hidH : ∀ a ∈ W.hid, W'.H a = W.H a
  rd : ∀ a u, W.rd a u → W'.rd a u
  tup : ∀ a xs, W.H a = some (.tup xs) → W'.H a = some (.tup xs)
  frz : ∀ a o u, W.H a = some (.frz o u) → W'.H a = some (.frz o u)
  any : ∀ a, W.H a ≠ none → W'.H a ≠ none
/-- what values lean on -/
structure Wd.sub (W W' : Wd) : Prop where
  ads : ∀ (n : Nat) (a : Addr), W.ads[n]? = some a → W'.ads[n]? = some a
  rd : ∀ a u, W.rd a u → W'.rd a u
  tup : ∀ a xs, W.H a = some (.tup xs) → W'.H a = some (.tup xs)
  frz : ∀ a o xs, W.H a = some (.frz o (.lst xs)) → W'.H a = some (.frz o (.lst xs))
theorem Wd.le.sub {W W' : Wd} (q : W.le W') : W.sub W' := ⟨q.ads, q.rd, q.tup, fun a o _ => q.frz a o _⟩
theorem Wd.sub.refl (W : Wd) : W.sub W := ⟨fun _ _ h => h, fun _ _ h => h, fun _ _ h => h, fun _ _ _ h => h⟩
theorem Wd.sub.trans {W W1 W2 : Wd} (p : W.sub W1) (q : W1.sub W2) : W.sub W2 :=
  ⟨fun n a h => q.ads n a (p.ads n a h), fun a u h => q.rd a u (p.rd a u h), fun a xs h => q.tup a xs (p.tup a xs h), fun a o u h => q.frz a o u (p.frz a o u h)⟩
theorem Wd.le.refl (W : Wd) : W.le W := ⟨fun _ _ h => h, rfl, fun _ _ => rfl, fun _ _ h => h, fun _ _ h => h, fun _ _ _ h => h, fun _ h => h⟩
theorem Wd.le.trans {W W1 W2 : Wd} (p : W.le W1) (q : W1.le W2) : W.le W2 where
  ads n a h := q.ads n a (p.ads n a h)
  hid := q.hid.trans p.hid
  hidH a h := (q.hidH a (by rw [p.hid]; exact h)).trans (p.hidH a h)
  rd a u h := q.rd a u (p.rd a u h)
  tup a xs h := q.tup a xs (p.tup a xs h)
  frz a o u h := q.frz a o u (p.frz a o u h)
  any a h := q.any a (p.any a h)
section
variable {K : PySem.W.Frag} {W W' : Wd}
mutual
theorem Rep.mono (q : W.sub W') : ∀ (d : D) (v : V), Rep K W v d → Rep K W' v d
  | .non, _, h => by cases h; exact .non
  | .bl b, _, h => by cases h; exact .bl b
  | .int i, _, h => by cases h; exact .int i
  | .str x, _, h => by cases h; exact .str x
  | .tup ds, _, h => by
    cases h with
    | tup h1 h2 => exact .tup (q.tup _ _ h1) (RepL.mono q ds _ h2)
  | .lst ds, _, h => by
    cases h with
    | lst h1 h2 => exact .lst (q.rd _ _ h1) (RepL.mono q ds _ h2)
  | .dk ds, _, h => by
    cases h with
    | dk h1 h2 => exact .dk (q.rd _ _ h1) (RepK.mono q ds _ h2)
  | .dt ds, _, h => by
    cases h with
    | dt h1 h2 => exact .dt (q.rd _ _ h1) (RepT.mono q ds _ h2)
  | .ref n, _, h => by
    cases h with
    | ref h1 => exact .ref (q.ads _ _ h1)
  | .scr l, _, h => by
    cases h with
    | scr h1 => exact .scr (h1.imp (fun ⟨o, z⟩ => ⟨o, q.frz _ _ _ z⟩) id)
theorem RepL.mono (q : W.sub W') : ∀ (ds : List D) (vs : List V), RepL K W vs ds → RepL K W' vs ds
  | [], _, h => by cases h; exact .nil
  | d :: ds, _, h => by
    cases h with
    | cons h1 h2 => exact .cons (Rep.mono q d _ h1) (RepL.mono q ds _ h2)
theorem RepK.mono (q : W.sub W') : ∀ (ds : List (Key × D)) (vs : List (Key × V)), RepK K W vs ds → RepK K W' vs ds
  | [], _, h => by cases h; exact .nil
  | (k, d) :: ds, _, h => by
    cases h with
    | cons h1 h2 => exact .cons (Rep.mono q d _ h1) (RepK.mono q ds _ h2)
theorem RepT.mono (q : W.sub W') : ∀ (ds : List (List Key × D)) (vs : List (List Key × V)), RepT K W vs ds → RepT K W' vs ds
  | [], _, h => by cases h; exact .nil
  | (k, d) :: ds, _, h => by
    cases h with
    | cons h1 h2 => exact .cons (Rep.mono q d _ h1) (RepT.mono q ds _ h2)
end
theorem Rep.up {v : V} {d : D} (h : Rep K W v d) (q : W.le W') : Rep K W' v d := Rep.mono q.sub d v h
theorem Rep.upS {v : V} {d : D} (h : Rep K W v d) (q : W.sub W') : Rep K W' v d := Rep.mono q d v h
theorem RepL.up {v : List V} {d : List D} (h : RepL K W v d) (q : W.le W') : RepL K W' v d := RepL.mono q.sub d v h
theorem RepL.upS {v : List V} {d : List D} (h : RepL K W v d) (q : W.sub W') : RepL K W' v d := RepL.mono q d v h
theorem RepK.up {v : List (Key × V)} {d : List (Key × D)} (h : RepK K W v d) (q : W.le W') : RepK K W' v d := RepK.mono q.sub d v h
theorem RepK.upS {v : List (Key × V)} {d : List (Key × D)} (h : RepK K W v d) (q : W.sub W') : RepK K W' v d := RepK.mono q d v h
theorem RepT.up {v : List (List Key × V)} {d : List (List Key × D)} (h : RepT K W v d) (q : W.le W') : RepT K W' v d := RepT.mono q.sub d v h
theorem RepT.upS {v : List (List Key × V)} {d : List (List Key × D)} (h : RepT K W v d) (q : W.sub W') : RepT K W' v d := RepT.mono q d v h
theorem RepL.length : ∀ {vs : List V} {ds : List D}, RepL K W vs ds → vs.length = ds.length
  | _, _, .nil => rfl
  | _, _, .cons _ t => by simp [RepL.length t]
theorem RepL.get : ∀ {vs : List V} {ds : List D} {i : Nat} {d : D}, RepL K W vs ds → ds[i]? = some d → ∃ v, vs[i]? = some v ∧ Rep K W v d
  | _, _, _, _, .nil, e => by simp at e
  | _, _, 0, _, .cons r _, e => by simp at e; subst e; exact ⟨_, rfl, r⟩
  | _, _, i + 1, d, .cons _ t, e => by
    obtain ⟨u, h1, h2⟩ := RepL.get (i := i) (d := d) t (by simpa using e)
    exact ⟨u, by simpa using h1, h2⟩
theorem RepL.getV : ∀ {vs : List V} {ds : List D} {i : Nat} {v : V}, RepL K W vs ds → vs[i]? = some v → ∃ d, ds[i]? = some d ∧ Rep K W v d
  | _, _, _, _, .nil, e => by simp at e
  | _, _, 0, _, .cons r _, e => by simp at e; subst e; exact ⟨_, rfl, r⟩
  | _, _, i + 1, d, .cons _ t, e => by
    obtain ⟨u, h1, h2⟩ := RepL.getV (i := i) (v := d) t (by simpa using e)
    exact ⟨u, by simpa using h1, h2⟩
theorem RepL.append : ∀ {xs ys : List V} {us ws : List D}, RepL K W xs us → RepL K W ys ws → RepL K W (xs ++ ys) (us ++ ws)
  | _, _, _, _, .nil, s => s
  | _, _, _, _, .cons r t, s => .cons r (RepL.append t s)
theorem RepL.take : ∀ {xs : List V} {us : List D} (n : Nat), RepL K W xs us → RepL K W (xs.take n) (us.take n)
  | _, _, 0, _ => .nil
  | _, _, _ + 1, .nil => .nil
  | _, _, n + 1, .cons r t => .cons r (RepL.take n t)
theorem RepL.drop : ∀ {xs : List V} {us : List D} (n : Nat), RepL K W xs us → RepL K W (xs.drop n) (us.drop n)
  | _, _, 0, r => r
  | _, _, _ + 1, .nil => .nil
  | _, _, n + 1, .cons _ t => RepL.drop n t
theorem RepL.set {x : V} {u : D} (r : Rep K W x u) : ∀ {xs : List V} {us : List D} (i : Nat), RepL K W xs us → RepL K W (xs.set i x) (us.set i u)
  | _, _, _, .nil => .nil
  | _, _, 0, .cons _ t => .cons r t
  | _, _, i + 1, .cons q t => .cons q (RepL.set r i t)
theorem RepL.erase : ∀ {xs : List V} {us : List D} (i : Nat), RepL K W xs us → RepL K W (xs.eraseIdx i) (us.eraseIdx i)
  | _, _, _, .nil => .nil
  | _, _, 0, .cons _ t => t
  | _, _, i + 1, .cons r t => .cons r (RepL.erase i t)
theorem RepL.reverse {xs : List V} {us : List D} (h : RepL K W xs us) : RepL K W xs.reverse us.reverse := by
  induction us generalizing xs with
  | nil => cases h; exact .nil
  | cons d ds ih =>
    cases h with
    | cons r t =>
      rw [List.reverse_cons, List.reverse_cons]
      exact RepL.append (ih t) (.cons r .nil)
theorem RepL.rep {xs : List V} {us : List D} (h : RepL K W xs us) : ∀ k : Nat, RepL K W (List.replicate k xs).flatten (List.replicate k us).flatten
  | 0 => .nil
  | k + 1 => by
    rw [List.replicate_succ, List.replicate_succ, List.flatten_cons, List.flatten_cons]
    exact RepL.append h (RepL.rep h k)
theorem RepL.ints : ∀ (ns : List Int), RepL K W (ns.map V.int) (ns.map D.int)
  | [] => .nil
  | n :: r => .cons (.int n) (RepL.ints r)
theorem RepL.of_ints : ∀ {vs : List V} {ds : List D} {is : List Int}, RepL K W vs ds → intsOf ds = some is → vs = is.map V.int
  | _, _, is, .nil, e => by simp [intsOf] at e; subst e; rfl
  | _, d :: ds, is, .cons r t, e => by
    cases d with
    | int i =>
      simp only [intsOf] at e
      split at e
      · rename_i l hl
        injection e with e
        subst e
        cases r
        rw [RepL.of_ints t hl]; rfl
      · cases e
    | _ => simp [intsOf] at e
theorem intsOf_map : ∀ (is : List Int), intsOf (is.map D.int) = some is
  | [] => rfl
  | i :: r => by simp [intsOf, intsOf_map r]
theorem intsOf_eq : ∀ {ds : List D} {is : List Int}, intsOf ds = some is → ds = is.map D.int
  | [], is, e => by simp [intsOf] at e; subst e; rfl
  | d :: ds, is, e => by
    cases d with
    | int i =>
      simp only [intsOf] at e
      split at e
      · rename_i l hl
        injection e with e
        subst e
        rw [intsOf_eq hl]; rfl
      · cases e
    | _ => simp [intsOf] at e
theorem RepL.of_bls : ∀ {vs : List V} {ds : List D} {is : List Bool}, RepL K W vs ds → blsOf ds = some is → vs = is.map V.bl
  | _, _, is, .nil, e => by simp [blsOf] at e; subst e; rfl
  | _, d :: ds, is, .cons r t, e => by
    cases d with
    | bl i =>
      simp only [blsOf] at e
      split at e
      · rename_i l hl
        injection e with e
        subst e
        cases r
        rw [RepL.of_bls t hl]; rfl
      · cases e
    | _ => simp [blsOf] at e
theorem blsOf_map : ∀ (is : List Bool), blsOf (is.map D.bl) = some is
  | [] => rfl
  | i :: r => by simp [blsOf, blsOf_map r]
theorem RepK.length : ∀ {vs : List (Key × V)} {ds : List (Key × D)}, RepK K W vs ds → vs.length = ds.length
  | _, _, .nil => rfl
  | _, _, .cons _ t => by simp [RepK.length t]
theorem RepT.length : ∀ {vs : List (List Key × V)} {ds : List (List Key × D)}, RepT K W vs ds → vs.length = ds.length
  | _, _, .nil => rfl
  | _, _, .cons _ t => by simp [RepT.length t]
end
end HD
end

section
set_option Elab.async false
set_option linter.all false
set_option maxRecDepth 100000
/-! A3: steps of the world. -/
namespace HD
open PySem L2
section
variable {K : PySem.W.Frag} {W W' : Wd}
theorem MobOk.up {n : Nat} {o : Mob} (h : MobOk K W n o) (hH : ∀ a, W.ads[n]? = some a → W.H a = W'.H a) (q : W.sub W') : MobOk K W' n o := by
  cases h with
  | lst h1 h2 h3 => exact .lst (q.ads _ _ h1) (by rw [← hH _ h1]; exact h2) (h3.upS q)
  | dk h1 h2 h3 => exact .dk (q.ads _ _ h1) (by rw [← hH _ h1]; exact h2) (h3.upS q)
  | dt h1 h2 h3 => exact .dt (q.ads _ _ h1) (by rw [← hH _ h1]; exact h2) (h3.upS q)
  | dead => exact .dead
theorem nodup_get {l : List Addr} (h : l.Nodup) {i j : Nat} {a : Addr} (h1 : l[i]? = some a) (h2 : l[j]? = some a) : i = j := by
  obtain ⟨hi, e1⟩ := List.getElem?_eq_some_iff.mp h1
  obtain ⟨hj, e2⟩ := List.getElem?_eq_some_iff.mp h2
  exact (List.getElem_inj h).mp (e1.trans e2.symm)
theorem Wd.Ok.fresh (ok : W.Ok K) {p : Addr} (h : W.H p = none) : p ∉ W.hid ∧ p ∉ W.ads :=
  ⟨fun z => (ok.hid p z).1 h, fun z => ok.there p z h⟩
theorem Wd.Ok.freshPub (ok : W.Ok K) {p : Addr} (h : W.H p = none) : W.pub p :=
  ⟨(ok.fresh h).1, fun n o e _ => absurd (List.mem_of_getElem? e) (ok.fresh h).2⟩

/-! ### a new thing that stays as it is -/
def Wd.new (W : Wd) (p : Addr) (o : HO) : Wd := { W with H := upd W.H p o }
theorem Wd.new_le (ok : W.Ok K) {p : Addr} (h : W.H p = none) (o : HO) : W.le (W.new p o) where
  ads _ _ h := h
  hid := rfl
  hidH a ha := upd_ne fun z => (ok.fresh h).1 (z ▸ ha)
  rd a u q := ⟨q.1.elim (fun z => .inl ((upd_ne (ne_of_none z h)).trans z)) fun ⟨y, ob, z⟩ => .inr ⟨y, ob, (upd_ne (ne_of_none z h)).trans z⟩, q.2⟩
  tup a xs q := (upd_ne (ne_of_none q h)).trans q
  frz a ob u q := (upd_ne (ne_of_none q h)).trans q
  any a q := by
    show upd W.H p o a ≠ none
    by_cases e : a = p
    · rw [e, upd_same]; exact fun z => nomatch z
    · rw [upd_ne e]; exact q
theorem Wd.new_ok (ok : W.Ok K) {p : Addr} (h : W.H p = none) (o : HO) : (W.new p o).Ok K where
  len := ok.len
  nd := ok.nd
  there a ha := (Wd.new_le ok h o).any a (ok.there a ha)
  hid a ha := ⟨(Wd.new_le ok h o).any a (ok.hid a ha).1, (ok.hid a ha).2⟩
  obj n m e := (ok.obj n m e).up (fun a ha => (upd_ne fun (z : a = p) => (ok.fresh h).2 (by rw [← z]; exact List.mem_of_getElem? ha)).symm) (Wd.new_le ok h o).sub
theorem Wd.new_rd (ok : W.Ok K) {p : Addr} (h : W.H p = none) (o : HO) : (W.new p o).rd p o := ⟨.inl upd_same, (ok.freshPub h)⟩

/-! ### a new thing of the store -/
def Wd.own (W : Wd) (p : Addr) (o : HO) (m : Mob) : Wd := { W with H := upd W.H p o, ads := W.ads ++ [p], M := W.M ++ [m] }
theorem Wd.own_sub (ok : W.Ok K) {p : Addr} (h : W.H p = none) (o : HO) (m : Mob) : W.le (W.own p o m) where
  ads n a e := by
    show (W.ads ++ [p])[n]? = some a
    rw [List.getElem?_append_left (List.getElem?_eq_some_iff.mp e).1]; exact e
  hid := rfl
  hidH a ha := upd_ne fun z => (ok.fresh h).1 (z ▸ ha)
  rd a u q := by
    have ne : a ≠ p := by
      rcases q.1 with z | ⟨_, ob, z⟩
      · exact ne_of_none z h
      · exact ne_of_none z h
    refine ⟨q.1.elim (fun z => .inl ((upd_ne ne).trans z)) fun ⟨y, ob, z⟩ => .inr ⟨y, ob, (upd_ne ne).trans z⟩, q.2.1, fun n o e1 e2 => ?_⟩
    have e1' : (W.ads ++ [p])[n]? = some a := e1
    have e2' : (W.M ++ [m])[n]? = some o := e2
    by_cases hn : n < W.ads.length
    · rw [List.getElem?_append_left hn] at e1'
      rw [List.getElem?_append_left (by rw [← ok.len]; exact hn)] at e2'
      exact q.2.2 n o e1' e2'
    · rw [List.getElem?_append_right (by omega)] at e1'
      have : a = p := by
        cases hk : n - W.ads.length with
        | zero => rw [hk] at e1'; simpa using e1'.symm
        | succ j => rw [hk] at e1'; simp at e1'
      exact absurd this ne
  tup a xs q := (upd_ne (ne_of_none q h)).trans q
  frz a ob u q := (upd_ne (ne_of_none q h)).trans q
  any a q := by
    show upd W.H p o a ≠ none
    by_cases e : a = p
    · rw [e, upd_same]; exact fun z => nomatch z
    · rw [upd_ne e]; exact q
theorem Wd.own_ok (ok : W.Ok K) {p : Addr} (h : W.H p = none) (o : HO) (m : Mob) (hm : MobOk K (W.own p o m) W.ads.length m) : (W.own p o m).Ok K where
  len := by show (W.ads ++ [p]).length = (W.M ++ [m]).length; simp [ok.len]
  nd := by
    show (W.ads ++ [p]).Nodup
    rw [List.nodup_append]
    exact ⟨ok.nd, by simp, fun a ha b hb e => by simp at hb; subst hb; subst e; exact (ok.fresh h).2 ha⟩
  there a ha := by
    have ha' : a ∈ W.ads ++ [p] := ha
    rcases List.mem_append.mp ha' with z | z
    · exact (Wd.own_sub ok h o m).any a (ok.there a z)
    · simp at z; subst z; show upd W.H a o a ≠ none; rw [upd_same]; exact fun z => nomatch z
  hid a ha := ⟨(Wd.own_sub ok h o m).any a (ok.hid a ha).1, fun z => by
    have z' : a ∈ W.ads ++ [p] := z
    rcases List.mem_append.mp z' with y | y
    · exact (ok.hid a ha).2 y
    · simp at y; subst y; exact (ok.fresh h).1 ha⟩
  obj n o' e := by
    have e' : (W.M ++ [m])[n]? = some o' := e
    by_cases hn : n < W.M.length
    · rw [List.getElem?_append_left hn] at e'
      refine (ok.obj n o' e').up (fun a ha => ?_) (Wd.own_sub ok h o m).sub
      exact (upd_ne fun (z : a = p) => (ok.fresh h).2 (by rw [← z]; exact List.mem_of_getElem? ha)).symm
    · rw [List.getElem?_append_right (by omega)] at e'
      have hk : n = W.ads.length := by
        cases hk : n - W.M.length with
        | zero => have := ok.len; omega
        | succ j => rw [hk] at e'; simp at e'
      subst hk
      have : m = o' := by simpa [ok.len] using e'
      subst this
      exact hm
theorem Wd.own_at (W : Wd) (p : Addr) (o : HO) (m : Mob) : (W.own p o m).ads[W.ads.length]? = some p := by
  show (W.ads ++ [p])[W.ads.length]? = some p
  simp

/-! ### a thing of the store is changed -/
def Wd.put (W : Wd) (n : Nat) (a : Addr) (o : HO) (m : Mob) : Wd := { W with H := upd W.H a o, M := W.M.set n m }
theorem Wd.put_le (ok : W.Ok K) {n : Nat} {a : Addr} {o₀ : Mob} (hn : W.ads[n]? = some a) (hl : W.M[n]? = some o₀) (hd : o₀ ≠ .dead) (nt : ∀ xs, W.H a ≠ some (.tup xs)) (nf : ∀ ob u, W.H a ≠ some (.frz ob u)) (o : HO) (m : Mob) : W.le (W.put n a o m) where
  ads _ _ h := h
  hid := rfl
  hidH b hb := upd_ne fun z => (ok.hid b hb).2 (by rw [z]; exact List.mem_of_getElem? hn)
  rd b u q := by
    have ne : b ≠ a := fun z => hd (q.2.2 n o₀ (by rw [z]; exact hn) hl)
    refine ⟨q.1.elim (fun z => .inl ((upd_ne ne).trans z)) fun ⟨y, ob, z⟩ => .inr ⟨y, ob, (upd_ne ne).trans z⟩, q.2.1, fun j o' e1 e2 => ?_⟩
    have e2' : (W.M.set n m)[j]? = some o' := e2
    have hj : n ≠ j := fun z => by
      subst z
      have e1' : W.ads[n]? = some b := e1
      rw [hn] at e1'
      exact ne (Option.some.inj e1').symm
    rw [List.getElem?_set_ne hj] at e2'
    exact q.2.2 j o' e1 e2'
  tup b xs q := by
    have ne : b ≠ a := fun z => nt xs (by rw [← z]; exact q)
    exact (upd_ne ne).trans q
  frz b ob u q := by
    have ne : b ≠ a := fun z => nf ob u (by rw [← z]; exact q)
    exact (upd_ne ne).trans q
  any b q := by
    show upd W.H a o b ≠ none
    by_cases e : b = a
    · rw [e, upd_same]; exact fun z => nomatch z
    · rw [upd_ne e]; exact q
theorem Wd.put_ok (ok : W.Ok K) {n : Nat} {a : Addr} {o₀ : Mob} (hn : W.ads[n]? = some a) (hl : W.M[n]? = some o₀) (hd : o₀ ≠ .dead) (nt : ∀ xs, W.H a ≠ some (.tup xs)) (nf : ∀ ob u, W.H a ≠ some (.frz ob u)) {o : HO} {m : Mob}
    (hm : MobOk K (W.put n a o m) n m) : (W.put n a o m).Ok K where
  len := by show W.ads.length = (W.M.set n m).length; simp [ok.len]
  nd := ok.nd
  there b hb := (Wd.put_le ok hn hl hd nt nf o m).any b (ok.there b hb)
  hid b hb := ⟨(Wd.put_le ok hn hl hd nt nf o m).any b (ok.hid b hb).1, (ok.hid b hb).2⟩
  obj j o' e := by
    have e' : (W.M.set n m)[j]? = some o' := e
    by_cases hj : n = j
    · subst hj
      have hlt : n < W.M.length := (List.getElem?_eq_some_iff.mp hl).1
      rw [List.getElem?_set_self hlt] at e'
      cases e'
      exact hm
    · rw [List.getElem?_set_ne hj] at e'
      refine (ok.obj j o' e').up (fun b hb => ?_) (Wd.put_le ok hn hl hd nt nf o m).sub
      exact (upd_ne fun z => hj (nodup_get ok.nd hn (by rw [← z]; exact hb))).symm

/-! ### a thing of the store will not change any more -/
def Wd.kill (W : Wd) (n : Nat) : Wd := { W with M := W.M.set n .dead }
theorem Wd.kill_le (W : Wd) (n : Nat) : W.le (W.kill n) where
  ads _ _ h := h
  hid := rfl
  hidH _ _ := rfl
  rd b u q := ⟨q.1, q.2.1, fun j o e1 e2 => by
    have e2' : (W.M.set n Mob.dead)[j]? = some o := e2
    by_cases hj : n = j
    · subst hj
      rw [List.getElem?_set] at e2'
      split at e2'
      · split at e2'
        · exact (Option.some.inj e2').symm
        · cases e2'
      · rename_i h; exact absurd rfl h
    · rw [List.getElem?_set_ne hj] at e2'
      exact q.2.2 j o e1 e2'⟩
  tup _ _ h := h
  frz _ _ _ h := h
  any _ h := h
theorem Wd.kill_ok (ok : W.Ok K) (n : Nat) : (W.kill n).Ok K where
  len := by show W.ads.length = (W.M.set n Mob.dead).length; simp [ok.len]
  nd := ok.nd
  there := ok.there
  hid := ok.hid
  obj j o e := by
    have e' : (W.M.set n Mob.dead)[j]? = some o := e
    by_cases hj : n = j
    · subst hj
      have : o = Mob.dead := by
        rw [List.getElem?_set] at e'
        split at e'
        · split at e'
          · exact (Option.some.inj e').symm
          · cases e'
        · rename_i h; exact absurd rfl h
      subst this
      exact .dead
    · rw [List.getElem?_set_ne hj] at e'
      exact (ok.obj j o e').up (fun _ _ => rfl) (Wd.kill_le W n).sub
theorem Wd.kill_rd (ok : W.Ok K) {n : Nat} {a : Addr} {u : HO} (hn : W.ads[n]? = some a) (hl : n < W.M.length) (h : W.H a = some u) : (W.kill n).rd a u :=
  ⟨.inl h, fun z => (ok.hid a z).2 (List.mem_of_getElem? hn), fun j o e1 e2 => by
    have e1' : W.ads[j]? = some a := e1
    have : n = j := nodup_get ok.nd hn e1'
    subst this
    have e2' : (W.M.set n Mob.dead)[n]? = some o := e2
    rw [List.getElem?_set_self hl] at e2'
    exact (Option.some.inj e2').symm⟩

/-! ### a list that only a comprehension holds -/
def Wd.hide (W : Wd) (p : Addr) (o : HO) : Wd := { W with H := upd W.H p o, hid := p :: W.hid }
theorem Wd.hide_sub (ok : W.Ok K) {p : Addr} (h : W.H p = none) (o : HO) : W.sub (W.hide p o) where
  ads _ _ h := h
  rd a u q := by
    have ne : a ≠ p := by
      rcases q.1 with z | ⟨_, ob, z⟩
      · exact ne_of_none z h
      · exact ne_of_none z h
    exact ⟨q.1.elim (fun z => .inl ((upd_ne ne).trans z)) fun ⟨y, ob, z⟩ => .inr ⟨y, ob, (upd_ne ne).trans z⟩, fun z => (List.mem_cons.mp z).elim ne q.2.1, q.2.2⟩
  tup a xs q := (upd_ne (ne_of_none q h)).trans q
  frz a ob u q := (upd_ne (ne_of_none q h)).trans q
theorem Wd.hide_ok (ok : W.Ok K) {p : Addr} (h : W.H p = none) (o : HO) : (W.hide p o).Ok K where
  len := ok.len
  nd := ok.nd
  there a ha := by
    show upd W.H p o a ≠ none
    by_cases e : a = p
    · rw [e, upd_same]; exact fun z => nomatch z
    · rw [upd_ne e]; exact ok.there a ha
  hid a ha := by
    rcases List.mem_cons.mp ha with z | z
    · subst z
      refine ⟨?_, (ok.fresh h).2⟩
      show upd W.H a o a ≠ none
      rw [upd_same]
      exact fun z => nomatch z
    · refine ⟨?_, (ok.hid a z).2⟩
      show upd W.H p o a ≠ none
      by_cases e : a = p
      · rw [e, upd_same]; exact fun z => nomatch z
      · rw [upd_ne e]; exact (ok.hid a z).1
  obj n m e := (ok.obj n m e).up (fun a ha => (upd_ne fun (z : a = p) => (ok.fresh h).2 (by rw [← z]; exact List.mem_of_getElem? ha)).symm) (Wd.hide_sub ok h o)
/-- the hidden list is changed -/
def Wd.rew (W : Wd) (p : Addr) (o : HO) : Wd := { W with H := upd W.H p o }
theorem Wd.rew_sub {p : Addr} (hp : p ∈ W.hid) (nt : ∀ xs, W.H p ≠ some (.tup xs)) (nf : ∀ ob u, W.H p ≠ some (.frz ob u)) (o : HO) : W.sub (W.rew p o) where
  ads _ _ h := h
  rd a u q := by
    have ne : a ≠ p := fun z => q.2.1 (z ▸ hp)
    exact ⟨q.1.elim (fun z => .inl ((upd_ne ne).trans z)) fun ⟨y, ob, z⟩ => .inr ⟨y, ob, (upd_ne ne).trans z⟩, q.2⟩
  tup a xs q := (upd_ne fun z => nt xs (by rw [← z]; exact q)).trans q
  frz a ob xs q := (upd_ne fun z => nf ob (.lst xs) (by rw [← z]; exact q)).trans q
theorem Wd.rew_ok (ok : W.Ok K) {p : Addr} (hp : p ∈ W.hid) (nt : ∀ xs, W.H p ≠ some (.tup xs)) (nf : ∀ ob u, W.H p ≠ some (.frz ob u)) (o : HO) : (W.rew p o).Ok K where
  len := ok.len
  nd := ok.nd
  there a ha := by
    show upd W.H p o a ≠ none
    by_cases e : a = p
    · rw [e, upd_same]; exact fun z => nomatch z
    · rw [upd_ne e]; exact ok.there a ha
  hid a ha := by
    refine ⟨?_, (ok.hid a ha).2⟩
    show upd W.H p o a ≠ none
    by_cases e : a = p
    · rw [e, upd_same]; exact fun z => nomatch z
    · rw [upd_ne e]; exact (ok.hid a ha).1
  obj n m e := (ok.obj n m e).up (fun a ha => (upd_ne fun (z : a = p) => (ok.hid p hp).2 (by rw [← z]; exact List.mem_of_getElem? ha)).symm) (Wd.rew_sub hp nt nf o)
end
end HD
end

section
set_option Elab.async false
set_option linter.all false
set_option maxRecDepth 100000
/-! A4: what is wanted behind a step; the operators. -/
namespace HD
open PySem PySem.Spec PyProof.Rows L2

abbrev EH := Nat → Hp → Prop
def Post {α β : Type} (R : Wd → β → α → Prop) (K : PySem.W.Frag) (W : Wd) (r : Res α) (E : EH) (Q : β → Hp → Prop) : Prop := match r with
  | .ok a m => ∀ b W', W.le W' → W'.Ok K → W'.M = m → R W' b a → Q b W'.H
  | .exc c m => ∀ W', W.le W' → W'.Ok K → W'.M = m → E c W'.H
  | .stk => False
section
variable {α β γ δ : Type} {R : Wd → β → α → Prop} {R' : Wd → δ → γ → Prop} {K : PySem.W.Frag} {W W' : Wd} {E : EH}
theorem Post.up {r : Res α} {Q : β → Hp → Prop} (h : Post R K W r E Q) (q : W.le W') : Post R K W' r E Q := by
  cases r with
  | ok a m => exact fun b W2 h1 h2 h3 h4 => h b W2 (q.trans h1) h2 h3 h4
  | exc c m => exact fun W2 h1 h2 h3 => h W2 (q.trans h1) h2 h3
  | stk => exact h
theorem Post.bind {r : Res α} {f : α → Mem → Res γ} {Q : δ → Hp → Prop} {Q1 : β → Hp → Prop} (h : Post R' K W (r.bind f) E Q)
    (k : ∀ b W1 a, W.le W1 → W1.Ok K → R W1 b a → Post R' K W1 (f a W1.M) E Q → Q1 b W1.H) : Post R K W r E Q1 := by
  cases r with
  | ok a m =>
    intro b W1 h1 h2 h3 h4
    subst h3
    exact k b W1 a h1 h2 h4 (Post.up h h1)
  | exc c m => exact h
  | stk => exact h
theorem Post.here {a : α} {b : β} {Q : β → Hp → Prop} (h : Post R K W (.ok a W.M) E Q) (ok : W.Ok K) (r : R W b a) : Q b W.H := h b W (Wd.le.refl W) ok rfl r
theorem Post.imp {r : Res α} {Q Q1 : β → Hp → Prop} (h : Post R K W r E Q) (k : ∀ b H, Q b H → Q1 b H) : Post R K W r E Q1 := by
  cases r with
  | ok a m => exact fun b W1 h1 h2 h3 h4 => k _ _ (h b W1 h1 h2 h3 h4)
  | exc c m => exact h
  | stk => exact h
theorem Post.newTup {ds : List D} {xs : List V} {Q : VK} (h : Post (Rep K) K W (.ok (.tup ds) W.M) E Q) (ok : W.Ok K) (r : RepL K W xs ds) : ∀ p, W.H p = none → Q (.ref p) (upd W.H p (.tup xs)) := fun p hp =>
  h (.ref p) (W.new p (.tup xs)) (Wd.new_le ok hp _) (Wd.new_ok ok hp _) rfl (.tup upd_same (r.up (Wd.new_le ok hp _)))
theorem Post.newLst {ds : List D} {xs : List V} {Q : VK} (h : Post (Rep K) K W (.ok (.lst ds) W.M) E Q) (ok : W.Ok K) (r : RepL K W xs ds) : ∀ p, W.H p = none → Q (.ref p) (upd W.H p (.lst xs)) := fun p hp =>
  h (.ref p) (W.new p (.lst xs)) (Wd.new_le ok hp _) (Wd.new_ok ok hp _) rfl (.lst (Wd.new_rd ok hp _) (r.up (Wd.new_le ok hp _)))
end

/-! ### what is read off a value -/
section
variable {K : PySem.W.Frag} {W : Wd}
/-- a sequence, as it stands in the heap -/
theorem seq_rep (ok : W.Ok K) {v : V} {d : D} {b : Bool} {l : List D} (r : Rep K W v d) (h : seqD W.M d = some (b, l)) :
    ∃ a xs, v = .ref a ∧ RepL K W xs l ∧ W.H a = some (if b = true then .tup xs else .lst xs) := by
  cases r with
  | tup h1 h2 => simp [seqD] at h; obtain ⟨rfl, rfl⟩ := h; exact ⟨_, _, rfl, h2, h1⟩
  | lst h1 h2 =>
    simp [seqD] at h; obtain ⟨rfl, rfl⟩ := h
    refine ⟨_, _, rfl, h2, ?_⟩
    rcases h1.1 with z | ⟨z, _⟩
    · exact z
    · exact absurd z (by simp [dic])
  | @ref a n h1 =>
    simp only [seqD] at h
    split at h
    · rename_i l' e
      simp at h; obtain ⟨rfl, rfl⟩ := h
      cases ok.obj n _ e with
      | lst e1 e2 e3 =>
        rw [h1] at e1
        cases e1
        exact ⟨_, _, rfl, e3, e2⟩
    · cases h
  | _ => simp [seqD] at h
theorem seq_any (ok : W.Ok K) {v : V} {d : D} {b : Bool} {l : List D} (r : Rep K W v d) (h : seqD W.M d = some (b, l)) :
    ∃ a xs, v = .ref a ∧ RepL K W xs l ∧ (SqL K W.H a xs ∨ SqT K W.H a xs) := by
  obtain ⟨a, xs, e, r1, h1⟩ := seq_rep ok r h
  refine ⟨a, xs, e, r1, ?_⟩
  cases b with
  | true => exact .inr (SqT.of (by simpa using h1))
  | false => exact .inl (SqL.of (by simpa using h1))
mutual
theorem Rep.dp : ∀ (d : D) (v : V) (p : PyData), Rep K W v d → toPy d = some p → Dp K W.H v p
  | .non, _, _, h, e => by cases h; simp [toPy] at e; subst e; exact .non
  | .bl b, _, _, h, e => by cases h; simp [toPy] at e; subst e; exact .bl b
  | .int i, _, _, h, e => by cases h; simp [toPy] at e; subst e; exact .int i
  | .str x, _, _, h, e => by cases h; simp [toPy] at e; subst e; exact .str x
  | .tup ds, _, p, h, e => by
    cases h with
    | tup h1 h2 =>
      simp only [toPy] at e
      split at e
      · rename_i r hr; cases e; exact .tup (SqT.of h1) (RepL.dp ds _ r h2 hr)
      · cases e
  | .lst ds, _, p, h, e => by
    cases h with
    | lst h1 h2 =>
      simp only [toPy] at e
      split at e
      · rename_i r hr
        cases e
        refine .lst (SqL.of ?_) (RepL.dp ds _ r h2 hr)
        rcases h1.1 with z | ⟨z, _⟩
        · exact z
        · exact absurd z (by simp [dic])
      · cases e
  | .dk _, _, _, _, e => by simp [toPy] at e
  | .dt _, _, _, _, e => by simp [toPy] at e
  | .ref _, _, _, _, e => by simp [toPy] at e
  | .scr _, _, _, _, e => by simp [toPy] at e
theorem RepL.dp : ∀ (ds : List D) (vs : List V) (ps : List PyData), RepL K W vs ds → toPyL ds = some ps → DpAll K W.H vs ps
  | [], _, _, h, e => by cases h; simp [toPyL] at e; subst e; exact .nil
  | d :: ds, _, ps, h, e => by
    cases h with
    | cons h1 h2 =>
      simp only [toPyL] at e
      split at e
      · rename_i x y hx hy; cases e; exact .cons (Rep.dp d _ x h1 hx) (RepL.dp ds _ y h2 hy)
      · cases e
end
theorem view_dp (ok : W.Ok K) {v : V} {d : D} {p : PyData} (r : Rep K W v d) (h : viewPy W.M d = some p) : Dp K W.H v p := by
  unfold viewPy at h
  split at h
  · rename_i n
    split at h
    · rename_i l e
      cases r with
      | ref h1 =>
        cases ok.obj n _ e with
        | lst e1 e2 e3 =>
          rw [h1] at e1
          cases e1
          simp only [toPy] at h
          split at h
          · rename_i r hr; cases h; exact .lst (SqL.of e2) (RepL.dp l _ r e3 hr)
          · cases h
    · cases h
  · exact Rep.dp d v p r h
theorem flat_rep {v : V} {d : D} (r : Rep K W v d) (h : flatD d = true) : flatV v = true := by
  cases r <;> simp_all [flatD, flatV]
theorem flat_repL : ∀ {vs : List V} {ds : List D}, RepL K W vs ds → ds.all flatD = true → vs.all flatV = true
  | _, _, .nil, _ => rfl
  | _, _, .cons r t, h => by
    rw [List.all_cons, Bool.and_eq_true] at h
    rw [List.all_cons, flat_rep r h.1, flat_repL t h.2]; rfl
theorem eqF_rep {v u : V} {d e : D} (r : Rep K W v d) (q : Rep K W u e) (h1 : flatD d = true) (h2 : flatD e = true) : eqV v u = eqF d e := by
  cases r <;> cases q <;> simp_all [flatD, eqV, eqF]
theorem any_eqF {u : V} {e : D} (q : Rep K W u e) (he : flatD e = true) : ∀ {vs : List V} {ds : List D}, RepL K W vs ds → ds.all flatD = true → inV u vs = ds.any fun z => eqF z e
  | _, _, .nil, _ => rfl
  | v :: vs, d :: ds, .cons r t, h => by
    rw [List.all_cons, Bool.and_eq_true] at h
    have ih := any_eqF q he t h.2
    unfold inV at ih ⊢
    rw [List.any_cons, List.any_cons, ih, eqF_rep r q h.1 he]
theorem keyOf_rep {v : V} {d : D} {k : Key} (r : Rep K W v d) (h : keyOf d = some k) : v = kV k := by
  cases r <;> simp [keyOf] at h <;> subst h <;> rfl
theorem keysOf_rep : ∀ {vs : List V} {ds : List D} {ks : List Key}, RepL K W vs ds → keysOf ds = some ks → vs = ks.map kV
  | _, _, ks, .nil, h => by simp [keysOf] at h; subst h; rfl
  | _, d :: ds, ks, .cons r t, h => by
    simp only [keysOf] at h
    split at h
    · rename_i k ks' h1 h2
      cases h
      rw [keyOf_rep r h1, keysOf_rep t h2]; rfl
    · cases h
theorem lookK_rep {k : Key} : ∀ {vs : List (Key × V)} {ds : List (Key × D)}, RepK K W vs ds → (valV vs k = none ∧ lookD ds k = none) ∨ ∃ v d, valV vs k = some v ∧ lookD ds k = some d ∧ Rep K W v d
  | _, _, .nil => .inl ⟨rfl, rfl⟩
  | _, _, .cons (k := k') (v := v) (d := d) r t => by
    by_cases e : k' = k
    · exact .inr ⟨v, d, valV_pos e, by simp [lookD, e], r⟩
    · rcases lookK_rep (k := k) t with ⟨h1, h2⟩ | ⟨v', d', h1, h2, h3⟩
      · exact .inl ⟨by rw [valV_neg (p := (k', v)) e]; exact h1, by simp only [lookD, List.find?_cons, decide_eq_false e]; exact h2⟩
      · exact .inr ⟨v', d', by rw [valV_neg (p := (k', v)) e]; exact h1, by simp only [lookD, List.find?_cons, decide_eq_false e]; exact h2, h3⟩
theorem lookT_rep {k : List Key} : ∀ {vs : List (List Key × V)} {ds : List (List Key × D)}, RepT K W vs ds → (valV vs k = none ∧ lookD ds k = none) ∨ ∃ v d, valV vs k = some v ∧ lookD ds k = some d ∧ Rep K W v d
  | _, _, .nil => .inl ⟨rfl, rfl⟩
  | _, _, .cons (k := k') (v := v) (d := d) r t => by
    by_cases e : k' = k
    · exact .inr ⟨v, d, valV_pos e, by simp [lookD, e], r⟩
    · rcases lookT_rep (k := k) t with ⟨h1, h2⟩ | ⟨v', d', h1, h2, h3⟩
      · exact .inl ⟨by rw [valV_neg (p := (k', v)) e]; exact h1, by simp only [lookD, List.find?_cons, decide_eq_false e]; exact h2⟩
      · exact .inr ⟨v', d', by rw [valV_neg (p := (k', v)) e]; exact h1, by simp only [lookD, List.find?_cons, decide_eq_false e]; exact h2, h3⟩
/-- a look-up in the heap -/
theorem dlook_rep (ok : W.Ok K) {v u : V} {d k : D} {o : Option D} (r : Rep K W v d) (q : Rep K W u k) (h : dlook W.M d k = some o) :
    ∃ a ov, v = .ref a ∧ DGet W.H a u ov ∧ ((o = none ∧ ov = none) ∨ ∃ x y, o = some x ∧ ov = some y ∧ Rep K W y x) := by
  have kk : ∀ {xs : List (Key × V)} {l : List (Key × D)} {a : Addr}, Rd W.H a (.dK xs) → RepK K W xs l → (keyOf k).map (lookD l) = some o →
      ∃ ov, DGet W.H a u ov ∧ ((o = none ∧ ov = none) ∨ ∃ x y, o = some x ∧ ov = some y ∧ Rep K W y x) := fun {xs l a} e1 e2 e3 => by
    obtain ⟨kk, hk, e4⟩ := Option.map_eq_some_iff.mp e3
    have eu := keyOf_rep q hk
    refine ⟨valV xs kk, .inl ⟨xs, kk, e1, eu, rfl⟩, ?_⟩
    rcases lookK_rep (k := kk) e2 with ⟨z1, z2⟩ | ⟨y, x, z1, z2, z3⟩
    · exact .inl ⟨by rw [← e4, z2], z1⟩
    · exact .inr ⟨x, y, by rw [← e4, z2], z1, z3⟩
  have tt : ∀ {xs : List (List Key × V)} {l : List (List Key × D)} {a : Addr}, Rd W.H a (.dT xs) → RepT K W xs l → (tkeyOf k).map (lookD l) = some o →
      ∃ ov, DGet W.H a u ov ∧ ((o = none ∧ ov = none) ∨ ∃ x y, o = some x ∧ ov = some y ∧ Rep K W y x) := fun {xs l a} e1 e2 e3 => by
    obtain ⟨kq, hk, e4⟩ := Option.map_eq_some_iff.mp e3
    cases q with
    | tup h1 h2 =>
      have eu := keysOf_rep h2 (by simpa [tkeyOf] using hk)
      subst eu
      refine ⟨valV xs kq, .inr ⟨xs, kq, _, e1, rfl, h1, rfl⟩, ?_⟩
      rcases lookT_rep (k := kq) e2 with ⟨z1, z2⟩ | ⟨y, x, z1, z2, z3⟩
      · exact .inl ⟨by rw [← e4, z2], z1⟩
      · exact .inr ⟨x, y, by rw [← e4, z2], z1, z3⟩
    | _ => simp [tkeyOf] at hk
  cases r with
  | dk h1 h2 =>
    simp only [dlook] at h
    obtain ⟨ov, z⟩ := kk (h1.1.imp id fun ⟨_, z⟩ => z) h2 h
    exact ⟨_, ov, rfl, z⟩
  | dt h1 h2 =>
    simp only [dlook] at h
    obtain ⟨ov, z⟩ := tt (h1.1.imp id fun ⟨_, z⟩ => z) h2 h
    exact ⟨_, ov, rfl, z⟩
  | @ref a n h1 =>
    simp only [dlook] at h
    split at h
    · rename_i l e
      cases ok.obj n _ e with
      | dk e1 e2 e3 =>
        rw [h1] at e1
        cases e1
        obtain ⟨ov, z⟩ := kk (.inl e2) e3 h
        exact ⟨_, ov, rfl, z⟩
    · rename_i l e
      cases ok.obj n _ e with
      | dt e1 e2 e3 =>
        rw [h1] at e1
        cases e1
        obtain ⟨ov, z⟩ := tt (.inl e2) e3 h
        exact ⟨_, ov, rfl, z⟩
    · cases h
  | _ => simp [dlook] at h
theorem isNon_rep {v : V} {d : D} (r : Rep K W v d) : decide (v = .non) = isNon d := by
  cases r <;> simp [isNon]
end
end HD
end

section
set_option Elab.async false
set_option linter.all false
set_option maxRecDepth 100000
set_option maxHeartbeats 4000000
/-! A5: tuple * int for every count; operators on values. -/
namespace HD
open PySem PySem.Spec PyProof.Rows L2
theorem tuple_mul1 (l : Addr) (items : Array Value) (n : Nat) (dd : Option Addr) (sl : Array (Option Value)) (u : Tok) :
    Meets (Builtin.«tuple.__mul__» ⟨[.ref l, .int 1 u], []⟩) (fun _ R s => s.heap.get? l = some { cls := .type "tuple", dict := dd, data := .seq items n, slots := sl } ∧
      R (.ok (.ret (Value.ref l))) s) :=
  .of_wp fun prog w A R s h => by
    obtain ⟨hp, g, d, t, os⟩ := s
    obtain ⟨hl, h⟩ := h
    have f1 := AutoSeq1.idx_int
    have c1 : (items.isEmpty || (1 : Int) == 1) = true := by simp
    wp_walk using wpAny_loadPart' hl
    repeat (first
      | (refine wpAny_ite_false (by decide) ?_; wp_walk using wpAny_loadPart' hl)
      | (refine wpAny_ite_true (decide_eq_true (by rw [c1])) ?_; wp_walk using wpAny_loadPart' hl))
    exact ⟨_, rfl, h⟩
theorem tuple_mul0 (l : Addr) (items : Array Value) (n : Nat) (dd : Option Addr) (sl : Array (Option Value)) (x : Int) (u : Tok) (c0 : (decide (x < -(2 ^ 63)) || decide (x ≥ 2 ^ 63)) = false) (c1 : (items.isEmpty || x == 1) = false) (c2 : (decide (x ≤ 0) || items.isEmpty) = true) :
    Meets (Builtin.«tuple.__mul__» ⟨[.ref l, .int x u], []⟩) (fun _ R s => s.heap.get? l = some { cls := .type "tuple", dict := dd, data := .seq items n, slots := sl } ∧
      R (.ok (.ret (Value.ref s.heap.objs.size))) { s with heap := s.heap.push { cls := Value.type "tuple", data := Data.seq #[] }, toks := s.toks }) :=
  .of_wp fun prog w A R s h => by
    obtain ⟨hp, g, d, t, os⟩ := s
    obtain ⟨hl, h⟩ := h
    have f1 := AutoSeq1.idx_int
    wp_walk using wpAny_loadPart' hl
    repeat (first
      | (refine wpAny_ite_false (decide_eq_false (by rw [c0]; exact Bool.false_ne_true)) ?_; wp_walk using wpAny_loadPart' hl)
      | (refine wpAny_ite_false (decide_eq_false (by rw [c1]; exact Bool.false_ne_true)) ?_; wp_walk using wpAny_loadPart' hl)
      | (refine wpAny_ite_true (decide_eq_true (by rw [c2])) ?_; wp_walk using wpAny_loadPart' hl))
    exact ⟨_, rfl, h⟩
section
variable {X : Cx}
def rRepA (K : PySem.W.Frag) : R2 := fun x y H Q => ∃ l k xs, x = .ref l ∧ y = .int k ∧ SqT K H l xs ∧ xs ≠ [] ∧ k ≤ 1000 ∧ -(2 ^ 63) ≤ k ∧ xs.length ≤ 1000 ∧
  (k = 1 → Q (.ref l) H) ∧ (k ≠ 1 → ∀ p, H p = none → Q (.ref p) (upd H p (.tup (List.replicate k.toNat xs).flatten)))
theorem op_repA : OpR X (binaryOp .Mult) (rRepA X.K) := by
  intro pins s σ H x y v u Q I rx ry h
  obtain ⟨l, k, xs, rfl, rfl, hT, hne, h2, h3, hz, q1, q2⟩ := h
  by_cases hk : 2 ≤ k
  · exact op_repT pins s σ H _ _ v u Q I rx ry ⟨l, k, xs, rfl, rfl, hT, hne, hk, h2, hz, q2 (by omega)⟩
  · cases rx
    obtain ⟨t, rfl⟩ := ry
    obtain ⟨its, r, ⟨⟨cls, dd, data, sl⟩, ho, hc, n, hd⟩, hs⟩ := I.tuple hT
    simp only at hc hd
    subst hc hd
    have hle : its.length = xs.length := r.length.symm
    have hn : its ≠ [] := fun e => hne (by
      rw [e] at hle
      exact List.eq_nil_of_length_eq_zero hle.symm)
    have hi : its.toArray.isEmpty = false := by
      cases its with
      | nil => exact absurd rfl hn
      | cons a b => rfl
    by_cases h1 : k = 1
    · subst h1
      refine wpAny_binaryOp_repeat_ref (T := "tuple") (U := "int") (by decide) ⟨_, ho, rfl⟩ (fun s' => typeIs_int s' 1 t) noFill_tuple_mul F.fills_int_mul F.slot_int_rmul repeat_tuple F.slot_int_index.lookup
        (call_meets F.slot_int_rmul (typeIs_int s 1 t) F.entry_int_rmul (F.args_int_rmul_2 _ _) (int_rmul_tuple 1 t l its.toArray n dd sl)
          ⟨ho, rfl, ⟨_, ho, rfl⟩, call_meets F.slot_tuple_mul ⟨_, ho, rfl⟩ F.entry_tuple_mul (F.args_tuple_mul_2 _ _) (tuple_mul1 l its.toArray n dd sl t) ⟨ho, ?_⟩⟩)
      exact ⟨.ref l, H, I, rfl, q1 rfl⟩
    · have c0 : (decide (k < -(2 ^ 63)) || decide (k ≥ 2 ^ 63)) = false := by
        rw [decide_eq_false (by omega), decide_eq_false (by omega)] <;> rfl
      have c1 : (its.toArray.isEmpty || k == 1) = false := by
        rw [hi, Bool.false_or]
        exact beq_eq_false_iff_ne.mpr h1
      have c2 : (decide (k ≤ 0) || its.toArray.isEmpty) = true := by
        rw [decide_eq_true (by omega)] <;> rfl
      refine wpAny_binaryOp_repeat_ref (T := "tuple") (U := "int") (by decide) ⟨_, ho, rfl⟩ (fun s' => typeIs_int s' k t) noFill_tuple_mul F.fills_int_mul F.slot_int_rmul repeat_tuple F.slot_int_index.lookup
        (call_meets F.slot_int_rmul (typeIs_int s k t) F.entry_int_rmul (F.args_int_rmul_2 _ _) (int_rmul_tuple k t l its.toArray n dd sl)
          ⟨ho, rfl, ⟨_, ho, rfl⟩, call_meets F.slot_tuple_mul ⟨_, ho, rfl⟩ F.entry_tuple_mul (F.args_tuple_mul_2 _ _) (tuple_mul0 l its.toArray n dd sl k t c0 c1 c2) ⟨ho, ?_⟩⟩)
      have e0 : k.toNat = 0 := by omega
      have q3 := q2 h1 s.heap.objs.size (I.hok.fresh (Nat.le_refl _))
      rw [e0] at q3
      refine ⟨.ref s.heap.objs.size, _, I.laid (t' := s.toks) (o := .tup []) (fun b ob q => Heap.get?_push_of_some _ q) (Nat.le_refl _) ?_, rfl, q3⟩
      exact ⟨Nat.zero_le _, [], .nil, IsTup.new _ _⟩
end

/-! ### operators -/
def opOf : Bop → Operator
  | .add => .Add | .sub => .Sub | .mul => .Mult | .fdiv => .FloorDiv | .mod => .Mod | .pow => .Pow
/-- an operation on two values, by what it reckons -/
def rB (K : PySem.W.Frag) (E : EH) (f : D → D → Mem → Res D) : R2 := fun x y H Q => ∃ W dx dy, W.H = H ∧ W.Ok K ∧ Rep K W x dx ∧ Rep K W y dy ∧ Post (Rep K) K W (f dx dy W.M) E Q
section
variable {X : Cx} {E : EH}
theorem lim_line : LIM = sizeLine := by rw [sizeLine_eq]; rfl
theorem add_sound {pins : List (Addr × Obj)} {s : Shared} {σ : L2.St} {x y : V} {v u : Value} {Q : VK} {W : Wd} {dx dy : D} (I : Inv X pins σ W.H s) (rx : RelV x v) (ry : RelV y u) (ok : W.Ok X.K) (r1 : Rep X.K W x dx) (r2 : Rep X.K W y dy)
    (h : Post (Rep X.K) X.K W (addSeq dx dy W.M) E Q) : wpAny (model X.prog X.w) X.A (binaryOp .Add v u) (EP X pins σ Q) X.xe s := by
  unfold addSeq at h
  split at h
  · rename_i b l c r e1 e2
    split at h
    · rename_i hc
      obtain ⟨rfl, hl⟩ := hc
      obtain ⟨a, xs, rfl, q1, h1⟩ := seq_rep ok r1 e1
      obtain ⟨a', ys, rfl, q2, h2⟩ := seq_rep ok r2 e2
      have hlen : xs.length + ys.length ≤ sizeLine := by rw [← lim_line, q1.length, q2.length]; exact hl
      cases b with
      | true =>
        simp only [mkSeq, if_true] at h h1 h2
        refine op_catA pins s σ W.H _ _ v u Q I rx ry ⟨a, a', xs, ys, rfl, rfl, SqT.of h1, SqT.of h2, hlen, fun e => ?_, fun e e' => ?_, fun _ _ => h.newTup ok (q1.append q2)⟩
        · subst e
          cases q1
          exact h.here ok (.tup h2 q2)
        · subst e'
          cases q2
          rw [List.append_nil] at h
          exact h.here ok (.tup h1 q1)
      | false =>
        simp only [mkSeq, Bool.false_eq_true, if_false] at h h1 h2
        exact op_cat pins s σ W.H _ _ v u Q I rx ry ⟨a, a', xs, ys, rfl, rfl, h1, h2, hlen, h.newLst ok (q1.append q2)⟩
    · exact h.elim
  · exact h.elim
theorem mul_sound {pins : List (Addr × Obj)} {s : Shared} {σ : L2.St} {x : V} {k : Int} {v u : Value} {Q : VK} {W : Wd} {dx : D} (I : Inv X pins σ W.H s) (rx : RelV x v) (ry : RelV (.int k) u) (ok : W.Ok X.K) (r1 : Rep X.K W x dx)
    (h : Post (Rep X.K) X.K W (mulSeq dx k W.M) E Q) : wpAny (model X.prog X.w) X.A (binaryOp .Mult v u) (EP X pins σ Q) X.xe s := by
  unfold mulSeq at h
  split at h
  · rename_i l e1
    split at h
    · rename_i hc
      obtain ⟨a, xs, rfl, q1, h1⟩ := seq_rep ok r1 e1
      simp only [if_true] at h1
      refine op_repA pins s σ W.H _ _ v u Q I rx ry ⟨a, k, xs, rfl, rfl, SqT.of h1, ?_, hc.2.1, hc.2.2.1, by rw [q1.length]; exact hc.2.2.2, fun e => ?_, fun _ => h.newTup ok (q1.rep k.toNat)⟩
      · rintro rfl
        cases q1
        exact hc.1 rfl
      · subst e
        have e3 : (List.replicate (1 : Int).toNat l).flatten = l := by simp [List.replicate]
        rw [e3] at h
        exact h.here ok (.tup h1 q1)
    · exact h.elim
  · rename_i l e1
    split at h
    · rename_i hc
      obtain ⟨a, xs, rfl, q1, h1⟩ := seq_rep ok r1 e1
      simp only [Bool.false_eq_true, if_false] at h1
      exact op_rep pins s σ W.H _ _ v u Q I rx ry ⟨a, k, xs, rfl, rfl, h1, hc.1, hc.2.1, by rw [q1.length, ← lim_line]; exact hc.2.2, h.newLst ok (q1.rep k.toNat)⟩
    · exact h.elim
  · exact h.elim
theorem binop_sound (o : Bop) : OpR X (binaryOp (opOf o)) (rB X.K E (binop o)) := by
  intro pins s σ H x y v u Q I rx ry h
  obtain ⟨W, dx, dy, rfl, ok, r1, r2, h⟩ := h
  cases o with
  | add =>
    dsimp only [binop] at h
    split at h
    · cases r1
      cases r2
      exact op_add pins s σ W.H _ _ v u Q I rx ry ⟨_, _, rfl, rfl, h.here ok (.int _)⟩
    · exact add_sound I rx ry ok r1 r2 h
  | sub =>
    dsimp only [binop] at h
    split at h
    · cases r1
      cases r2
      exact op_sub pins s σ W.H _ _ v u Q I rx ry ⟨_, _, rfl, rfl, h.here ok (.int _)⟩
    · exact h.elim
  | mul =>
    dsimp only [binop] at h
    split at h
    · cases r1
      cases r2
      split at h
      · rename_i hc
        exact op_mul pins s σ W.H _ _ v u Q I rx ry ⟨_, _, rfl, rfl, hc, h.here ok (.int _)⟩
      · exact h.elim
    · cases r2
      exact mul_sound I rx ry ok r1 h
    · exact h.elim
  | fdiv =>
    dsimp only [binop] at h
    split at h
    · cases r1
      cases r2
      split at h
      · rename_i hc
        exact op_fdiv pins s σ W.H _ _ v u Q I rx ry ⟨_, _, rfl, rfl, hc, h.here ok (.int _)⟩
      · exact h.elim
    · exact h.elim
  | mod =>
    dsimp only [binop] at h
    split at h
    · cases r1
      cases r2
      split at h
      · rename_i hc
        exact op_mod pins s σ W.H _ _ v u Q I rx ry ⟨_, _, rfl, rfl, hc, h.here ok (.int _)⟩
      · exact h.elim
    · exact h.elim
  | pow =>
    dsimp only [binop] at h
    split at h
    · cases r1
      cases r2
      split at h
      · rename_i hc
        exact op_pow pins s σ W.H _ _ v u Q I rx ry ⟨_, _, rfl, rfl, hc, h.here ok (.int _)⟩
      · exact h.elim
    · exact h.elim
end
end HD
end

section
set_option Elab.async false
set_option linter.all false
set_option maxRecDepth 100000
set_option maxHeartbeats 4000000
/-! A6: comparisons. -/
namespace HD
open PySem PySem.Spec PyProof.Rows L2
def copOf : Cop → CmpOp
  | .eq => .Eq | .ne => .NotEq | .lt => .Lt | .le => .LtE | .gt => .Gt | .ge => .GtE | .isN => .Is | .notN => .IsNot | .isB => .Is | .notB => .IsNot | .inn => .In | .notin => .NotIn
section
variable {X : Cx} {E : EH} {pins : List (Addr × Obj)} {s : Shared} {σ : L2.St} {x y : V} {v u : Value} {Q : VK} {W : Wd} {dx dy : D}
theorem room65 {k : Nat} {A : Around} (hr : Room k A) : A.units + 65 < cLine := by have := hr.un; omega
theorem memb_sound (hu : X.A.units + 65 < cLine) (I : Inv X pins σ W.H s) (rx : RelV x v) (ry : RelV y u) (ok : W.Ok X.K) (r1 : Rep X.K W x dx) (r2 : Rep X.K W y dy) {b : Bool} (h : memb dx dy W.M = some b) (q : Q (.bl b) W.H) :
    wpAny (model X.prog X.w) X.A (compareOp .In v u) (EP X pins σ Q) X.xe s := by
  unfold memb at h
  split at h
  · rename_i o e
    cases h
    obtain ⟨a, ov, rfl, g, z⟩ := dlook_rep ok r2 r1 e
    obtain rfl : u = Value.ref a := ry
    have eb : ov.isSome = o.isSome := by
      rcases z with ⟨rfl, rfl⟩ | ⟨_, _, rfl, rfl, _⟩ <;> rfl
    exact d_in (by omega) I g rx fun s3 I3 => ⟨.bl ov.isSome, W.H, I3, by rw [eb]; rfl, by rw [eb]; exact q⟩
  · split at h
    · rename_i c l e
      split at h
      · rename_i hf
        cases h
        obtain ⟨a, xs, rfl, q1, h1⟩ := seq_any ok r2 e
        refine op_in_seq pins s σ W.H _ _ v u Q I rx ry ⟨a, xs, rfl, h1, flat_rep r1 hf.1, flat_repL q1 hf.2, ?_⟩
        simp only [Bool.false_eq_true, if_false]
        rw [any_eqF r1 hf.1 q1 hf.2]
        exact q
      · split at h
        · rename_i p qs e1 e2
          split at h
          · rename_i hs
            cases h
            obtain ⟨a, xs, rfl, q1, h1⟩ := seq_rep ok r2 e
            simp only [Bool.false_eq_true, if_false] at h1
            exact op_inD hu pins s σ W.H _ _ v u Q I rx ry ⟨p, qs, view_dp ok r1 e1, .lst (SqL.of h1) (RepL.dp l xs qs q1 e2), hs.1, hs.2, q⟩
          · cases h
        · rename_i p qs e1 e2
          split at h
          · rename_i hs
            cases h
            obtain ⟨a, xs, rfl, q1, h1⟩ := seq_rep ok r2 e
            simp only [if_true] at h1
            obtain ⟨as, z1⟩ := Dp.reads I p x v (view_dp ok r1 e1) rx
            obtain ⟨bs, z2⟩ := Dp.reads I (.tuple qs) _ u (.tup (SqT.of h1) (RepL.dp l xs qs q1 e2)) ry
            exact SeqAt.in_tuple_reads z2 z1 (SeqAt.canLay_of_shaped hs.2) (SeqAt.canLay_of_shaped hs.1) (room_in_shaped hs.1 hu) ⟨.bl _, W.H, I, rfl, q⟩
          · cases h
        · cases h
    · cases h
theorem nmemb_sound (hu : X.A.units + 65 < cLine) (I : Inv X pins σ W.H s) (rx : RelV x v) (ry : RelV y u) (ok : W.Ok X.K) (r1 : Rep X.K W x dx) (r2 : Rep X.K W y dy) {b : Bool} (h : memb dx dy W.M = some b) (q : Q (.bl (!b)) W.H) :
    wpAny (model X.prog X.w) X.A (compareOp .NotIn v u) (EP X pins σ Q) X.xe s := by
  unfold memb at h
  split at h
  · rename_i o e
    cases h
    obtain ⟨a, ov, rfl, g, z⟩ := dlook_rep ok r2 r1 e
    obtain rfl : u = Value.ref a := ry
    have eb : ov.isSome = o.isSome := by
      rcases z with ⟨rfl, rfl⟩ | ⟨_, _, rfl, rfl, _⟩ <;> rfl
    exact d_notIn (by omega) I g rx fun s3 I3 => ⟨.bl (!ov.isSome), W.H, I3, by rw [eb]; rfl, by rw [eb]; exact q⟩
  · split at h
    · rename_i c l e
      split at h
      · rename_i hf
        cases h
        obtain ⟨a, xs, rfl, q1, h1⟩ := seq_any ok r2 e
        refine op_notIn_seq pins s σ W.H _ _ v u Q I rx ry ⟨a, xs, rfl, h1, flat_rep r1 hf.1, flat_repL q1 hf.2, ?_⟩
        simp only [if_true]
        rw [any_eqF r1 hf.1 q1 hf.2]
        exact q
      · split at h
        · rename_i p qs e1 e2
          split at h
          · rename_i hs
            cases h
            obtain ⟨a, xs, rfl, q1, h1⟩ := seq_rep ok r2 e
            simp only [Bool.false_eq_true, if_false] at h1
            exact op_notInD hu pins s σ W.H _ _ v u Q I rx ry ⟨p, qs, view_dp ok r1 e1, .lst (SqL.of h1) (RepL.dp l xs qs q1 e2), hs.1, hs.2, q⟩
          · cases h
        · rename_i p qs e1 e2
          split at h
          · rename_i hs
            cases h
            obtain ⟨a, xs, rfl, q1, h1⟩ := seq_rep ok r2 e
            simp only [if_true] at h1
            obtain ⟨as, z1⟩ := Dp.reads I p x v (view_dp ok r1 e1) rx
            obtain ⟨bs, z2⟩ := Dp.reads I (.tuple qs) _ u (.tup (SqT.of h1) (RepL.dp l xs qs q1 e2)) ry
            exact SeqAt.notIn_tuple_reads z2 z1 (SeqAt.canLay_of_shaped hs.2) (SeqAt.canLay_of_shaped hs.1) (room_in_shaped hs.1 hu) ⟨.bl _, W.H, I, rfl, q⟩
          · cases h
        · cases h
    · cases h
theorem eqv_some {b : Bool} {m : Mem} (h : eqv dx dy m = some b) : ∃ p q, viewPy m dx = some p ∧ viewPy m dy = some q ∧ SeqAt.shaped p = true ∧ SeqAt.shaped q = true ∧ b = PyData.eqv p q := by
  unfold eqv at h
  split at h
  · rename_i p q e1 e2
    split at h
    · rename_i hs
      cases h
      exact ⟨p, q, e1, e2, hs.1, hs.2, rfl⟩
    · cases h
  · cases h
theorem okB_some {K : PySem.W.Frag} {o : Option Bool} (ok : W.Ok K) (h : Post (Rep K) K W (okB o W.M) E Q) : ∃ b, o = some b ∧ Q (.bl b) W.H := by
  cases o with
  | none => exact h.elim
  | some b => exact ⟨b, rfl, Post.here h ok (.bl b)⟩
theorem cmp_sound (hu : X.A.units + 65 < cLine) (o : Cop) : OpR X (compareOp (copOf o)) (rB X.K E (cmpop o)) := by
  intro pins s σ H x y v u Q I rx ry h
  obtain ⟨W, dx, dy, rfl, ok, r1, r2, h⟩ := h
  have cI : ∀ {f : Int → Int → Bool} {op : CmpOp}, OpR X (compareOp op) (rI0 fun i j => .bl (f i j)) → Post (Rep X.K) X.K W (cmpI f dx dy W.M) E Q → wpAny (model X.prog X.w) X.A (compareOp op v u) (EP X pins σ Q) X.xe s := fun {f op} hr h => by
    unfold cmpI at h
    split at h
    · cases r1
      cases r2
      exact hr pins s σ W.H _ _ v u Q I rx ry ⟨_, _, rfl, rfl, h.here ok (.bl _)⟩
    · exact h.elim
  have cB : ∀ {f : Bool → Bool → Bool} {op : CmpOp}, OpR X (compareOp op) (fun x y H Q => ∃ a b : Bool, x = .bl a ∧ y = .bl b ∧ Q (.bl (f a b)) H) → Post (Rep X.K) X.K W (blB f dx dy W.M) E Q → wpAny (model X.prog X.w) X.A (compareOp op v u) (EP X pins σ Q) X.xe s := fun {f op} hr h => by
    unfold blB at h
    split at h
    · cases r1
      cases r2
      exact hr pins s σ W.H _ _ v u Q I rx ry ⟨_, _, rfl, rfl, h.here ok (.bl _)⟩
    · exact h.elim
  cases o with
  | eq =>
    obtain ⟨b, e, q⟩ := okB_some ok h
    obtain ⟨p1, p2, e1, e2, s1, s2, rfl⟩ := eqv_some e
    exact op_eqD (by omega) pins s σ W.H _ _ v u Q I rx ry ⟨p1, p2, view_dp ok r1 e1, view_dp ok r2 e2, s1, s2, q⟩
  | ne =>
    obtain ⟨b, e, q⟩ := okB_some ok h
    obtain ⟨b', e', rfl⟩ := Option.map_eq_some_iff.mp e
    obtain ⟨p1, p2, e1, e2, s1, s2, rfl⟩ := eqv_some e'
    exact op_neD (by omega) pins s σ W.H _ _ v u Q I rx ry ⟨p1, p2, view_dp ok r1 e1, view_dp ok r2 e2, s1, s2, q⟩
  | lt =>
    dsimp only [cmpop] at h
    unfold ltop at h
    split at h
    · cases r1
      cases r2
      exact op_lt pins s σ W.H _ _ v u Q I rx ry ⟨_, _, rfl, rfl, h.here ok (.bl _)⟩
    · rename_i l r
      split at h
      · rename_i a b ea eb
        cases r1 with
        | tup h1 q1 =>
          cases r2 with
          | tup h2 q2 =>
            have e1 := RepL.of_ints q1 ea
            have e2 := RepL.of_ints q2 eb
            subst e1 e2
            exact op_ltT (by omega) pins s σ W.H _ _ v u Q I rx ry ⟨_, _, a, b, rfl, rfl, SqT.of h1, SqT.of h2, h.here ok (.bl _)⟩
      · exact h.elim
    · exact h.elim
  | le => exact cI op_le h
  | gt => exact cI op_gt h
  | ge => exact cI op_ge h
  | isN =>
    dsimp only [cmpop] at h
    split at h
    · rename_i hn
      have ey : y = .non := by have := isNon_rep r2; rw [hn] at this; exact of_decide_eq_true this
      refine op_isN pins s σ W.H _ _ v u Q I rx ry ⟨ey, ?_⟩
      rw [isNon_rep r1]
      exact h.here ok (.bl _)
    · exact h.elim
  | notN =>
    dsimp only [cmpop] at h
    split at h
    · rename_i hn
      have ey : y = .non := by have := isNon_rep r2; rw [hn] at this; exact of_decide_eq_true this
      refine op_notN pins s σ W.H _ _ v u Q I rx ry ⟨ey, ?_⟩
      rw [isNon_rep r1]
      exact h.here ok (.bl _)
    · exact h.elim
  | isB => exact cB op_isBl h
  | notB => exact cB op_notBl h
  | inn =>
    obtain ⟨b, e, q⟩ := okB_some ok h
    exact memb_sound hu I rx ry ok r1 r2 e q
  | notin =>
    obtain ⟨b, e, q⟩ := okB_some ok h
    obtain ⟨b', e', rfl⟩ := Option.map_eq_some_iff.mp e
    exact nmemb_sound hu I rx ry ok r1 r2 e' q
end
end HD
end

section
set_option Elab.async false
set_option linter.all false
set_option maxRecDepth 100000
set_option maxHeartbeats 4000000
/-! A7: what is wanted of an expression; the context; built-ins. -/
namespace HD
open PySem PySem.Spec PyProof.Rows L2

/-- slots hold what the language's slots hold -/
structure ERep (K : PySem.W.Frag) (W : Wd) (σ : L2.St) (ρ : Env) : Prop where
  len : ρ.length = σ.length
  at_ : ∀ (i : Nat) (d : D), ρ[i]? = some (some d) → ∃ v, σ[i]? = some (some v) ∧ Rep K W v d
section
variable {K : PySem.W.Frag} {W W' : Wd} {σ : L2.St} {ρ : Env}
theorem ERep.upS (h : ERep K W σ ρ) (q : W.sub W') : ERep K W' σ ρ := ⟨h.len, fun i d e => let ⟨v, e1, r⟩ := h.at_ i d e; ⟨v, e1, r.upS q⟩⟩
theorem ERep.up (h : ERep K W σ ρ) (q : W.le W') : ERep K W' σ ρ := h.upS q.sub
theorem ERep.set (h : ERep K W σ ρ) {v : V} {d : D} (r : Rep K W v d) (i : Nat) : ERep K W (σ.set i (some v)) (ρ.set i (some d)) := by
  refine ⟨by simp [h.len], fun j e he => ?_⟩
  by_cases hj : i = j
  · subst hj
    by_cases hl : i < ρ.length
    · rw [List.getElem?_set_self hl] at he
      cases he
      exact ⟨v, by rw [List.getElem?_set_self (by rw [← h.len]; exact hl)], r⟩
    · rw [List.getElem?_eq_none (by simpa using hl)] at he
      cases he
  · rw [List.getElem?_set_ne hj] at he
    obtain ⟨u, e1, e2⟩ := h.at_ j e he
    exact ⟨u, by rw [List.getElem?_set_ne hj]; exact e1, e2⟩
theorem ERep.set0 (h : ERep K W σ ρ) (i : Nat) : ERep K W (σ.set i none) (ρ.set i none) := by
  refine ⟨by simp [h.len], fun j e he => ?_⟩
  by_cases hj : i = j
  · subst hj
    by_cases hl : i < ρ.length
    · rw [List.getElem?_set_self hl] at he
      cases he
    · rw [List.getElem?_eq_none (by simpa using hl)] at he
      cases he
  · rw [List.getElem?_set_ne hj] at he
    obtain ⟨u, e1, e2⟩ := h.at_ j e he
    exact ⟨u, by rw [List.getElem?_set_ne hj]; exact e1, e2⟩
theorem ERep.wipe (h : ERep K W σ ρ) : ∀ vs : List Nat, ERep K W (wipe σ vs) (wipeE ρ vs)
  | [] => h
  | v :: vs => (ERep.wipe h vs).set0 v
/-- one slot's value told otherwise -/
theorem ERep.alter (h : ERep K W σ ρ) {i : Nat} {d : D} (r : ∀ v, σ[i]? = some (some v) → Rep K W v d) (hi : ∃ v, σ[i]? = some (some v)) : ERep K W σ (ρ.set i (some d)) := by
  refine ⟨by simp [h.len], fun j e he => ?_⟩
  by_cases hj : i = j
  · subst hj
    obtain ⟨v, hv⟩ := hi
    by_cases hl : i < ρ.length
    · rw [List.getElem?_set_self hl] at he
      cases he
      exact ⟨v, hv, r v hv⟩
    · rw [List.getElem?_eq_none (by simpa using hl)] at he
      cases he
  · rw [List.getElem?_set_ne hj] at he
    exact h.at_ j e he
end

/-! ### readings -/
section
variable (K : PySem.W.Frag) (E : EH)
def den (f : Env → Mem → Res D) : TE := fun σ H Q => ∃ W ρ, W.H = H ∧ W.Ok K ∧ ERep K W σ ρ ∧ Post (Rep K) K W (f ρ W.M) E Q
def denL (f : Env → Mem → Res (List D)) : TA := fun σ H Q => ∃ W ρ, W.H = H ∧ W.Ok K ∧ ERep K W σ ρ ∧ Post (RepL K) K W (f ρ W.M) E Q
def denT (f : Env → Mem → Res Bool) : TT := fun σ H Q => ∃ W ρ, W.H = H ∧ W.Ok K ∧ ERep K W σ ρ ∧ Post (fun _ (b : Bool) (a : Bool) => b = a) K W (f ρ W.M) E Q
def denO (f : Env → Mem → Res (Option Int)) : TO := fun σ H Q => ∃ W ρ, W.H = H ∧ W.Ok K ∧ ERep K W σ ρ ∧ Post (fun _ (b : Option Int) (a : Option Int) => b = a) K W (f ρ W.M) E Q
/-- a def's promise -/
def spD (cls : Nat → Value) (φ : List D → Mem → Res D) : Sp := fun vs H Q Ex => ∃ W ds, W.H = H ∧ W.Ok K ∧ RepL K W vs ds ∧ Post (Rep K) K W (φ ds W.M) (fun c H' => Ex (cls c) none H') Q
end
def exK (cls : Nat → Value) (E : EH) : XK := fun c d H => d = none ∧ ∃ n, c = cls n ∧ E n H
section
variable {X : Cx}
theorem imE {e : Expr} {t t' : TE} (h : PE X e t) (k : ∀ σ H Q, t' σ H Q → t σ H Q) : PE X e t' := ⟨fun pins s σ H Q I hw => h.run pins s σ H Q I (k _ _ _ hw)⟩
theorem imT {e : Expr} {t t' : TT} (h : PT X e t) (k : ∀ σ H Q, t' σ H Q → t σ H Q) : PT X e t' := ⟨fun pins s σ H Q I hw => h.run pins s σ H Q I (k _ _ _ hw)⟩
theorem imW {e : Expr} {t t' : TT} (h : PW X e t) (k : ∀ σ H Q, t' σ H Q → t σ H Q) : PW X e t' := ⟨fun wh pins s σ H Q I hw => h.run wh pins s σ H Q I (k _ _ _ hw)⟩
theorem imA {es : List Expr} {t t' : TA} (h : PA X es t) (k : ∀ σ H Q, t' σ H Q → t σ H Q) : PA X es t' := ⟨fun pos pins s σ H Q I hw => h.run pos pins s σ H Q I (k _ _ _ hw)⟩
theorem imS {st : Stmt} {t t' : TS} (h : PS X st t) (k : ∀ D σ H, t' D σ H → t D σ H) : PS X st t' := ⟨fun pins s σ H D I hw => h.run pins s σ H D I (k _ _ _ hw)⟩
theorem orE {e : Expr} {t t' : TE} (h : PE X e t) (h' : PE X e t') : PE X e (fun σ H Q => t σ H Q ∨ t' σ H Q) := ⟨fun pins s σ H Q I hw => hw.elim (h.run pins s σ H Q I) (h'.run pins s σ H Q I)⟩
end

/-! ### the tables -/
structure Tab where
  k : Nat
  cls : Nat → Value
  fname : Nat → Str
  has : Nat → Bool
  Φ : Phi
  cname : Nat → Str
  chas : Nat → Bool
def bltNames : List Str := ["len", "list", "tuple", "sorted", "range", "set", "max", "min", "sum", "all", "any", "isinstance", "int", "bool", "repr", "zip", "enumerate"]
structure FnAt (P : Program) (w : World) (K : PySem.W.Frag) (mg : Str → Option Value) (base : Heap) (T : Tab) (f : Nat) (a : Addr) (fd : FuncData) (ps : List Str) (k : Nat) (dvs : List V) (ds : List Value) (dds : List D) (φ : List D → Mem → Res D) : Prop where
  gl : mg (T.fname f) = some (.ref a)
  kp : PySem.W.keepIn K (.ref a) = true
  b : Binds K fd ps ds
  dv : Vals dvs ds
  dd : ∀ W, RepL K W dvs dds
  kk : k ≤ T.k
  ok : FnOk P w K mg base (L2.CX P w) k a fd ps (spD K T.cls φ)
  eq : ∀ l m, T.Φ f l m ≠ .stk → φ (l ++ dds) m = T.Φ f l m
structure TabOk (P : Program) (w : World) (K : PySem.W.Frag) (mg : Str → Option Value) (base : Heap) (T : Tab) : Prop where
  blt : ∀ x ∈ bltNames, mg x = none
  fn : ∀ f, T.has f = true → ∃ a fd ps k dvs ds dds φ, FnAt P w K mg base T f a fd ps k dvs ds dds φ
  exc : ∀ c, T.chas c = true → ∃ C, T.cls c = .ref C ∧ mg (T.cname c) = some (.ref C) ∧ PySem.W.keepIn K (.ref C) = true ∧ PySem.W.excIn K C [.type "ValueError", .type "Exception", .type "BaseException", .type "object"] "ValueError.__new__" = true ∧
    PySem.W.subIn K (.ref C) (.type "BaseException") = some true ∧ PySem.W.typeIn K (.ref C) = some (.type "type")
/-- where one stands in the text -/
structure Kx where
  sc : Scope
  N : List Str
  fn : Str → Bool
structure Ctx (T : Tab) (X : Cx) (k : Kx) (E : EH) : Prop where
  tab : TabOk X.prog X.w X.K X.mg X.base T
  sc : X.env.scope = k.sc
  N : X.N = k.N
  fn : X.fn = k.fn
  nd : X.N.Nodup
  calm : X.calm = true
  room : Room T.k X.A
  own : PassesOwn (model X.prog X.w) X.A X.env X.xe
  pass : ∀ σ, PassesAt (L2.CX X.prog X.w) X σ (exK T.cls E)
section
variable {T : Tab} {X : Cx} {k : Kx} {E : EH}
theorem Ctx.blt (c : Ctx T X k E) {x : Str} (h : x ∈ bltNames := by decide) : X.mg x = none := c.tab.blt x h
theorem Ctx.hu (c : Ctx T X k E) : X.A.units + 65 < cLine := room65 c.room
end
end HD
end

section
set_option Elab.async false
set_option linter.all false
set_option maxRecDepth 100000
set_option maxHeartbeats 4000000
/-! A27: sorted of a tuple of ints. -/
namespace HD
open PySem PySem.Spec PyProof.Rows L2
section
variable {prog : Program} {w : World} {A : Around} {E : Value → Shared → Prop} {s : Shared}
/-- a tuple's items, taken into a new list -/
theorem gather_tup {t : Addr} {its : List Value} {Q : List Value → Shared → Prop} (ht : s.heap.IsTuple t its.toArray) (hz : its.length ≤ sizeLine)
    (h : Q its { s with heap := (s.heap.push (seqObj "list" #[] 0)).update s.heap.objs.size (Obj.mapSeq (· ++ its.toArray)) }) : wpAny (model prog w) A (collect (.ref t)) Q E s := by
  obtain ⟨ob, ho, hcl, k, hdt⟩ := id ht
  unfold collect; refine wpAny_bind (wpAny_runValue (codeAny_builtin entry_proto_collect' ?_))
  show wpAny _ _ (newList [] >>= fun l => again (.builtin "list.__iadd__" ⟨[l, .ref t], []⟩)) _ _ s
  refine wpAny_bind (wpAny_newList (wpAny_pure ⟨Code.quiet_builtin _ (by decide +kernel), codeAny_builtin (b := Builtin.«list.__iadd__») entry_list_iadd' ?_⟩))
  show wpAny (model prog w) _ (Builtin.List.listExtendWith (.ref s.heap.objs.size) (.ref t) (.ref s.heap.objs.size)) _ _ { s with heap := s.heap.push (seqObj "list" #[] 0) }
  have hob : (s.heap.push (seqObj "list" #[] 0)).get? t = some ob := Heap.get?_push_of_some _ ho
  unfold Builtin.List.listExtendWith; refine wpAny_bind (wpAny_typeOf (T := "tuple") ⟨ob, hob, hcl⟩ ?_)
  rw [if_pos (by rw [show (Value.type "tuple" == Value.type "tuple") = true from rfl]; simp)]
  refine wpAny_bind (listItems_at hob hdt (wpAny_bind (listItems_at (n := 0) (xs := #[]) (Heap.get?_push_size _ rfl) rfl ?_)))
  rw [if_neg (c := _) (by simp)]
  refine wpAny_bind (listUpdate_at (n := 0) (xs := #[]) (Heap.get?_push_size _ rfl) rfl ?_ (Nat.zero_le _) (by show (#[] ++ its.toArray).size ≤ sizeLine + 1; simp only [Array.size_append, List.size_toArray, List.length_nil]; omega))
  refine wpAny_pure (?_ : wpAny (model prog w) A (load s.heap.objs.size >>= fun o => match o.data with
      | .seq xs _ => (pure xs.toList : Sem (List Value))
      | _ => unsupported "internal:collect") Q E { s with heap := (s.heap.push (seqObj "list" #[] 0)).update s.heap.objs.size (Obj.mapSeq (· ++ its.toArray)) })
  refine wpAny_bind (wpAny_load (get?_update_seq (Heap.get?_push_size _ rfl) (· ++ its.toArray)) ?_)
  show wpAny _ _ (pure ((#[] : Array Value) ++ its.toArray).toList : Sem (List Value)) Q E _
  rw [show ((#[] : Array Value) ++ its.toArray).toList = its by simp]; exact wpAny_pure h
theorem sorted_tupOrd {t : Addr} {its : List Value} {ltv : Value → Value → Bool} {Q : Value → Shared → Prop} (O : SrtO.Swo ltv) (ht : s.heap.IsTuple t its.toArray) (hz : its.length ≤ sizeLine)
    (hS : 2 ≤ its.length → ∀ (h₁ : Heap) (a : Addr), SrtO.SortableO prog w A.in1.in1 { s with heap := h₁ } a its ltv)
    (h : ∀ out : List Value, SrtO.Srtd ltv out → SrtO.Stb ltv out its → Q (.ref (s.heap.objs.size + 1)) { s with heap := sortedAll s.heap its out.toArray }) : wpAny (model prog w) A (call (.builtin "sorted") [.ref t]) Q E s := by
  refine Calls.call_function_entry (b := Builtin.«sorted») kind_sorted plain_sorted entry_sorted (args_sorted1 _) ?_
  unfold Builtin.«sorted»; refine wpAny_bind (m := checkCount "sorted" 1 1 _) (wpAny_pure (wpAny_bind (gather_tup ht hz (wpAny_bind (wpAny_newList ?_ hz)))))
  have z : ((s.heap.push (seqObj "list" #[] 0)).update s.heap.objs.size (Obj.mapSeq (· ++ its.toArray))).objs.size = s.heap.objs.size + 1 := by rw [Heap.size_update, size_push']
  have oL : (((s.heap.push (seqObj "list" #[] 0)).update s.heap.objs.size (Obj.mapSeq (· ++ its.toArray))).push (seqObj "list" its.toArray 0)).get? (s.heap.objs.size + 1) = some (seqObj "list" its.toArray 0) := by
    rw [← z]; exact Heap.get?_push_size (o := seqObj "list" its.toArray 0) _ rfl
  show wpAny (model prog w) A.in1 _ _ E { s with heap := ((s.heap.push (seqObj "list" #[] 0)).update s.heap.objs.size (Obj.mapSeq (· ++ its.toArray))).push (seqObj "list" its.toArray 0) }
  rw [z]; refine wpAny_bind (wpAny_holding (wpAny_call_entry slot_list_sort ⟨_, oL, rfl⟩ entry_list_sort (SrtO.list_sort_ord O oL hz (fun h2 => hS h2 _ _) fun out hs hb => ⟨_, rfl, wpAny_pure ⟨_, rfl, h out hs hb⟩⟩) (args_list_sort _)))
end
section
variable {X : Cx}
/-- sorted(xs), xs a tuple of ints -/
def rSortedTI (K : PySem.W.Frag) : List V → Hp → VK → Prop := fun vs H Q => ∃ (a : Addr) (ns : List Int), vs = [V.ref a] ∧ SqT K H a (ns.map V.int) ∧ ∀ (ms : List Int) (p : Addr), ms.Perm ns → ms.Pairwise (· ≤ ·) → H p = none → Q (.ref p) (upd H p (.lst (ms.map V.int)))
theorem cr_sortedTI : CallR X (.builtin "sorted") (rSortedTI X.K) := by
  intro pins s σ H vs us Q I r ⟨a, ns, e, hs, q⟩
  subst e
  obtain ⟨its, rv, hl, hz⟩ := I.tuple hs
  rw [Vals.ref1 r]
  have hi := rv.ints
  refine sorted_tupOrd SrtO.swo_int hl (by rw [← rv.length]; exact hz) (fun h2 h₁ a' => SrtO.ints_sortable hi h2) fun out o1 o2 => ?_
  obtain ⟨k1, k2, k3⟩ := SrtO.ints_out hi o1 o2
  obtain ⟨ep, at1⟩ := PyProof.Rows.sortedAll_at s.heap its out.toArray
  have fits : ((out.map SrtO.iv).map V.int).length ≤ sizeLine := by
    rw [List.length_map] at hz ⊢; rw [k2.length_eq]; exact hz
  refine ⟨.ref _, upd H (s.heap.objs.size + 1) (.lst ((out.map SrtO.iv).map V.int)), ?_, rfl, q _ _ k2 k3 (I.hok.fresh (Nat.le_succ _))⟩
  exact I.laid (t' := s.toks) (o := .lst ((out.map SrtO.iv).map V.int)) (fun b ob z => PyProof.Rows.sortedAll_old z) (Nat.le_succ _) ⟨fits, out, ep, vals_of_ints k1, at1⟩
end
end HD
end

section
set_option Elab.async false
set_option linter.all false
set_option maxRecDepth 100000
set_option maxHeartbeats 4000000
/-! A8: built-ins. -/
namespace HD
open PySem PySem.Spec PyProof.Rows L2
/-- a built-in called -/
def rC (K : PySem.W.Frag) (E : EH) (b : Blt) : List V → Hp → VK → Prop := fun vs H Q => ∃ W ds, W.H = H ∧ W.Ok K ∧ RepL K W vs ds ∧ Post (Rep K) K W (bltop b ds W.M) E Q
/-- isinstance(x, T) -/
def rIs (K : PySem.W.Frag) (E : EH) (b : Blt) (n : String) : List V → Hp → VK → Prop := fun vs H Q => ∃ W d v, W.H = H ∧ W.Ok K ∧ Rep K W v d ∧ vs = [v, .ty n] ∧ Post (Rep K) K W (bltop b [d] W.M) E Q
section
variable {X : Cx} {E : EH}
theorem rep1 {K : PySem.W.Frag} {W : Wd} {vs : List V} {x : D} (r : RepL K W vs [x]) : ∃ v, vs = [v] ∧ Rep K W v x := by
  cases r with
  | cons r t => cases t; exact ⟨_, rfl, r⟩
theorem rep2 {K : PySem.W.Frag} {W : Wd} {vs : List V} {x y : D} (r : RepL K W vs [x, y]) : ∃ v u, vs = [v, u] ∧ Rep K W v x ∧ Rep K W u y := by
  cases r with
  | cons r t =>
    obtain ⟨u, rfl, q⟩ := rep1 t
    exact ⟨_, _, rfl, r, q⟩
theorem scr_sq {K : PySem.W.Frag} {W : Wd} {v : V} {l : List Int} (r : Rep K W v (.scr l)) : ∃ a, v = .ref a ∧ SqL K W.H a (l.map V.int) := by
  cases r with
  | scr h =>
    refine ⟨_, rfl, ?_⟩
    rcases h with ⟨o, z⟩ | z
    · exact .inl (.inr ⟨o, z⟩)
    · rcases z with (z | ⟨o, z⟩) | z
      · cases z
      · cases z
      · exact .inr z
/-- a built-in of one value -/
theorem call1 {id : Value} {f : D → Mem → Res D}
    (h : ∀ (pins : List (Addr × Obj)) (s : Shared) (σ : L2.St) (us : List Value) (Q : VK) (W : Wd) (x : D) (v : V), Inv X pins σ W.H s → W.Ok X.K → Rep X.K W v x → Vals [v] us → Post (Rep X.K) X.K W (f x W.M) E Q →
      wpAny (model X.prog X.w) X.A (call id us) (EP X pins σ Q) X.xe s) :
    CallR X id (fun vs H Q => ∃ W ds, W.H = H ∧ W.Ok X.K ∧ RepL X.K W vs ds ∧ Post (Rep X.K) X.K W (f1 f ds W.M) E Q) := by
  intro pins s σ H vs us Q I r hh
  obtain ⟨W, ds, rfl, ok, rd, hh⟩ := hh
  unfold f1 at hh
  split at hh
  · obtain ⟨v, rfl, r1⟩ := rep1 rd
    exact h pins s σ us Q W _ v I ok r1 r hh
  · exact hh.elim
theorem call2 {id : Value} {f : D → D → Mem → Res D}
    (h : ∀ (pins : List (Addr × Obj)) (s : Shared) (σ : L2.St) (us : List Value) (Q : VK) (W : Wd) (x y : D) (v u : V), Inv X pins σ W.H s → W.Ok X.K → Rep X.K W v x → Rep X.K W u y → Vals [v, u] us → Post (Rep X.K) X.K W (f x y W.M) E Q →
      wpAny (model X.prog X.w) X.A (call id us) (EP X pins σ Q) X.xe s) :
    CallR X id (fun vs H Q => ∃ W ds, W.H = H ∧ W.Ok X.K ∧ RepL X.K W vs ds ∧ Post (Rep X.K) X.K W (f2 f ds W.M) E Q) := by
  intro pins s σ H vs us Q I r hh
  obtain ⟨W, ds, rfl, ok, rd, hh⟩ := hh
  unfold f2 at hh
  split at hh
  · obtain ⟨v, u, rfl, r1, r2⟩ := rep2 rd
    exact h pins s σ us Q W _ _ v u I ok r1 r2 r hh
  · exact hh.elim
theorem ints_at {K : PySem.W.Frag} {W : Wd} (ok : W.Ok K) {v : V} {x : D} {b : Bool} {is : List Int} (r : Rep K W v x) (h : intsAt b W.M x = some is) :
    ∃ a, v = .ref a ∧ W.H a = some (if b = true then .tup (is.map V.int) else .lst (is.map V.int)) := by
  unfold intsAt at h
  split at h
  · rename_i c l e
    split at h
    · rename_i hb
      subst hb
      obtain ⟨a, xs, rfl, q1, h1⟩ := seq_rep ok r e
      have e3 := RepL.of_ints q1 h
      subst e3
      exact ⟨a, rfl, h1⟩
    · cases h
  · cases h
theorem bls_at {K : PySem.W.Frag} {W : Wd} (ok : W.Ok K) {v : V} {x : D} {bs : List Bool} (r : Rep K W v x) (h : blsAt W.M x = some bs) : ∃ a, v = .ref a ∧ W.H a = some (.lst (bs.map V.bl)) := by
  unfold blsAt at h
  split at h
  · rename_i c l e
    split at h
    · rename_i hb
      subst hb
      obtain ⟨a, xs, rfl, q1, h1⟩ := seq_rep ok r e
      have e3 := RepL.of_bls q1 h
      subst e3
      exact ⟨a, rfl, by simpa using h1⟩
    · cases h
  · cases h
theorem len_sound : CallR X (.builtin "len") (rC X.K E .len) := call1 fun pins s σ us Q W x v I ok r1 r h => by
  unfold lenop at h
  split at h
  · rename_i b l e
    obtain ⟨a, xs, rfl, q1, h1⟩ := seq_any ok r1 e
    refine call_len_seq pins s σ W.H _ us Q I r ⟨a, xs, rfl, h1, ?_⟩
    rw [q1.length]
    exact h.here ok (.int _)
  · split at h
    · rename_i l _
      obtain ⟨a, rfl, h1⟩ := scr_sq r1
      refine call_len_seq pins s σ W.H _ us Q I r ⟨a, _, rfl, .inl h1, ?_⟩
      rw [List.length_map]
      exact h.here ok (.int _)
    · exact h.elim
theorem list_sound : CallR X (.type "list") (rC X.K E .list) := call1 fun pins s σ us Q W x v I ok r1 r h => by
  unfold listop at h
  split at h
  · rename_i b l e
    obtain ⟨a, xs, rfl, q1, h1⟩ := seq_any ok r1 e
    exact call_list_of pins s σ W.H _ us Q I r ⟨a, xs, rfl, h1, h.newLst ok q1⟩
  · exact h.elim
theorem tuple_sound : CallR X (.type "tuple") (rC X.K E .tuple) := call1 fun pins s σ us Q W x v I ok r1 r h => by
  unfold tupleop at h
  split at h
  · rename_i b l e
    obtain ⟨a, xs, rfl, q1, h1⟩ := seq_rep ok r1 e
    cases b with
    | true => exact call_tuple_of pins s σ W.H _ us Q I r ⟨a, xs, rfl, .inr ⟨SqT.of (by simpa using h1), h.here ok (.tup (by simpa using h1) q1)⟩⟩
    | false => exact call_tuple_of pins s σ W.H _ us Q I r ⟨a, xs, rfl, .inl ⟨SqL.of (by simpa using h1), h.newTup ok q1⟩⟩
  · exact h.elim
theorem keyInts_keys {α : Type} : ∀ {l : List (Key × α)} {is : List Int}, keyInts l = some is → l.map (·.1) = is.map Sum.inl
  | [], _, h => by cases h; rfl
  | (.inl i, _) :: r, _, h => by
    obtain ⟨js, e1, e2⟩ := Option.map_eq_some_iff.mp h
    subst e2
    rw [List.map_cons, keyInts_keys e1]; rfl
  | (.inr _, _) :: _, _, h => by cases h
theorem repk_keys {K : PySem.W.Frag} {W : Wd} : ∀ {xs : List (Key × V)} {l : List (Key × D)}, RepK K W xs l → xs.map (·.1) = l.map (·.1)
  | _, _, .nil => rfl
  | _, _, .cons _ t => by rw [List.map_cons, List.map_cons, repk_keys t]
theorem sorted_sound (hc : X.calm = true) : CallR X (.builtin "sorted") (rC X.K E .sorted) := call1 fun pins s σ us Q W x v I ok r1 r h => by
  unfold sortedop at h
  split at h
  · rename_i is e
    obtain ⟨a, rfl, h1⟩ := ints_at ok r1 e
    simp only [Bool.false_eq_true, if_false] at h1
    refine cr_sortedI pins s σ W.H _ us Q I r ⟨a, is, rfl, SqL.of h1, fun ns' p hp hw hn => ?_⟩
    rw [sortI_unique hp hw]
    exact h.newLst ok (RepL.ints _) p hn
  · split at h
    · rename_i is e
      obtain ⟨a, rfl, h1⟩ := ints_at ok r1 e
      simp only [if_true] at h1
      refine cr_sortedTI pins s σ W.H _ us Q I r ⟨a, is, rfl, SqT.of h1, fun ns' p hp hw hn => ?_⟩
      rw [sortI_unique hp hw]
      exact h.newLst ok (RepL.ints _) p hn
    · split at h
      · split at h
        · rename_i is e
          split at h
          · rename_i h64
            cases r1 with
            | @dk a xs _ g1 g2 =>
            refine call_sortedDI hc pins s σ W.H _ us Q I r ⟨a, xs, is, rfl, ?_, (repk_keys g2).trans (keyInts_keys e), h64, fun ns' p hp hw hn => ?_⟩
            · rcases g1.1 with z | ⟨_, o, z⟩
              · exact .inl z
              · exact .inr ⟨o, z⟩
            · rw [sortI_unique hp hw]
              exact h.newLst ok (RepL.ints _) p hn
          · exact h.elim
        · exact h.elim
      · exact h.elim
theorem max2_sound (hc : X.calm = true) : CallR X (.builtin "max") (rC X.K E .max2) := call2 fun pins s σ us Q W x y v u I ok r1 r2 r h => by
  unfold max2op at h
  split at h
  · cases r1
    cases r2
    exact call_max2 hc pins s σ W.H _ us Q I r ⟨_, _, rfl, h.here ok (.int _)⟩
  · exact h.elim
theorem min2_sound (hc : X.calm = true) : CallR X (.builtin "min") (rC X.K E .min2) := call2 fun pins s σ us Q W x y v u I ok r1 r2 r h => by
  unfold min2op at h
  split at h
  · cases r1
    cases r2
    exact call_min2 hc pins s σ W.H _ us Q I r ⟨_, _, rfl, h.here ok (.int _)⟩
  · exact h.elim
theorem maxl_sound (hc : X.calm = true) : CallR X (.builtin "max") (rC X.K E .maxl) := call1 fun pins s σ us Q W x v I ok r1 r h => by
  unfold intsop at h
  split at h
  · rename_i is e
    obtain ⟨a, rfl, h1⟩ := ints_at ok r1 e
    by_cases hl : 0 < is.length
    · simp only [if_pos hl] at h
      refine cr_max hc pins s σ W.H _ us Q I r ⟨a, is, rfl, SqL.of (by simpa using h1), hl, fun m hm hmax => ?_⟩
      obtain ⟨k1, k2⟩ := maxI_mem is hl
      have e : m = maxI is := by have := hmax _ k1; have := k2 _ hm; omega
      rw [e]
      exact Post.here h ok (.int _)
    · simp only [if_neg hl] at h
      exact h.elim
  · exact h.elim
theorem minl_sound (hc : X.calm = true) : CallR X (.builtin "min") (rC X.K E .minl) := call1 fun pins s σ us Q W x v I ok r1 r h => by
  unfold intsop at h
  split at h
  · rename_i is e
    obtain ⟨a, rfl, h1⟩ := ints_at ok r1 e
    by_cases hl : 0 < is.length
    · simp only [if_pos hl] at h
      refine cr_min hc pins s σ W.H _ us Q I r ⟨a, is, rfl, SqL.of (by simpa using h1), hl, fun m hm hmin => ?_⟩
      obtain ⟨k1, k2⟩ := minI_mem is hl
      have e : m = minI is := by have := hmin _ k1; have := k2 _ hm; omega
      rw [e]
      exact Post.here h ok (.int _)
    · simp only [if_neg hl] at h
      exact h.elim
  · exact h.elim
theorem suml_sound (hc : X.calm = true) : CallR X (.builtin "sum") (rC X.K E .suml) := call1 fun pins s σ us Q W x v I ok r1 r h => by
  unfold intsop at h
  split at h
  · rename_i is e
    obtain ⟨a, rfl, h1⟩ := ints_at ok r1 e
    exact cr_sum hc pins s σ W.H _ us Q I r ⟨a, is, rfl, SqL.of (by simpa using h1), Post.here h ok (.int _)⟩
  · exact h.elim
theorem alll_sound (hc : X.calm = true) : CallR X (.builtin "all") (rC X.K E .alll) := call1 fun pins s σ us Q W x v I ok r1 r h => by
  unfold blsop at h
  split at h
  · rename_i is e
    obtain ⟨a, rfl, h1⟩ := bls_at ok r1 e
    exact cr_all hc pins s σ W.H _ us Q I r ⟨a, is, rfl, SqL.of h1, h.here ok (.bl _)⟩
  · exact h.elim
theorem anyl_sound (hc : X.calm = true) : CallR X (.builtin "any") (rC X.K E .anyl) := call1 fun pins s σ us Q W x v I ok r1 r h => by
  unfold blsop at h
  split at h
  · rename_i is e
    obtain ⟨a, rfl, h1⟩ := bls_at ok r1 e
    exact cr_any hc pins s σ W.H _ us Q I r ⟨a, is, rfl, SqL.of h1, h.here ok (.bl _)⟩
  · exact h.elim
theorem intOf_sound : CallR X (.type "int") (rC X.K E .intOf) := call1 fun pins s σ us Q W x v I ok r1 r h => by
  unfold intop at h
  split at h
  · cases r1
    exact call_int1 pins s σ W.H _ us Q I r (.inl ⟨_, rfl, h.here ok (.int _)⟩)
  · cases r1
    exact call_int1 pins s σ W.H _ us Q I r (.inr ⟨_, rfl, h.here ok (.int _)⟩)
  · exact h.elim
/-- a known value's type -/
theorem ty_rep {K : PySem.W.Frag} {W : Wd} {v : V} {x : D} (r : Rep K W v x) (h : known x = true) : ∃ n : String, TyX K W.H v (.type n) ∧
    (isIntD x = true → n = "int" ∨ n = "bool") ∧ (isIntD x = false → n = "NoneType" ∨ n = "str" ∨ n = "tuple" ∨ n = "list") ∧ (isBlD x = decide (n = "bool")) ∧ (isTupD x = decide (n = "tuple")) := by
  cases r with
  | non => exact ⟨"NoneType", .base .non, by decide, by decide, by decide, by decide⟩
  | bl b => exact ⟨"bool", .base (.bl b), fun _ => .inr rfl, by simp [isIntD], by simp [isBlD], by simp [isTupD]⟩
  | int b => exact ⟨"int", .base (.int b), fun _ => .inl rfl, by simp [isIntD], by simp [isBlD], by simp [isTupD]⟩
  | str b => exact ⟨"str", .base (.str b), by simp [isIntD], by simp [isIntD], by simp [isBlD], by simp [isTupD]⟩
  | tup h1 h2 => exact ⟨"tuple", .base (.tup h1), by simp [isIntD], by simp [isIntD], by simp [isBlD], by simp [isTupD]⟩
  | @lst a xs ds h1 h2 =>
    refine ⟨"list", .base (.lst (xs := xs) ?_), by simp [isIntD], by simp [isIntD], by simp [isBlD], by simp [isTupD]⟩
    · rcases h1.1 with z | ⟨z, _⟩
      · exact z
      · exact absurd z (by simp [dic])
  | _ => simp [known] at h
theorem is_sound (b : Blt) (n : String) (f : D → Bool) (hf : ∀ ds m, bltop b ds m = f1 (isop f) ds m) (hn : ∀ (K : PySem.W.Frag) (x : D) (k : String), known x = true → (isIntD x = true → k = "int" ∨ k = "bool") → (isIntD x = false → k = "NoneType" ∨ k = "str" ∨ k = "tuple" ∨ k = "list") → (isBlD x = decide (k = "bool")) → (isTupD x = decide (k = "tuple")) →
    PySem.W.kitOne K (.type k) (.type n) = some (f x)) : CallR X (.builtin "isinstance") (rIs X.K E b n) := by
  intro pins s σ H vs us Q I r h
  obtain ⟨W, d, v, rfl, ok, rd, rfl, h⟩ := h
  rw [hf] at h
  have h' : Post (Rep X.K) X.K W (isop f d W.M) E Q := h
  unfold isop at h'
  split at h'
  · rename_i hk
    obtain ⟨k, t1, t2, t3, t4, t5⟩ := ty_rep rd hk
    exact call_isi pins s σ W.H _ us Q I r ⟨v, .ty n, .type k, .type n, f d, rfl, .ty n, t1, hn X.K d k hk t2 t3 t4 t5, h'.here ok (.bl _)⟩
  · exact h'.elim
theorem isInt_sound : CallR X (.builtin "isinstance") (rIs X.K E .isInt "int") := is_sound .isInt "int" isIntD (fun _ _ => rfl) fun K x k _ h1 h2 _ _ => by
  cases e : isIntD x with
  | true => rcases h1 e with rfl | rfl <;> exact kit_ty (by decide +kernel)
  | false => rcases h2 e with rfl | rfl | rfl | rfl <;> exact kit_ty (by decide +kernel)
theorem isBool_sound : CallR X (.builtin "isinstance") (rIs X.K E .isBool "bool") := is_sound .isBool "bool" isBlD (fun _ _ => rfl) fun K x k _ h1 h2 h3 _ => by
  rw [h3]
  cases e : isIntD x with
  | true => rcases h1 e with rfl | rfl <;> exact kit_ty (by decide +kernel)
  | false => rcases h2 e with rfl | rfl | rfl | rfl <;> exact kit_ty (by decide +kernel)
theorem isTuple_sound : CallR X (.builtin "isinstance") (rIs X.K E .isTuple "tuple") := is_sound .isTuple "tuple" isTupD (fun _ _ => rfl) fun K x k _ h1 h2 _ h3 => by
  rw [h3]
  cases e : isIntD x with
  | true => rcases h1 e with rfl | rfl <;> exact kit_ty (by decide +kernel)
  | false => rcases h2 e with rfl | rfl | rfl | rfl <;> exact kit_ty (by decide +kernel)
end
end HD
end

section
set_option Elab.async false
set_option linter.all false
set_option maxRecDepth 100000
set_option maxHeartbeats 4000000
/-! A9: expressions, construct by construct. -/
namespace HD
open PySem PySem.Spec PyProof.Rows L2
section
variable {T : Tab} {X : Cx} {k : Kx} {E : EH} {a b c x y z : Expr} {es : List Expr} {fa fb fc : Env → Mem → Res D} {fl : Env → Mem → Res (List D)} {pos : Pos}
theorem Ctx.gl (cx : Ctx T X k E) {n : Str} (h : k.sc.names.lookup n = some .globalImplicit) : Gl X n := by
  show X.env.scope.names.lookup n = _
  rw [cx.sc]; exact h
def visB (sc : Scope) (x : Str) : Bool := decide (sc.names.lookup x = some .local) || decide (sc.names.lookup x = some .cell) || decide (sc.names.lookup x = some .free)
theorem vis_of (cx : Ctx T X k E) {n : Str} (h : visB k.sc n = true) : Vis X.env.scope n := by
  rw [cx.sc]
  unfold visB at h
  simp only [Bool.or_eq_true, decide_eq_true_eq] at h
  rcases h with (h | h) | h
  · exact .inl h
  · exact .inr (.inl h)
  · exact .inr (.inr h)
def nmB (x : Str) : Bool := !(x == ("__debug__" : Str)) && !(x == ("__classdict__" : Str))
theorem nm_of {x : Str} (h : nmB x = true) : (x == ("__debug__" : Str)) = false ∧ (x == ("__classdict__" : Str)) = false := by
  unfold nmB at h
  simpa using h
theorem s_var (cx : Ctx T X k E) {i : Nat} {n : Str} (h1 : k.N[i]? = some n) (h2 : visB k.sc n = true) (h3 : nmB n = true) : PE X (.Name n pos) (den X.K E (ev T.Φ (.var i))) := by
  refine imE (pe_var (i := i) (by rw [cx.N]; exact h1) (vis_of cx h2) (nm_of h3).1 (nm_of h3).2) fun σ H Q hq => ?_
  obtain ⟨W, ρ, rfl, ok, er, h⟩ := hq
  unfold ev at h
  split at h
  · rename_i d e
    obtain ⟨v, e1, r⟩ := er.at_ i d e
    exact ⟨v, e1, h.here ok r⟩
  · exact h.elim
theorem s_const {v : V} {d : D} (h : PE X x (tC v)) (r : ∀ K W, Rep K W v d) (he : ∀ ρ m, fa ρ m = .ok d m) : PE X x (den X.K E fa) := by
  refine imE h fun σ H Q hq => ?_
  obtain ⟨W, ρ, rfl, ok, er, h⟩ := hq
  rw [he] at h
  exact h.here ok (r _ _)
theorem s_nil : PA X [] (denL X.K E (evL T.Φ [])) := by
  refine imA pa_nil fun σ H Q hq => ?_
  obtain ⟨W, ρ, rfl, ok, er, h⟩ := hq
  exact Post.here h ok .nil
theorem star_cons {e : Expr} {es : List Expr} {env : PySem.Env} (h : PySem.W.isStarred e = false) : starEach (e :: es) env = (false, eval e env) :: starEach es env := by
  cases e <;> first | rfl | (simp [PySem.W.isStarred] at h)
theorem s_cons {ce : C} {ces : List C} (hs : PySem.W.isStarred x = false) (h1 : PE X x (den X.K E (ev T.Φ ce))) (h2 : PA X es (denL X.K E (evL T.Φ ces))) : PA X (x :: es) (denL X.K E (evL T.Φ (ce :: ces))) := by
  refine imA (pa_cons h1 h2 (star_cons hs)) fun σ H Q hq => ?_
  obtain ⟨W, ρ, rfl, ok, er, h⟩ := hq
  unfold evL at h
  exact ⟨W, ρ, rfl, ok, er, Post.bind h fun v W1 d l1 ok1 r1 h1 => ⟨W1, ρ, rfl, ok1, er.up l1, Post.bind h1 fun vs W2 ds l2 ok2 r2 h2 => Post.here h2 ok2 (.cons (r1.up l2) r2)⟩⟩
theorem s_tup {n : Nat} (h : PA X es (denL X.K E fl)) : PE X (.Tuple es n pos) (den X.K E fun ρ m => (fl ρ m).bind fun ds m1 => if ds.length ≤ LIM then .ok (.tup ds) m1 else .stk) := by
  refine imE (pe_tup h) fun σ H Q hq => ?_
  obtain ⟨W, ρ, rfl, ok, er, h⟩ := hq
  refine ⟨W, ρ, rfl, ok, er, Post.bind h fun vs W1 ds l1 ok1 r1 h1 => ?_⟩
  split at h1
  · rename_i hl
    exact ⟨by rw [r1.length, ← lim_line]; exact hl, h1.newTup ok1 r1⟩
  · exact h1.elim
theorem s_lst (h : PA X es (denL X.K E fl)) : PE X (.List es pos) (den X.K E fun ρ m => (fl ρ m).bind fun ds m1 => if ds.length ≤ LIM then .ok (.lst ds) m1 else .stk) := by
  refine imE (pe_lst h) fun σ H Q hq => ?_
  obtain ⟨W, ρ, rfl, ok, er, h⟩ := hq
  refine ⟨W, ρ, rfl, ok, er, Post.bind h fun vs W1 ds l1 ok1 r1 h1 => ?_⟩
  split at h1
  · rename_i hl
    exact ⟨by rw [r1.length, ← lim_line]; exact hl, h1.newLst ok1 r1⟩
  · exact h1.elim
/-- a new list handed to the store -/
theorem Post.own {K : PySem.W.Frag} {W : Wd} {ds : List D} {xs : List V} {Q : VK} (h : Post (Rep K) K W (.ok (.ref W.M.length) (W.M ++ [.lst ds])) E Q) (ok : W.Ok K) (r : RepL K W xs ds) : ∀ p, W.H p = none → Q (.ref p) (upd W.H p (.lst xs)) := fun p hp => by
  have hat := Wd.own_at W p (.lst xs) (.lst ds)
  have hm : MobOk K (W.own p (.lst xs) (.lst ds)) W.ads.length (.lst ds) := .lst hat upd_same (r.up (Wd.own_sub ok hp _ _))
  refine h (.ref p) (W.own p (.lst xs) (.lst ds)) (Wd.own_sub ok hp _ _) (Wd.own_ok ok hp _ _ hm) rfl (.ref ?_)
  rw [← ok.len]; exact hat
theorem s_lstOwn (h : PA X es (denL X.K E fl)) : PE X (.List es pos) (den X.K E fun ρ m => ((fl ρ m).bind fun ds m1 => if ds.length ≤ LIM then .ok (.lst ds) m1 else .stk).bind ownop) := by
  refine imE (pe_lst h) fun σ H Q hq => ?_
  obtain ⟨W, ρ, rfl, ok, er, h⟩ := hq
  refine ⟨W, ρ, rfl, ok, er, ?_⟩
  dsimp only at h
  have h' : Post (Rep X.K) X.K W ((fl ρ W.M).bind fun ds m1 => if ds.length ≤ LIM then .ok (.ref m1.length) (m1 ++ [.lst ds]) else .stk) E Q := by
    cases e : fl ρ W.M with
    | ok ds m1 =>
      rw [e] at h
      simp only [Res.bind_ok] at h ⊢
      split at h
      · rename_i hl; rw [if_pos hl]; exact h
      · exact h.elim
    | exc c m1 => rw [e] at h; exact h
    | stk => rw [e] at h; exact h
  refine Post.bind h' fun vs W1 ds l1 ok1 r1 h1 => ?_
  split at h1
  · rename_i hl
    exact ⟨by rw [r1.length, ← lim_line]; exact hl, Post.own h1 ok1 r1⟩
  · exact h1.elim
theorem s_newk : PE X (.Dict [] [] pos) (den X.K E (ev T.Φ .newk)) := by
  refine imE pe_dnewK fun σ H Q hq => ?_
  obtain ⟨W, ρ, rfl, ok, er, h⟩ := hq
  intro p hp
  have hat := Wd.own_at W p (.dK []) (.dk [])
  have hm : MobOk X.K (W.own p (.dK []) (.dk [])) W.ads.length (.dk []) := .dk hat upd_same .nil
  refine h (.ref p) (W.own p (.dK []) (.dk [])) (Wd.own_sub ok hp _ _) (Wd.own_ok ok hp _ _ hm) rfl (.ref ?_)
  rw [← ok.len]; exact hat
theorem s_newkv {i j : Int} {n1 n2 : Nat} {p1 p2 : Pos} : PE X (.Dict [some (.Constant (.int i) n1 p1)] [.Constant (.int j) n2 p2] pos) (den X.K E (ev T.Φ (.newkv i j))) := by
  refine imE (pe_disp (pps_cons pe_int pe_int pps_nil) rfl rfl (by simp) (by simp)) fun σ H Q hq => ?_
  obtain ⟨W, ρ, rfl, ok, er, h⟩ := hq
  intro p hp
  refine ⟨upd_same, [(.inl i, .int j)], rfl, by simp, ?_⟩
  have e : upd (upd W.H p (.dK [])) p (.dK (mergeK [] [((.inl i : Key), V.int j)])) = upd W.H p (.dK [(.inl i, .int j)]) := by
    funext a
    by_cases z : a = p
    · subst z; rw [upd_same, upd_same]; rfl
    · rw [upd_ne z, upd_ne z, upd_ne z]
  rw [e]
  have hat := Wd.own_at W p (.dK [(.inl i, .int j)]) (.dk [(.inl i, .int j)])
  have hm : MobOk X.K (W.own p (.dK [(.inl i, .int j)]) (.dk [(.inl i, .int j)])) W.ads.length (.dk [(.inl i, .int j)]) := .dk hat upd_same (.cons (.int j) .nil)
  unfold ev at h
  refine h (.ref p) (W.own p (.dK [(.inl i, .int j)]) (.dk [(.inl i, .int j)])) (Wd.own_sub ok hp _ _) (Wd.own_ok ok hp _ _ hm) rfl (.ref ?_)
  rw [← ok.len]; exact hat
theorem s_newt : PE X (.Dict [] [] pos) (den X.K E (ev T.Φ .newt)) := by
  refine imE pe_dnewT fun σ H Q hq => ?_
  obtain ⟨W, ρ, rfl, ok, er, h⟩ := hq
  intro p hp
  have hat := Wd.own_at W p (.dT []) (.dt [])
  have hm : MobOk X.K (W.own p (.dT []) (.dt [])) W.ads.length (.dt []) := .dt hat upd_same .nil
  refine h (.ref p) (W.own p (.dT []) (.dt [])) (Wd.own_sub ok hp _ _) (Wd.own_ok ok hp _ _ hm) rfl (.ref ?_)
  rw [← ok.len]; exact hat
theorem two_imp {r : D → D → Mem → Res D} : ∀ σ H Q, den X.K E (fun ρ m => (fa ρ m).bind fun x m1 => (fb ρ m1).bind fun y m2 => r x y m2) σ H Q → tOp (rB X.K E r) (den X.K E fa) (den X.K E fb) σ H Q := fun σ H Q hq => by
  obtain ⟨W, ρ, rfl, ok, er, h⟩ := hq
  exact ⟨W, ρ, rfl, ok, er, Post.bind h fun v W1 d l1 ok1 r1 h1 => ⟨W1, ρ, rfl, ok1, er.up l1, Post.bind h1 fun u W2 e l2 ok2 r2 h2 => ⟨W2, d, e, rfl, ok2, r1.up l2, r2, h2⟩⟩⟩
theorem s_bin (o : Bop) (h1 : PE X x (den X.K E fa)) (h2 : PE X y (den X.K E fb)) : PE X (.BinOp x (opOf o) y pos) (den X.K E fun ρ m => (fa ρ m).bind fun x m1 => (fb ρ m1).bind fun y m2 => binop o x y m2) :=
  imE (pe_op (binop_sound o) h1 h2) two_imp
theorem s_neg (h : PE X x (den X.K E fa)) : PE X (.UnaryOp .USub x pos) (den X.K E fun ρ m => (fa ρ m).bind fun x m1 => match x with | .int i => .ok (.int (-i)) m1 | _ => .stk) := by
  refine imE (pe_un un_neg h) fun σ H Q hq => ?_
  obtain ⟨W, ρ, rfl, ok, er, h⟩ := hq
  refine ⟨W, ρ, rfl, ok, er, Post.bind h fun v W1 d l1 ok1 r1 h1 => ?_⟩
  split at h1
  · cases r1
    exact ⟨_, rfl, h1.here ok1 (.int _)⟩
  · exact h1.elim
theorem s_cmp (cx : Ctx T X k E) (o : Cop) (hm : behindInMarks (copOf o) y = false) (h1 : PE X x (den X.K E fa)) (h2 : PE X y (den X.K E fb)) :
    PE X (.Compare x [copOf o] [y] pos) (den X.K E fun ρ m => (fa ρ m).bind fun x m1 => (fb ρ m1).bind fun y m2 => cmpop o x y m2) :=
  imE (pe_cmpR (cmp_sound cx.hu o) h1 h2 hm) two_imp
/-- a value's reading as a test's -/
theorem test_imp {f : Env → Mem → Res D} {t : TE} (ht : ∀ σ H Q, den X.K E f σ H Q → t σ H Q) : ∀ σ H Q, denT X.K E (fun ρ m => (f ρ m).bind blOf) σ H Q → tTest t σ H Q := fun σ H Q hq => by
  obtain ⟨W, ρ, rfl, ok, er, h⟩ := hq
  refine ht _ _ _ ⟨W, ρ, rfl, ok, er, Post.bind h fun v W1 d l1 ok1 r1 h1 => ?_⟩
  unfold blOf at h1
  split at h1
  · cases r1
    exact ⟨_, rfl, Post.here h1 ok1 rfl⟩
  · exact h1.elim
theorem s_cmpT (cx : Ctx T X k E) (o : Cop) (hm : behindInMarks (copOf o) y = false) (h1 : PE X x (den X.K E fa)) (h2 : PE X y (den X.K E fb)) :
    PT X (.Compare x [copOf o] [y] pos) (denT X.K E fun ρ m => ((fa ρ m).bind fun x m1 => (fb ρ m1).bind fun y m2 => cmpop o x y m2).bind blOf) :=
  imT (pt_cmpR (cmp_sound cx.hu o) h1 h2 hm) (test_imp two_imp)
theorem chain_imp {o p : Cop} : ∀ σ H Q, den X.K E (fun ρ m => (fa ρ m).bind fun x m1 => (fb ρ m1).bind fun y m2 => (cmpop o x y m2).bind fun k m3 => (blOf k m3).bind fun k m3 =>
      if k = true then (fc ρ m3).bind fun z m4 => cmpop p y z m4 else .ok (.bl false) m3) σ H Q → tChain (rB X.K E (cmpop o)) (rB X.K E (cmpop p)) (den X.K E fa) (den X.K E fb) (den X.K E fc) σ H Q := fun σ H Q hq => by
  obtain ⟨W, ρ, rfl, ok, er, h⟩ := hq
  refine ⟨W, ρ, rfl, ok, er, Post.bind h fun v W1 d l1 ok1 r1 h1 => ⟨W1, ρ, rfl, ok1, er.up l1, Post.bind h1 fun u W2 e l2 ok2 r2 h2 => ⟨W2, d, e, rfl, ok2, r1.up l2, r2, Post.bind h2 fun kv W3 kd l3 ok3 r3 h3 => ?_⟩⟩⟩
  unfold blOf at h3
  split at h3
  · rename_i kb
    cases r3
    refine ⟨kb, rfl, ?_⟩
    simp only [Res.bind_ok] at h3
    cases kb with
    | true =>
      simp only [if_true] at h3 ⊢
      exact ⟨W3, ρ, rfl, ok3, ((er.up l1).up l2).up l3, Post.bind h3 fun w W4 z l4 ok4 r4 h4 => ⟨W4, e, z, rfl, ok4, (r2.up l3).up l4, r4, h4⟩⟩
    | false =>
      simp only [Bool.false_eq_true, if_false] at h3 ⊢
      exact h3.here ok3 (.bl _)
  · exact h3.elim
theorem s_chain (cx : Ctx T X k E) (o p : Cop) (hm : lastMarks [copOf o, copOf p] [y, z] = false) (h1 : PE X x (den X.K E fa)) (h2 : PE X y (den X.K E fb)) (h3 : PE X z (den X.K E fc)) :
    PE X (.Compare x [copOf o, copOf p] [y, z] pos) (den X.K E fun ρ m => (fa ρ m).bind fun x m1 => (fb ρ m1).bind fun y m2 => (cmpop o x y m2).bind fun k m3 => (blOf k m3).bind fun k m3 =>
      if k = true then (fc ρ m3).bind fun z m4 => cmpop p y z m4 else .ok (.bl false) m3) :=
  imE (pe_chain (cmp_sound cx.hu o) (cmp_sound cx.hu p) h1 h2 h3 hm) chain_imp
theorem s_chainT (cx : Ctx T X k E) (o p : Cop) (hm : lastMarks [copOf o, copOf p] [y, z] = false) (h1 : PE X x (den X.K E fa)) (h2 : PE X y (den X.K E fb)) (h3 : PE X z (den X.K E fc)) :
    PT X (.Compare x [copOf o, copOf p] [y, z] pos) (denT X.K E fun ρ m => ((fa ρ m).bind fun x m1 => (fb ρ m1).bind fun y m2 => (cmpop o x y m2).bind fun k m3 => (blOf k m3).bind fun k m3 =>
      if k = true then (fc ρ m3).bind fun z m4 => cmpop p y z m4 else .ok (.bl false) m3).bind blOf) :=
  imT (pt_chain (cmp_sound cx.hu o) (cmp_sound cx.hu p) h1 h2 h3 hm) (test_imp chain_imp)
/-- tests of any other form -/
theorem s_plainT (h : PE X x (den X.K E fa)) (he : ∀ whole, isTrue x X.env whole = (do let v ← whole; standAt x.pos; holding [v] (truthy v))) : PT X x (denT X.K E fun ρ m => (fa ρ m).bind blOf) := by
  refine imT (pt_val h he) fun σ H Q hq => ?_
  have := test_imp (X := X) (E := E) (f := fa) (t := den X.K E fa) (fun _ _ _ h => h) σ H Q hq
  exact this
theorem not_eq {r : Res D} : (((r.bind fun x m1 => (blOf x m1).bind fun b m1 => Res.ok (D.bl (!b)) m1)).bind blOf : Res Bool) = (r.bind blOf).bind fun b m1 => .ok (!b) m1 := by
  cases r with
  | ok a m =>
    simp only [Res.bind_ok]
    unfold blOf
    cases a <;> rfl
  | exc c m => rfl
  | stk => rfl
theorem s_not (h : PE X x (den X.K E fa)) : PE X (.UnaryOp .Not x pos) (den X.K E fun ρ m => (fa ρ m).bind fun x m1 => (blOf x m1).bind fun b m1 => .ok (.bl (!b)) m1) := by
  refine imE (pe_not h) fun σ H Q hq => ?_
  obtain ⟨W, ρ, rfl, ok, er, h⟩ := hq
  refine ⟨W, ρ, rfl, ok, er, Post.bind h fun v W1 d l1 ok1 r1 h1 => ?_⟩
  unfold blOf at h1
  split at h1
  · cases r1
    exact ⟨_, rfl, Post.here h1 ok1 (.bl _)⟩
  · exact h1.elim
theorem s_notT (h : PT X x (denT X.K E fun ρ m => (fa ρ m).bind blOf)) : PT X (.UnaryOp .Not x pos) (denT X.K E fun ρ m => ((fa ρ m).bind fun x m1 => (blOf x m1).bind fun b m1 => .ok (.bl (!b)) m1).bind blOf) := by
  refine imT (pt_not h) fun σ H Q hq => ?_
  obtain ⟨W, ρ, rfl, ok, er, h⟩ := hq
  simp only [not_eq] at h
  exact ⟨W, ρ, rfl, ok, er, Post.bind h fun b W1 a l1 ok1 r1 h1 => by subst r1; exact Post.here h1 ok1 rfl⟩
theorem s_ifx {ft : Env → Mem → Res D} (ht : PT X c (denT X.K E fun ρ m => (ft ρ m).bind blOf)) (h1 : PE X x (den X.K E fa)) (h2 : PE X y (den X.K E fb)) :
    PE X (.IfExp c x y pos) (den X.K E fun ρ m => (ft ρ m).bind fun x m1 => (blOf x m1).bind fun k m1 => if k = true then fa ρ m1 else fb ρ m1) := by
  refine imE (pe_ifExp ht h1 h2) fun σ H Q hq => ?_
  obtain ⟨W, ρ, rfl, ok, er, h⟩ := hq
  have e : ((ft ρ W.M).bind fun x m1 => (blOf x m1).bind fun k m1 => if k = true then fa ρ m1 else fb ρ m1) = ((ft ρ W.M).bind blOf).bind fun k m1 => if k = true then fa ρ m1 else fb ρ m1 := by
    cases ft ρ W.M <;> rfl
  dsimp only at h
  rw [e] at h
  refine ⟨W, ρ, rfl, ok, er, Post.bind h fun b W1 a l1 ok1 r1 h1 => ?_⟩
  subst r1
  cases b with
  | true => exact ⟨W1, ρ, rfl, ok1, er.up l1, h1⟩
  | false => exact ⟨W1, ρ, rfl, ok1, er.up l1, h1⟩
/-! and, or -/
theorem s_bop1 {op : BoolOp} {isAnd : Bool} {ce : C} (h : PE X x (den X.K E (ev T.Φ ce))) : PE X (.BoolOp op [x] pos) (den X.K E (evB T.Φ isAnd [ce])) := by
  refine imE (pe_one h) fun σ H Q hq => ?_
  obtain ⟨W, ρ, rfl, ok, er, h⟩ := hq
  unfold evB at h
  exact ⟨W, ρ, rfl, ok, er, h⟩
theorem s_and {ce ce2 : C} {ces : List C} (h : PE X x (den X.K E (ev T.Φ ce))) (h2 : PE X (.BoolOp .And (y :: es) pos) (den X.K E (evB T.Φ true (ce2 :: ces)))) : PE X (.BoolOp .And (x :: y :: es) pos) (den X.K E (evB T.Φ true (ce :: ce2 :: ces))) := by
  refine imE (pe_and h h2) fun σ H Q hq => ?_
  obtain ⟨W, ρ, rfl, ok, er, h⟩ := hq
  unfold evB at h
  refine ⟨W, ρ, rfl, ok, er, Post.bind h fun v W1 d l1 ok1 r1 h1 => ?_⟩
  unfold blOf at h1
  split at h1
  · rename_i b
    cases r1
    refine ⟨b, rfl, ?_⟩
    simp only [Res.bind_ok] at h1
    cases b with
    | true => exact ⟨W1, ρ, rfl, ok1, er.up l1, h1⟩
    | false => exact Post.here h1 ok1 (.bl _)
  · exact h1.elim
theorem s_or {ce ce2 : C} {ces : List C} (h : PE X x (den X.K E (ev T.Φ ce))) (h2 : PE X (.BoolOp .Or (y :: es) pos) (den X.K E (evB T.Φ false (ce2 :: ces)))) : PE X (.BoolOp .Or (x :: y :: es) pos) (den X.K E (evB T.Φ false (ce :: ce2 :: ces))) := by
  refine imE (pe_or h h2) fun σ H Q hq => ?_
  obtain ⟨W, ρ, rfl, ok, er, h⟩ := hq
  unfold evB at h
  refine ⟨W, ρ, rfl, ok, er, Post.bind h fun v W1 d l1 ok1 r1 h1 => ?_⟩
  unfold blOf at h1
  split at h1
  · rename_i b
    cases r1
    refine ⟨b, rfl, ?_⟩
    simp only [Res.bind_ok] at h1
    cases b with
    | false => exact ⟨W1, ρ, rfl, ok1, er.up l1, h1⟩
    | true => exact Post.here h1 ok1 (.bl _)
  · exact h1.elim
theorem bop_eq {isAnd : Bool} {ce ce2 : C} {ces : List C} {ρ : Env} {m : Mem} : ((evB T.Φ isAnd (ce :: ce2 :: ces) ρ m).bind blOf : Res Bool) = ((ev T.Φ ce ρ m).bind blOf).bind fun b m1 => if b = isAnd then (evB T.Φ isAnd (ce2 :: ces) ρ m1).bind blOf else .ok b m1 := by
  conv => lhs; unfold evB
  cases ev T.Φ ce ρ m with
  | ok a m1 =>
    simp only [Res.bind_ok]
    cases a with
    | bl b =>
      simp only [blOf, Res.bind_ok]
      split <;> rfl
    | _ => rfl
  | exc c m1 => rfl
  | stk => rfl
theorem s_andT1 {ce : C} {isAnd : Bool} (h : PT X x (denT X.K E fun ρ m => (ev T.Φ ce ρ m).bind blOf)) : PW X (.BoolOp .And [x] pos) (denT X.K E fun ρ m => (evB T.Φ isAnd [ce] ρ m).bind blOf) := by
  refine imW (pw_and1 h) fun σ H Q hq => ?_
  obtain ⟨W, ρ, rfl, ok, er, h⟩ := hq
  unfold evB at h
  exact ⟨W, ρ, rfl, ok, er, h⟩
theorem s_orT1 {ce : C} {isAnd : Bool} (h : PT X x (denT X.K E fun ρ m => (ev T.Φ ce ρ m).bind blOf)) : PW X (.BoolOp .Or [x] pos) (denT X.K E fun ρ m => (evB T.Φ isAnd [ce] ρ m).bind blOf) := by
  refine imW (pw_or1 h) fun σ H Q hq => ?_
  obtain ⟨W, ρ, rfl, ok, er, h⟩ := hq
  unfold evB at h
  exact ⟨W, ρ, rfl, ok, er, h⟩
theorem s_andT {ce ce2 : C} {ces : List C} (h : PT X x (denT X.K E fun ρ m => (ev T.Φ ce ρ m).bind blOf)) (h2 : PW X (.BoolOp .And (y :: es) pos) (denT X.K E fun ρ m => (evB T.Φ true (ce2 :: ces) ρ m).bind blOf)) :
    PW X (.BoolOp .And (x :: y :: es) pos) (denT X.K E fun ρ m => (evB T.Φ true (ce :: ce2 :: ces) ρ m).bind blOf) := by
  refine imW (pw_and h h2) fun σ H Q hq => ?_
  obtain ⟨W, ρ, rfl, ok, er, h⟩ := hq
  simp only [bop_eq] at h
  refine ⟨W, ρ, rfl, ok, er, Post.bind h fun b W1 a l1 ok1 r1 h1 => ?_⟩
  subst r1
  cases b with
  | true => exact ⟨W1, ρ, rfl, ok1, er.up l1, h1⟩
  | false => exact Post.here h1 ok1 rfl
theorem s_orT {ce ce2 : C} {ces : List C} (h : PT X x (denT X.K E fun ρ m => (ev T.Φ ce ρ m).bind blOf)) (h2 : PW X (.BoolOp .Or (y :: es) pos) (denT X.K E fun ρ m => (evB T.Φ false (ce2 :: ces) ρ m).bind blOf)) :
    PW X (.BoolOp .Or (x :: y :: es) pos) (denT X.K E fun ρ m => (evB T.Φ false (ce :: ce2 :: ces) ρ m).bind blOf) := by
  refine imW (pw_or h h2) fun σ H Q hq => ?_
  obtain ⟨W, ρ, rfl, ok, er, h⟩ := hq
  simp only [bop_eq] at h
  refine ⟨W, ρ, rfl, ok, er, Post.bind h fun b W1 a l1 ok1 r1 h1 => ?_⟩
  subst r1
  cases b with
  | false => exact ⟨W1, ρ, rfl, ok1, er.up l1, h1⟩
  | true => exact Post.here h1 ok1 rfl
end
end HD
end

section
set_option Elab.async false
set_option linter.all false
set_option maxRecDepth 100000
set_option maxHeartbeats 4000000
/-! A10: subscripts, calls, built-ins as expressions. -/
namespace HD
open PySem PySem.Spec PyProof.Rows L2
section
variable {T : Tab} {X : Cx} {k : Kx} {E : EH} {a b c x y z : Expr} {es : List Expr} {fa fb fc : Env → Mem → Res D} {fl : Env → Mem → Res (List D)} {pos : Pos}
theorem ix_dict (hu : X.A.units + 1 < cLine) : IxR X (fun x y H Q => ∃ a v, x = .ref a ∧ DGet H a y (some v) ∧ Q v H) := by
  intro value slice pins s σ H x y v u Q I rx ry h hs
  obtain ⟨a, r, rfl, g, q⟩ := h
  obtain rfl : v = Value.ref a := rx
  exact tail_any (dict_typeIs I g) PySem.F.slot_dict_getitem.lookup (d_getItem hu I g ry fun w' s3 I3 rw' => ⟨r, H, I3, rw', q⟩) hs
theorem atI_rep {K : PySem.W.Frag} {W : Wd} {xs : List V} {l : List D} {j : Int} {d : D} (r : RepL K W xs l) (h : atI l j = some d) : ∃ v, atI xs j = some v ∧ Rep K W v d := by
  unfold atI at h ⊢
  rw [r.length]
  cases e : ixN l.length j with
  | none => rw [e] at h; cases h
  | some i =>
    rw [e] at h
    exact r.get h
theorem atI_map {α β : Type} (f : α → β) (l : List α) (j : Int) : atI (l.map f) j = (atI l j).map f := by
  unfold atI
  rw [List.length_map]
  cases ixN l.length j with
  | none => rfl
  | some i => simp
theorem ix_sound (hu : X.A.units + 65 < cLine) : IxR X (rB X.K E ixop) := by
  intro value slice pins s σ H x y v u Q I rx ry h hs
  obtain ⟨W, dx, dy, rfl, ok, r1, r2, h⟩ := h
  unfold ixop at h
  split at h
  · rename_i b l e
    split at h
    · rename_i j
      cases r2
      obtain ⟨a, xs, rfl, q1, h1⟩ := seq_any ok r1 e
      cases e2 : atI l j with
      | none => rw [e2] at h; exact h.elim
      | some d =>
        rw [e2] at h
        obtain ⟨w, e3, r3⟩ := atI_rep q1 e2
        have q : Q w W.H := Post.here h ok r3
        rcases h1 with h1 | h1
        · exact ix_seq value slice pins s σ W.H _ _ v u Q I rx ry (.inl ⟨a, xs, j, w, rfl, rfl, h1, e3, q⟩) hs
        · exact ix_seq value slice pins s σ W.H _ _ v u Q I rx ry (.inr (.inl ⟨a, xs, j, w, rfl, rfl, h1, e3, q⟩)) hs
    · exact h.elim
  · split at h
    · rename_i l j _
      obtain ⟨a, rfl, h1⟩ := scr_sq r1
      cases r2
      cases e2 : atI l j with
      | none => rw [e2] at h; exact h.elim
      | some i =>
        rw [e2] at h
        refine ix_seq value slice pins s σ W.H _ _ v u Q I rx ry (.inl ⟨a, l.map V.int, j, .int i, rfl, rfl, h1, ?_, Post.here h ok (.int _)⟩) hs
        rw [atI_map, e2]; rfl
    · split at h
      · rename_i d e
        obtain ⟨a, ov, rfl, g, z⟩ := dlook_rep ok r1 r2 e
        rcases z with ⟨z, _⟩ | ⟨p, w, z, rfl, r3⟩
        · cases z
        · cases z
          exact ix_dict (by omega) value slice pins s σ W.H _ _ v u Q I rx ry ⟨a, w, rfl, g, h.here ok r3⟩ hs
      · exact h.elim
def isSliceB : Expr → Bool
  | .Slice .. => true
  | _ => false
theorem plain_of (h : isSliceB y = false) : PlainIx y := by
  intro o i
  cases y <;> first | rfl | (simp [isSliceB] at h)
theorem s_ix (cx : Ctx T X k E) (hs : isSliceB y = false) (h1 : PE X x (den X.K E fa)) (h2 : PE X y (den X.K E fb)) : PE X (.Subscript x y pos) (den X.K E fun ρ m => (fa ρ m).bind fun x m1 => (fb ρ m1).bind fun y m2 => ixop x y m2) :=
  imE (pe_ix (ix_sound cx.hu) h1 h2 (plain_of hs)) two_imp
def rSl (K : PySem.W.Frag) (E : EH) : V → Option Int → Option Int → Hp → VK → Prop := fun x lo hi H Q => ∃ W d, W.H = H ∧ W.Ok K ∧ Rep K W x d ∧ Post (Rep K) K W (slop d lo hi W.M) E Q
theorem RepL.cut {K : PySem.W.Frag} {W : Wd} {xs : List V} {l : List D} (r : RepL K W xs l) (lo hi : Option Int) : RepL K W (cutV xs lo hi) (cutD l lo hi) := by
  unfold cutV cutD
  rw [r.length]
  exact (r.drop _).take _
theorem sl_sound : SlR X (rSl X.K E) := by
  intro pins s σ H x v vl vu lo hi sl Q I rx hs pl pu h
  obtain ⟨W, d, rfl, ok, r1, h⟩ := h
  unfold slop at h
  split at h
  · rename_i b l e
    obtain ⟨a, xs, rfl, q1, h1⟩ := seq_rep ok r1 e
    cases b with
    | true =>
      simp only [mkSeq, if_true] at h h1
      refine sl_tupA pins s σ W.H _ v vl vu lo hi sl Q I rx hs pl pu ⟨a, xs, rfl, SqT.of h1, fun z => ?_, fun _ => h.newTup ok (q1.cut lo hi)⟩
      have e1 : cutV xs lo hi = xs := by
        unfold cutV
        rw [z.1, z.2]
        simp
      have r2 := q1.cut lo hi
      rw [e1] at r2
      exact h.here ok (.tup h1 r2)
    | false =>
      simp only [mkSeq, Bool.false_eq_true, if_false] at h h1
      exact sl_list pins s σ W.H _ v vl vu lo hi sl Q I rx hs pl pu ⟨a, xs, rfl, SqL.of h1, h.newLst ok (q1.cut lo hi)⟩
  · exact h.elim
theorem s_none : PO X none (denO X.K E (evO T.Φ none)) := ⟨fun pins s σ H Q I hq => by
  obtain ⟨W, ρ, rfl, ok, er, h⟩ := hq
  exact po_none.run pins s σ W.H Q I (Post.here h ok rfl)⟩
theorem s_some {ce : C} (h : PE X x (den X.K E (ev T.Φ ce))) : PO X (some x) (denO X.K E (evO T.Φ (some ce))) := ⟨fun pins s σ H Q I hq => by
  obtain ⟨W, ρ, rfl, ok, er, hw⟩ := hq
  refine (po_some h).run pins s σ W.H Q I ?_
  unfold evO at hw
  refine ⟨W, ρ, rfl, ok, er, Post.bind hw fun v W1 d l1 ok1 r1 h1 => ?_⟩
  unfold intO at h1
  split at h1
  · cases r1
    exact ⟨_, rfl, Post.here h1 ok1 rfl⟩
  · exact h1.elim⟩
theorem s_sl {lo hi : Option Expr} {fl fh : Env → Mem → Res (Option Int)} {p2 : Pos} (h1 : PE X x (den X.K E fa)) (h2 : PO X lo (denO X.K E fl)) (h3 : PO X hi (denO X.K E fh)) :
    PE X (.Subscript x (.Slice lo hi none p2) pos) (den X.K E fun ρ m => (fa ρ m).bind fun x m1 => (fl ρ m1).bind fun l m2 => (fh ρ m2).bind fun h m3 => slop x l h m3) := by
  refine imE (pe_slice (sl_sound (E := E)) h1 h2 h3) fun σ H Q hq => ?_
  obtain ⟨W, ρ, rfl, ok, er, h⟩ := hq
  exact ⟨W, ρ, rfl, ok, er, Post.bind h fun v W1 d l1 ok1 r1 h1 => ⟨W1, ρ, rfl, ok1, er.up l1, Post.bind h1 fun o W2 o' l2 ok2 r2 h2 => ⟨W2, ρ, rfl, ok2, (er.up l1).up l2, Post.bind h2 fun u W3 u' l3 ok3 r3 h3 => by
    subst r2 r3
    exact ⟨W3, d, rfl, ok3, (r1.up l2).up l3, h3⟩⟩⟩⟩
theorem any_star {es : List Expr} {env : PySem.Env} {pos : Pos} (h : es.all (fun e => !PySem.W.isStarred e) = true) : (backTo pos (starEach es env)).any (·.1) = false := by
  induction es with
  | nil => rfl
  | cons e es ih =>
    rw [List.all_cons, Bool.and_eq_true] at h
    rw [star_cons (by simpa using h.1)]
    show (false || (backTo pos (starEach es env)).any (·.1)) = false
    rw [ih h.2]; rfl
theorem s_call (cx : Ctx T X k E) {f : Nat} {n : Str} {p : Pos} (hf : T.has f = true) (hn : n = T.fname f) (hg : k.sc.names.lookup n = some .globalImplicit) (hd : (n == ("__debug__" : Str)) = false) (hs : (x :: es).all (fun e => !PySem.W.isStarred e) = true)
    (ha : PA X (x :: es) (denL X.K E fl)) : PE X (.Call (.Name n p) (x :: es) [] pos) (den X.K E fun ρ m => (fl ρ m).bind fun ds m1 => T.Φ f ds m1) := by
  subst hn
  obtain ⟨a, fd, ps, j, dvs, ds, dds, φ, F⟩ := cx.tab.fn f hf
  have hs' := hs
  rw [List.all_cons, Bool.and_eq_true] at hs'
  refine imE (pe_callSD F.ok (cx.room.mono F.kk) (cx.gl hg) F.gl F.kp F.b F.dv cx.pass ha hd (star_cons (by simpa using hs'.1)) (any_star hs'.2)) fun σ H Q hq => ?_
  obtain ⟨W, ρ, rfl, ok, er, h⟩ := hq
  refine ⟨W, ρ, rfl, ok, er, Post.bind h fun vs W1 es l1 ok1 r1 h1 => ?_⟩
  refine ⟨W1, es ++ dds, rfl, ok1, r1.append (F.dd W1), ?_⟩
  have hne : T.Φ f es W1.M ≠ .stk := fun z => by rw [z] at h1; exact h1
  rw [F.eq _ _ hne]
  cases e : T.Φ f es W1.M with
  | ok d m => rw [e] at h1; exact h1
  | exc c m => rw [e] at h1; exact fun W' q1 q2 q3 => ⟨rfl, c, rfl, h1 W' q1 q2 q3⟩
  | stk => exact absurd e hne
/-! built-ins -/
theorem blt_imp {b : Blt} : ∀ σ H Q, den X.K E (fun ρ m => (fl ρ m).bind fun ds m1 => bltop b ds m1) σ H Q → tCB (rC X.K E b) (denL X.K E fl) σ H Q := fun σ H Q hq => by
  obtain ⟨W, ρ, rfl, ok, er, h⟩ := hq
  exact ⟨W, ρ, rfl, ok, er, Post.bind h fun vs W1 ds l1 ok1 r1 h1 => ⟨W1, ds, rfl, ok1, r1, h1⟩⟩
theorem s_bltB (cx : Ctx T X k E) {b : Blt} {id : String} {n : Str} {p : Pos} (hc : CallR X (.builtin id) (rC X.K E b)) (hv : bootBuiltins n = some (.builtin id)) (hm : n ∈ bltNames) (hg : k.sc.names.lookup n = some .globalImplicit) (hs : (x :: es).all (fun e => !PySem.W.isStarred e) = true)
    (hn : n ≠ "__name__") (hd : (n == ("__debug__" : Str)) = false) (ha : PA X (x :: es) (denL X.K E fl)) : PE X (.Call (.Name n p) (x :: es) [] pos) (den X.K E fun ρ m => (fl ρ m).bind fun ds m1 => bltop b ds m1) := by
  have hs' := hs
  rw [List.all_cons, Bool.and_eq_true] at hs'
  exact imE (pe_callB hc (cx.gl hg) (cx.blt hm) hv ha hn hd (star_cons (by simpa using hs'.1)) (any_star hs'.2)) blt_imp
theorem s_bltT (cx : Ctx T X k E) {b : Blt} {id : String} {n : Str} {p : Pos} (hc : CallR X (.type id) (rC X.K E b)) (hv : bootBuiltins n = some (.type id)) (hm : n ∈ bltNames) (hg : k.sc.names.lookup n = some .globalImplicit) (hs : (x :: es).all (fun e => !PySem.W.isStarred e) = true)
    (hn : n ≠ "__name__") (hd : (n == ("__debug__" : Str)) = false) (ha : PA X (x :: es) (denL X.K E fl)) : PE X (.Call (.Name n p) (x :: es) [] pos) (den X.K E fun ρ m => (fl ρ m).bind fun ds m1 => bltop b ds m1) := by
  have hs' := hs
  rw [List.all_cons, Bool.and_eq_true] at hs'
  exact imE (pe_callTy hc (cx.gl hg) (cx.blt hm) hv ha hn hd (star_cons (by simpa using hs'.1)) (any_star hs'.2)) blt_imp
/-- isinstance(x, T) -/
theorem s_isinst (cx : Ctx T X k E) {b : Blt} {tn : String} {n : Str} {p p2 : Pos} {ce : C} (hc : CallR X (.builtin "isinstance") (rIs X.K E b tn)) (hv : bootBuiltins n = some (.type tn)) (hm : n ∈ bltNames) (hg : k.sc.names.lookup n = some .globalImplicit) (hg2 : k.sc.names.lookup ("isinstance" : Str) = some NameKind.globalImplicit)
    (hs : PySem.W.isStarred x = false) (hn : n ≠ "__name__") (hd : (n == ("__debug__" : Str)) = false) (ha : PE X x (den X.K E (ev T.Φ ce))) :
    PE X (.Call (.Name "isinstance" p) [x, .Name n p2] [] pos) (den X.K E fun ρ m => (evL T.Φ [ce] ρ m).bind fun ds m1 => bltop b ds m1) := by
  have hty : PE X (.Name n p2) (tC (.ty tn)) := pe_bltn (cx.gl hg) (cx.blt hm) hv rfl hn hd
  refine imE (pe_callB hc (cx.gl hg2) (cx.blt (by decide)) (by decide +kernel) (pa_cons ha (pa_cons hty pa_nil (star_cons rfl)) (star_cons hs)) (by decide) (by decide) (star_cons hs) rfl) fun σ H Q hq => ?_
  obtain ⟨W, ρ, rfl, ok, er, h⟩ := hq
  dsimp only at h
  have e1 : ∀ ρ m, evL T.Φ [ce] ρ m = (ev T.Φ ce ρ m).bind fun d m1 => .ok [d] m1 := fun ρ m => by
    unfold evL
    cases ev T.Φ ce ρ m with
    | ok d m1 => simp only [Res.bind_ok]; unfold evL; rfl
    | exc c m1 => rfl
    | stk => rfl
  rw [e1] at h
  have e2 : ((ev T.Φ ce ρ W.M).bind fun d m1 => Res.ok [d] m1).bind (fun ds m1 => bltop b ds m1) = (ev T.Φ ce ρ W.M).bind fun d m1 => bltop b [d] m1 := by
    cases ev T.Φ ce ρ W.M <;> rfl
  rw [e2] at h
  exact ⟨W, ρ, rfl, ok, er, Post.bind h fun v W1 d l1 ok1 r1 h1 => ⟨W1, d, v, rfl, ok1, r1, rfl, h1⟩⟩
end
end HD
end

section
set_option Elab.async false
set_option linter.all false
set_option maxRecDepth 100000
set_option maxHeartbeats 4000000
/-! A11: what is walked; targets; comprehensions. -/
namespace HD
open PySem PySem.Spec PyProof.Rows L2 RZ
/-- an iterator goes over these items, whatever is added to the world -/
def Walks (K : PySem.W.Frag) (W0 : Wd) (J : It) (its : List D) : Prop := ∀ W : Wd, W0.sub W → W.Ok K → ∀ i : Nat,
  (its.length ≤ i → J.stop i W.H) ∧
  ∀ d, its[i]? = some d → J.go i W.H ∧ ∀ x H', J.yld i W.H x H' → ∃ W', W.le W' ∧ W'.Ok K ∧ W'.H = H' ∧ W'.M = W.M ∧ Rep K W' x d
def denI (K : PySem.W.Frag) (E : EH) (f : Env → Mem → Res (List D)) : TI := fun σ H R => ∃ W ρ, W.H = H ∧ W.Ok K ∧ ERep K W σ ρ ∧ Post (fun W (J : It) its => Walks K W J its) K W (f ρ W.M) E R
section
variable {T : Tab} {X : Cx} {k : Kx} {E : EH} {a b c x y z tg : Expr} {es : List Expr} {fa fb fc : Env → Mem → Res D} {fl : Env → Mem → Res (List D)} {pos : Pos}
theorem imI {e : Expr} {t t' : TI} (h : PI X tg e t) (k : ∀ σ H Q, t' σ H Q → t σ H Q) : PI X tg e t' := ⟨fun pins s σ H Q I hw => h.run pins s σ H Q I (k _ _ _ hw)⟩
theorem orI {e : Expr} {t t' : TI} (h : PI X tg e t) (h' : PI X tg e t') : PI X tg e (fun σ H Q => t σ H Q ∨ t' σ H Q) := ⟨fun pins s σ H Q I hw => hw.elim (h.run pins s σ H Q I) (h'.run pins s σ H Q I)⟩
theorem walks_list {K : PySem.W.Frag} {W0 : Wd} {a : Addr} {xs : List V} {l : List D} (h : W0.rd a (.lst xs)) (r : RepL K W0 xs l) : Walks K W0 (Itl K a) l := fun W q ok i => by
  have hr := q.rd _ _ h
  have hH : W.H a = some (.lst xs) := by
    rcases hr.1 with z | ⟨z, _⟩
    · exact z
    · exact absurd z (by simp [dic])
  refine ⟨fun hi => ⟨xs, SqL.of hH, by rw [r.length]; exact hi⟩, fun d hd => ?_⟩
  obtain ⟨v, hv, rv⟩ := r.get hd
  refine ⟨⟨xs, v, SqL.of hH, hv⟩, fun x H' hy => ?_⟩
  obtain ⟨rfl, hy⟩ := hy
  have := hy xs (SqL.of hH)
  rw [hv] at this
  cases this
  exact ⟨W, Wd.le.refl W, ok, rfl, rfl, rv.upS q⟩
theorem walks_tup {K : PySem.W.Frag} {W0 : Wd} {a : Addr} {xs : List V} {l : List D} (h : W0.H a = some (.tup xs)) (r : RepL K W0 xs l) : Walks K W0 (Itt K a) l := fun W q ok i => by
  have hH := q.tup _ _ h
  refine ⟨fun hi => ⟨xs, SqT.of hH, by rw [r.length]; exact hi⟩, fun d hd => ?_⟩
  obtain ⟨v, hv, rv⟩ := r.get hd
  refine ⟨⟨xs, v, SqT.of hH, hv⟩, fun x H' hy => ?_⟩
  obtain ⟨rfl, hy⟩ := hy
  have := hy xs (SqT.of hH)
  rw [hv] at this
  cases this
  exact ⟨W, Wd.le.refl W, ok, rfl, rfl, rv.upS q⟩
theorem rngD_get {a : Int} {n i : Nat} {d : D} (h : (rngD a n)[i]? = some d) : i < n ∧ d = .int (a + (i : Nat)) := by
  unfold rngD at h
  rw [List.getElem?_map] at h
  by_cases hi : i < n
  · rw [List.getElem?_range hi] at h
    simp at h
    exact ⟨hi, h.symm⟩
  · rw [List.getElem?_eq_none (by simpa using hi)] at h
    cases h
theorem rngD_length (a : Int) (n : Nat) : (rngD a n).length = n := by simp [rngD]
theorem walks_rng {K : PySem.W.Frag} {W0 : Wd} {a : Int} {n : Nat} : Walks K W0 (Itr a n) (rngD a n) := fun W q ok i => by
  refine ⟨fun hi => by rw [rngD_length] at hi; exact hi, fun d hd => ?_⟩
  obtain ⟨hi, rfl⟩ := rngD_get hd
  refine ⟨hi, fun x H' hy => ?_⟩
  obtain ⟨rfl, rfl⟩ := hy
  exact ⟨W, Wd.le.refl W, ok, rfl, rfl, .int _⟩
theorem small_of {i : Int} (h : small62 i = true) : -(2 ^ 62) ≤ i ∧ i < 2 ^ 62 := by
  unfold small62 at h
  simpa using h
/-- a step that knows what it is behind -/
theorem Post.bind' {α β γ δ : Type} {R : Wd → β → α → Prop} {R' : Wd → δ → γ → Prop} {K : PySem.W.Frag} {W : Wd} {E : EH} {r : Res α} {f : α → Mem → Res γ} {Q : δ → Hp → Prop} {Q1 : β → Hp → Prop} (h : Post R' K W (r.bind f) E Q)
    (k : ∀ b W1 a, r = .ok a W1.M → W.le W1 → W1.Ok K → R W1 b a → Post R' K W1 (f a W1.M) E Q → Q1 b W1.H) : Post R K W r E Q1 := by
  cases r with
  | ok a m =>
    intro b W1 h1 h2 h3 h4
    subst h3
    exact k b W1 a rfl h1 h2 h4 (Post.up h h1)
  | exc c m => exact h
  | stk => exact h
theorem evL_one (Φ : Phi) (ce : C) (ρ : Env) (m : Mem) : evL Φ [ce] ρ m = (ev Φ ce ρ m).bind fun d m1 => .ok [d] m1 := by
  unfold evL
  cases ev Φ ce ρ m with
  | ok d m1 => simp only [Res.bind_ok]; unfold evL; rfl
  | exc c m1 => rfl
  | stk => rfl
def optR (o : Option (List D)) (m : Mem) : Res (List D) := match o with
  | none => .stk
  | some its => .ok its m
theorem its_one (Φ : Phi) (ce : C) (k : ItK) (ρ : Env) (m : Mem) : itsOf k (evL Φ [ce] ρ m) = (ev Φ ce ρ m).bind fun d m1 => optR (itemsOf k [d]) m1 := by
  rw [evL_one]
  unfold itsOf
  cases ev Φ ce ρ m <;> rfl
theorem its_any (k : ItK) (r : Res (List D)) : itsOf k r = r.bind fun ds m1 => optR (itemsOf k ds) m1 := rfl
theorem Post.opt {K : PySem.W.Frag} {W : Wd} {E : EH} {o : Option (List D)} {R : It → Hp → Prop} (h : Post (fun W (J : It) its => Walks K W J its) K W (optR o W.M) E R) (ok : W.Ok K) : ∃ its, o = some its ∧ ∀ J, Walks K W J its → R J W.H := by
  cases o with
  | none => exact h.elim
  | some its => exact ⟨its, rfl, fun J w => Post.here h ok w⟩
theorem lst_at {W : Wd} {a : Addr} {xs : List V} (h : W.rd a (.lst xs)) : W.H a = some (.lst xs) := by
  rcases h.1 with z | ⟨z, _⟩
  · exact z
  · exact absurd z (by simp [dic])
theorem s_seqI {ce : C} (h : PE X x (den X.K E (ev T.Φ ce))) : PI X tg x (denI X.K E fun ρ m => itsOf .seq (evL T.Φ [ce] ρ m)) := by
  refine imI (orI (pi_list h) (pi_tup h)) fun σ H R hq => ?_
  obtain ⟨W, ρ, rfl, ok, er, h⟩ := hq
  dsimp only at h
  rw [its_one] at h
  cases e : ev T.Φ ce ρ W.M with
  | stk => rw [e] at h; exact h.elim
  | exc c m => rw [e] at h; exact .inl ⟨W, ρ, rfl, ok, er, by rw [e]; exact h⟩
  | ok d m =>
    cases d with
    | lst l =>
      refine .inl ⟨W, ρ, rfl, ok, er, Post.bind' h fun v W1 d' e1 l1 ok1 r1 h1 => ?_⟩
      rw [e] at e1
      injection e1 with e1 e2
      subst e1
      cases r1 with
      | @lst a xs ds h2 h3 =>
        obtain ⟨its, e3, h4⟩ := Post.opt h1 ok1
        cases e3
        exact ⟨a, rfl, ⟨xs, SqL.of (lst_at h2)⟩, h4 _ (walks_list h2 h3)⟩
    | tup l =>
      refine .inr ⟨W, ρ, rfl, ok, er, Post.bind' h fun v W1 d' e1 l1 ok1 r1 h1 => ?_⟩
      rw [e] at e1
      injection e1 with e1 e2
      subst e1
      cases r1 with
      | @tup a xs ds h2 h3 =>
        obtain ⟨its, e3, h4⟩ := Post.opt h1 ok1
        cases e3
        exact ⟨a, rfl, ⟨xs, SqT.of h2⟩, h4 _ (walks_tup h2 h3)⟩
    | _ => rw [e] at h; exact h.elim
theorem s_rng1I (cx : Ctx T X k E) {p : Pos} (hg : k.sc.names.lookup ("range" : Str) = some NameKind.globalImplicit) (hs : PySem.W.isStarred x = false) (h : PA X [x] (denL X.K E fl)) :
    PI X tg (.Call (.Name "range" p) [x] [] pos) (denI X.K E fun ρ m => itsOf .rng1 (fl ρ m)) := by
  refine imI (pi_range1 (cx.gl hg) (cx.blt (by decide)) h (star_cons hs)) fun σ H R hq => ?_
  obtain ⟨W, ρ, rfl, ok, er, h⟩ := hq
  dsimp only at h
  rw [its_any] at h
  refine ⟨W, ρ, rfl, ok, er, Post.bind h fun vs W1 ds l1 ok1 r1 h1 => ?_⟩
  obtain ⟨its, e, h2⟩ := Post.opt h1 ok1
  dsimp only [itemsOf] at e
  unfold i1 at e
  split at e
  · obtain ⟨v, rfl, r2⟩ := rep1 r1
    unfold rng1i at e
    split at e
    · split at e
      · rename_i hsm
        cases r2
        cases e
        exact ⟨_, rfl, (small_of hsm).1, (small_of hsm).2, h2 _ walks_rng⟩
      · cases e
    · cases e
  · cases e
theorem s_rng2I (cx : Ctx T X k E) {p : Pos} (hg : k.sc.names.lookup ("range" : Str) = some NameKind.globalImplicit) (hs : PySem.W.isStarred x = false) (hs2 : PySem.W.isStarred y = false) (h : PA X [x, y] (denL X.K E fl)) :
    PI X tg (.Call (.Name "range" p) [x, y] [] pos) (denI X.K E fun ρ m => itsOf .rng2 (fl ρ m)) := by
  refine imI (pi_range2 (cx.gl hg) (cx.blt (by decide)) h (by rw [star_cons hs, star_cons hs2]; rfl) (star_cons hs2)) fun σ H R hq => ?_
  obtain ⟨W, ρ, rfl, ok, er, h⟩ := hq
  dsimp only at h
  rw [its_any] at h
  refine ⟨W, ρ, rfl, ok, er, Post.bind h fun vs W1 ds l1 ok1 r1 h1 => ?_⟩
  obtain ⟨its, e, h2⟩ := Post.opt h1 ok1
  dsimp only [itemsOf] at e
  unfold i2 at e
  split at e
  · obtain ⟨v, u, rfl, r2, r3⟩ := rep2 r1
    unfold rng2i at e
    split at e
    · split at e
      · rename_i hsm
        rw [Bool.and_eq_true] at hsm
        cases r2
        cases r3
        cases e
        exact ⟨_, _, rfl, ⟨(small_of hsm.1).1, (small_of hsm.1).2, (small_of hsm.2).1, (small_of hsm.2).2⟩, h2 _ walks_rng⟩
      · cases e
    · cases e
  · cases e
theorem rep3 {K : PySem.W.Frag} {W : Wd} {vs : List V} {x y z : D} (r : RepL K W vs [x, y, z]) : ∃ v u w, vs = [v, u, w] ∧ Rep K W v x ∧ Rep K W u y ∧ Rep K W w z := by
  cases r with
  | cons r t =>
    obtain ⟨u, w, rfl, q1, q2⟩ := rep2 t
    exact ⟨_, _, _, rfl, r, q1, q2⟩
theorem walks_rngC {K : PySem.W.Frag} {W0 : Wd} {a c : Int} {n : Nat} : Walks K W0 (Itc a c n) (rngStep a c n) := fun W q ok i => by
  refine ⟨fun hi => by simp [rngStep] at hi; exact hi, fun d hd => ?_⟩
  have hd' : i < n ∧ d = .int (a + (i : Nat) * c) := by
    unfold rngStep at hd
    rw [List.getElem?_map] at hd
    by_cases hi : i < n
    · rw [List.getElem?_range hi] at hd
      simp at hd
      exact ⟨hi, hd.symm⟩
    · rw [List.getElem?_eq_none (by simpa using hi)] at hd
      cases hd
  obtain ⟨hi, rfl⟩ := hd'
  refine ⟨hi, fun x H' hy => ?_⟩
  obtain ⟨rfl, rfl⟩ := hy
  exact ⟨W, Wd.le.refl W, ok, rfl, rfl, .int _⟩
theorem s_rng3I (cx : Ctx T X k E) {p : Pos} (hg : k.sc.names.lookup ("range" : Str) = some NameKind.globalImplicit) (hs : [x, y, z].all (fun e => !PySem.W.isStarred e) = true) (h : PA X [x, y, z] (denL X.K E fl)) :
    PI X tg (.Call (.Name "range" p) [x, y, z] [] pos) (denI X.K E fun ρ m => itsOf .rng3 (fl ρ m)) := by
  rw [List.all_cons, Bool.and_eq_true] at hs
  refine imI (pi_range3 (cx.gl hg) (cx.blt (by decide)) h (star_cons (by simpa using hs.1)) (any_star hs.2)) fun σ H R hq => ?_
  obtain ⟨W, ρ, rfl, ok, er, h⟩ := hq
  dsimp only at h
  rw [its_any] at h
  refine ⟨W, ρ, rfl, ok, er, Post.bind h fun vs W1 ds l1 ok1 r1 h1 => ?_⟩
  obtain ⟨its, e, h2⟩ := Post.opt h1 ok1
  dsimp only [itemsOf] at e
  unfold i3 at e
  split at e
  · obtain ⟨v, u, w, rfl, r2, r3, r4⟩ := rep3 r1
    unfold rng3i at e
    split at e
    · split at e
      · rename_i hsm
        simp only [Bool.and_eq_true, decide_eq_true_eq] at hsm
        obtain ⟨⟨hc, h3⟩, h4⟩ := hsm
        subst hc
        cases r2
        cases r3
        cases r4
        cases e
        exact ⟨_, _, _, _, rfl, RgC.neg (small_of h3).1 (small_of h3).2 (small_of h4).1 (small_of h4).2, h2 _ walks_rngC⟩
      · cases e
    · cases e
  · cases e
theorem pairUp_get : ∀ {a b : List D} {i : Nat} {d : D}, (pairUp a b)[i]? = some d → ∃ x y, a[i]? = some x ∧ b[i]? = some y ∧ d = .tup [x, y]
  | [], b, _, _, h => by simp [pairUp] at h
  | _ :: _, [], _, _, h => by simp [pairUp] at h
  | x :: xs, y :: ys, 0, d, h => by
    simp [pairUp] at h
    exact ⟨x, y, rfl, rfl, h.symm⟩
  | x :: xs, y :: ys, i + 1, d, h => by
    simp only [pairUp, List.getElem?_cons_succ] at h ⊢
    exact pairUp_get h
theorem pairUp_length : ∀ (a b : List D), (pairUp a b).length = min a.length b.length
  | [], b => by simp [pairUp]
  | _ :: _, [] => by simp [pairUp]
  | x :: xs, y :: ys => by simp [pairUp, pairUp_length xs ys]
theorem walks_pair {K : PySem.W.Frag} {W0 : Wd} {J : It} {its : List D}
    (stop : ∀ W : Wd, W0.sub W → W.Ok K → ∀ i : Nat, its.length ≤ i → J.stop i W.H)
    (step : ∀ W : Wd, W0.sub W → W.Ok K → ∀ (i : Nat) (d : D), its[i]? = some d → J.go i W.H ∧ ∀ x H', J.yld i W.H x H' → ∃ p vs ds, x = .ref p ∧ W.H p = none ∧ H' = upd W.H p (.tup vs) ∧ d = .tup ds ∧ RepL K W vs ds) : Walks K W0 J its := fun W q ok i => by
  refine ⟨stop W q ok i, fun d hd => ?_⟩
  obtain ⟨h1, h2⟩ := step W q ok i d hd
  refine ⟨h1, fun x H' hy => ?_⟩
  obtain ⟨p, vs, ds, rfl, hp, rfl, rfl, r⟩ := h2 x H' hy
  exact ⟨W.new p (.tup vs), Wd.new_le ok hp _, Wd.new_ok ok hp _, rfl, rfl, .tup upd_same (r.up (Wd.new_le ok hp _))⟩
theorem walks_zipL {K : PySem.W.Frag} {W0 : Wd} {a b : Addr} {xs ys : List V} {l r : List D} (ha : W0.rd a (.lst xs)) (hb : W0.rd b (.lst ys)) (ra : RepL K W0 xs l) (rb : RepL K W0 ys r) : Walks K W0 (Itz K a b) (pairUp l r) :=
  walks_pair (fun W q ok i hi => by
    rw [pairUp_length] at hi
    refine ⟨xs, ys, SqL.of (lst_at (q.rd _ _ ha)), SqL.of (lst_at (q.rd _ _ hb)), ?_⟩
    rw [ra.length, rb.length]
    rcases Nat.le_total l.length r.length with z | z
    · left; rw [Nat.min_eq_left z] at hi; exact hi
    · right; rw [Nat.min_eq_right z] at hi; exact hi) fun W q ok i d hd => by
    obtain ⟨x, y, e1, e2, rfl⟩ := pairUp_get hd
    obtain ⟨v, e3, r3⟩ := ra.get e1
    obtain ⟨u, e4, r4⟩ := rb.get e2
    have h1 := SqL.of (K := K) (lst_at (q.rd _ _ ha))
    have h2 := SqL.of (K := K) (lst_at (q.rd _ _ hb))
    refine ⟨⟨xs, ys, v, u, h1, h2, e3, e4⟩, fun z H' hy => ?_⟩
    obtain ⟨p, v', u', rfl, hp, rfl, f1, f2⟩ := hy
    have := f1 xs h1
    rw [e3] at this
    cases this
    have := f2 ys h2
    rw [e4] at this
    cases this
    exact ⟨p, _, _, rfl, hp, rfl, rfl, .cons (r3.upS q) (.cons (r4.upS q) .nil)⟩
theorem walks_zipT {K : PySem.W.Frag} {W0 : Wd} {a b : Addr} {xs ys : List V} {l r : List D} (ha : W0.H a = some (.tup xs)) (hb : W0.H b = some (.tup ys)) (ra : RepL K W0 xs l) (rb : RepL K W0 ys r) : Walks K W0 (ItzT K a b) (pairUp l r) :=
  walks_pair (fun W q ok i hi => by
    rw [pairUp_length] at hi
    refine ⟨xs, ys, SqT.of (q.tup _ _ ha), SqT.of (q.tup _ _ hb), ?_⟩
    rw [ra.length, rb.length]
    rcases Nat.le_total l.length r.length with z | z
    · left; rw [Nat.min_eq_left z] at hi; exact hi
    · right; rw [Nat.min_eq_right z] at hi; exact hi) fun W q ok i d hd => by
    obtain ⟨x, y, e1, e2, rfl⟩ := pairUp_get hd
    obtain ⟨v, e3, r3⟩ := ra.get e1
    obtain ⟨u, e4, r4⟩ := rb.get e2
    have h1 := SqT.of (K := K) (q.tup _ _ ha)
    have h2 := SqT.of (K := K) (q.tup _ _ hb)
    refine ⟨⟨xs, ys, v, u, h1, h2, e3, e4⟩, fun z H' hy => ?_⟩
    obtain ⟨p, v', u', rfl, hp, rfl, f1, f2⟩ := hy
    have := f1 xs h1
    rw [e3] at this
    cases this
    have := f2 ys h2
    rw [e4] at this
    cases this
    exact ⟨p, _, _, rfl, hp, rfl, rfl, .cons (r3.upS q) (.cons (r4.upS q) .nil)⟩
theorem s_zipI (cx : Ctx T X k E) {p tpos : Pos} {elts : List Expr} {kk : Nat} (hg : k.sc.names.lookup ("zip" : Str) = some NameKind.globalImplicit) (hs : PySem.W.isStarred x = false) (hs2 : PySem.W.isStarred y = false) (h : PA X [x, y] (denL X.K E fl)) :
    PI X (.Tuple elts kk tpos) (.Call (.Name "zip" p) [x, y] [] pos) (denI X.K E fun ρ m => itsOf .zip (fl ρ m)) := by
  refine imI (pi_zipA (cx.gl hg) (cx.blt (by decide)) h (star_cons hs) (any_star (by simp [hs2]))) fun σ H R hq => ?_
  obtain ⟨W, ρ, rfl, ok, er, h⟩ := hq
  dsimp only at h
  rw [its_any] at h
  refine ⟨W, ρ, rfl, ok, er, Post.bind h fun vs W1 ds l1 ok1 r1 h1 => ?_⟩
  obtain ⟨its, e, h2⟩ := Post.opt h1 ok1
  dsimp only [itemsOf] at e
  unfold i2 at e
  split at e
  · obtain ⟨v, u, rfl, r2, r3⟩ := rep2 r1
    unfold zipi at e
    split at e
    · cases e
      cases r2 with
      | lst g1 g2 =>
        cases r3 with
        | lst g3 g4 => exact ⟨_, _, _, _, rfl, .inl ⟨SqL.of (lst_at g1), SqL.of (lst_at g3), h2 _ (walks_zipL g1 g3 g2 g4)⟩⟩
    · cases e
      cases r2 with
      | tup g1 g2 =>
        cases r3 with
        | tup g3 g4 => exact ⟨_, _, _, _, rfl, .inr ⟨SqT.of g1, SqT.of g3, h2 _ (walks_zipT g1 g3 g2 g4)⟩⟩
    · cases e
  · cases e
theorem numbered_get : ∀ {a : List D} {n i : Nat} {d : D}, (numbered n a)[i]? = some d → ∃ x, a[i]? = some x ∧ d = .tup [.int ((n + i : Nat) : Int), x]
  | [], _, _, _, h => by simp [numbered] at h
  | x :: xs, n, 0, d, h => by
    simp [numbered] at h
    exact ⟨x, rfl, h.symm⟩
  | x :: xs, n, i + 1, d, h => by
    simp only [numbered, List.getElem?_cons_succ] at h ⊢
    obtain ⟨y, e1, e2⟩ := numbered_get h
    exact ⟨y, e1, by rw [e2, Nat.add_right_comm]; rfl⟩
theorem numbered_length : ∀ (a : List D) (n : Nat), (numbered n a).length = a.length
  | [], _ => rfl
  | _ :: xs, n => by simp [numbered, numbered_length xs]
end
end HD
end

section
set_option Elab.async false
set_option linter.all false
set_option maxRecDepth 100000
set_option maxHeartbeats 4000000
/-! A12: enumerate; targets; comprehensions. -/
namespace HD
open PySem PySem.Spec PyProof.Rows L2 RZ
section
variable {T : Tab} {X : Cx} {k : Kx} {E : EH} {a b c x y z tg : Expr} {es : List Expr} {fa fb fc : Env → Mem → Res D} {fl : Env → Mem → Res (List D)} {pos : Pos}
theorem walks_enumL {K : PySem.W.Frag} {W0 : Wd} {a : Addr} {xs : List V} {l : List D} (ha : W0.rd a (.lst xs)) (ra : RepL K W0 xs l) : Walks K W0 (Ite K a) (numbered 0 l) :=
  walks_pair (fun W q ok i hi => by
    rw [numbered_length] at hi
    exact ⟨xs, SqL.of (lst_at (q.rd _ _ ha)), by rw [ra.length]; exact hi⟩) fun W q ok i d hd => by
    obtain ⟨y, e1, rfl⟩ := numbered_get hd
    obtain ⟨v, e3, r3⟩ := ra.get e1
    have h1 := SqL.of (K := K) (lst_at (q.rd _ _ ha))
    refine ⟨⟨xs, v, h1, e3⟩, fun z H' hy => ?_⟩
    obtain ⟨p, u, rfl, hp, rfl, f1⟩ := hy
    have := f1 xs h1
    rw [e3] at this
    cases this
    exact ⟨p, _, _, rfl, hp, rfl, rfl, by rw [Nat.zero_add]; exact .cons (.int _) (.cons (r3.upS q) .nil)⟩

/-! ### targets -/
def gsOf : List Nat → TGs
  | [] => gNil
  | i :: is => gCons (gName i) (gsOf is)
def gOf (K : PySem.W.Frag) : Tg → TG
  | .nm i => gName i
  | .tp is => gTup K is.length (gsOf is)
def slotsOf : Tg → List Nat
  | .nm i => [i]
  | .tp is => is
theorem wipe_get : ∀ (vs : List Nat) (σ : L2.St) (j : Nat), (wipe σ vs)[j]? = if j ∈ vs then σ[j]?.map (fun _ => none) else σ[j]?
  | [], σ, j => by simp [wipe]
  | v :: vs, σ, j => by
    unfold wipe
    rw [List.getElem?_set]
    by_cases h : v = j
    · subst h
      rw [if_pos rfl, if_pos (List.mem_cons_self)]
      rw [wipe_length]
      by_cases hl : v < σ.length
      · rw [if_pos hl, List.getElem?_eq_getElem hl]; rfl
      · rw [if_neg hl, List.getElem?_eq_none (by omega)]; rfl
    · rw [if_neg h, wipe_get vs σ j]
      by_cases hj : j ∈ vs
      · rw [if_pos hj, if_pos (List.mem_cons_of_mem _ hj)]
      · rw [if_neg hj, if_neg (by simp only [List.mem_cons, not_or]; exact ⟨fun e => h e.symm, hj⟩)]
theorem wipe_set {σ : L2.St} {i : Nat} {o : Option V} {vs : List Nat} (h : i ∈ vs) : wipe (σ.set i o) vs = wipe σ vs := by
  apply List.ext_getElem?
  intro j
  rw [wipe_get, wipe_get]
  by_cases hj : j ∈ vs
  · rw [if_pos hj, if_pos hj, List.getElem?_set]
    by_cases e : i = j
    · subst e
      rw [if_pos rfl]
      by_cases hl : i < σ.length
      · rw [if_pos hl, List.getElem?_eq_getElem hl]; rfl
      · rw [if_neg hl, List.getElem?_eq_none (by omega)]
    · rw [if_neg e]
  · rw [if_neg hj, if_neg hj, List.getElem?_set_ne (fun e : i = j => hj (by rw [← e]; exact h))]
theorem wipe_wipe (σ : L2.St) (vs : List Nat) : wipe (wipe σ vs) vs = wipe σ vs := by
  apply List.ext_getElem?
  intro j
  rw [wipe_get, wipe_get]
  by_cases hj : j ∈ vs
  · rw [if_pos hj, if_pos hj]
    cases σ[j]? <;> rfl
  · rw [if_neg hj, if_neg hj]
theorem setAll_rep {K : PySem.W.Frag} {W : Wd} {H : Hp} (hw : W.H = H) : ∀ (is : List Nat) (vs : List V) (ds : List D) (σ : L2.St) (ρ ρ' : Env), ERep K W σ ρ → RepL K W vs ds → setAll is ds ρ = some ρ' →
    ∃ σ', ERep K W σ' ρ' ∧ σ'.length = σ.length ∧ (∀ own : List Nat, (∀ i ∈ is, i ∈ own) → wipe σ' own = wipe σ own) ∧ ∀ Q : L2.St → Hp → Prop, Q σ' H → gsOf is vs σ H Q
  | [], _, [], σ, ρ, ρ', er, .nil, h => by
    simp [setAll] at h
    subst h
    exact ⟨σ, er, rfl, fun _ _ => rfl, fun Q q => ⟨rfl, q⟩⟩
  | i :: is, v :: vs, d :: ds, σ, ρ, ρ', er, .cons r t, h => by
    simp only [setAll] at h
    obtain ⟨σ', e1, e4, e2, e3⟩ := setAll_rep hw is vs ds _ _ ρ' (er.set r i) t h
    refine ⟨σ', e1, by rw [e4, List.length_set], fun own ho => ?_, fun Q q => ⟨v, vs, rfl, e3 Q q⟩⟩
    rw [e2 own fun j hj => ho j (List.mem_cons_of_mem _ hj)]
    exact wipe_set (ho i List.mem_cons_self)
  | [], _, _ :: _, _, _, _, _, _, h => by simp [setAll] at h
  | _ :: _, _, [], _, _, _, _, _, h => by simp [setAll] at h
theorem bind_rep {K : PySem.W.Frag} {W : Wd} {H : Hp} (hw : W.H = H) {t : Tg} {v : V} {d : D} {σ : L2.St} {ρ ρ' : Env} (er : ERep K W σ ρ) (r : Rep K W v d) (h : bindTg t d ρ = some ρ') :
    ∃ σ', ERep K W σ' ρ' ∧ σ'.length = σ.length ∧ (∀ own : List Nat, (∀ i ∈ slotsOf t, i ∈ own) → wipe σ' own = wipe σ own) ∧ ∀ Q : L2.St → Hp → Prop, Q σ' H → gOf K t v σ H Q := by
  subst hw
  cases t with
  | nm i =>
    simp [bindTg] at h
    subst h
    exact ⟨_, er.set r i, by simp, fun own ho => wipe_set (ho i (by simp [slotsOf])), fun Q q => q⟩
  | tp is =>
    simp only [bindTg] at h
    split at h
    · rename_i l
      cases r with
      | tup h1 h2 =>
        obtain ⟨σ', e1, e4, e2, e3⟩ := setAll_rep rfl is _ l σ ρ ρ' er h2 h
        have hl : ∀ (is : List Nat) (ds : List D) (ρ ρ' : Env), setAll is ds ρ = some ρ' → ds.length = is.length := by
          intro is
          induction is with
          | nil => intro ds ρ ρ' h; cases ds with | nil => rfl | cons _ _ => simp [setAll] at h
          | cons i is ih => intro ds ρ ρ' h; cases ds with | nil => simp [setAll] at h | cons d ds => simp only [setAll] at h; simp [ih ds _ _ h]
        exact ⟨σ', e1, e4, e2, fun Q q => ⟨_, _, rfl, SqT.of h1, by rw [h2.length, hl _ _ _ _ h], e3 Q q⟩⟩
    · cases h
def locB (k : Kx) (x : Str) : Bool := decide (k.sc.names.lookup x = some .local) || (decide (k.sc.names.lookup x = some .cell) && k.fn x)
def chkN (k : Kx) (i : Nat) (e : Expr) : Bool := match e with
  | .Name x _ => decide (k.N[i]? = some x) && locB k x
  | _ => false
def chkNs (k : Kx) : List Nat → List Expr → Bool
  | [], [] => true
  | i :: is, e :: es => chkN k i e && chkNs k is es
  | _, _ => false
def chkTg (k : Kx) (t : Tg) (e : Expr) : Bool := match t with
  | .nm i => chkN k i e
  | .tp is => match e with
    | .Tuple es _ _ => chkNs k is es
    | _ => false
theorem loc_of (cx : Ctx T X k E) {n : Str} (h : locB k n = true) : Loc X.env.scope n ∧ (X.fn n = true ∨ X.env.scope.names.lookup n = some .local) := by
  rw [cx.sc, cx.fn]
  unfold locB at h
  simp only [Bool.or_eq_true, Bool.and_eq_true, decide_eq_true_eq] at h
  rcases h with h | ⟨h, h'⟩
  · exact ⟨.inl h, .inr h⟩
  · exact ⟨.inr h, .inl h'⟩
theorem chkN_of (cx : Ctx T X k E) {i : Nat} {e : Expr} (h : chkN k i e = true) : ∃ n p, e = .Name n p ∧ X.N[i]? = some n ∧ Loc X.env.scope n ∧ (X.fn n = true ∨ X.env.scope.names.lookup n = some .local) := by
  cases e with
  | Name n p =>
    simp only [chkN, Bool.and_eq_true, decide_eq_true_eq] at h
    exact ⟨n, p, rfl, by rw [cx.N]; exact h.1, loc_of cx h.2⟩
  | _ => simp [chkN] at h
theorem s_nm (cx : Ctx T X k E) {i : Nat} {e : Expr} (h : chkN k i e = true) : PG X e (gName i) := by
  obtain ⟨n, p, rfl, h1, h2, h3⟩ := chkN_of cx h
  exact pg_name cx.nd h1 h2 h3
theorem s_nms (cx : Ctx T X k E) : ∀ (is : List Nat) (es : List Expr), chkNs k is es = true → PGs X es (gsOf is) ∧ (assignEach es X.env).length = is.length ∧ (assignEach es X.env).findIdx? (·.1) = none
  | [], [], _ => ⟨pgs_nil, rfl, rfl⟩
  | i :: is, e :: es, h => by
    simp only [chkNs, Bool.and_eq_true] at h
    obtain ⟨h1, h2, h3⟩ := s_nms cx is es h.2
    obtain ⟨n, p, rfl, _⟩ := chkN_of cx h.1
    refine ⟨pgs_cons (s_nm cx h.1) h1 rfl, ?_, ?_⟩
    · show (assignEach es X.env).length + 1 = _
      rw [h2]; rfl
    · show List.findIdx? _ ((false, _) :: assignEach es X.env) = none
      rw [List.findIdx?_cons]
      simp [h3]
  | [], _ :: _, h => by simp [chkNs] at h
  | _ :: _, [], h => by simp [chkNs] at h
theorem s_tg (cx : Ctx T X k E) {t : Tg} {e : Expr} (h : chkTg k t e = true) : PG X e (gOf X.K t) := by
  cases t with
  | nm i => exact s_nm cx h
  | tp is =>
    cases e with
    | Tuple es n p =>
      obtain ⟨h1, h2, h3⟩ := s_nms cx is es h
      exact pg_tup cx.calm h1 h2 h3
    | _ => simp [chkTg] at h

/-! ### comprehensions -/
/-- the world while a comprehension's list is made at D -/
structure Wd.inD (W1 : Wd) (p : Addr) (W : Wd) : Prop where
  sub : W1.sub W
  hid : W.hid = p :: W1.hid
  hidH : ∀ a ∈ W1.hid, W.H a = W1.H a
  frz : ∀ a o u, W1.H a = some (.frz o u) → W.H a = some (.frz o u)
  any : ∀ a, W1.H a ≠ none → W.H a ≠ none
theorem inD_start {K : PySem.W.Frag} {W1 : Wd} (ok : W1.Ok K) {p : Addr} (h : W1.H p = none) (o : HO) : W1.inD p (W1.hide p o) where
  sub := Wd.hide_sub ok h o
  hid := rfl
  hidH a ha := upd_ne fun (z : a = p) => (ok.fresh h).1 (by rw [← z]; exact ha)
  frz a ob u q := (upd_ne (ne_of_none q h)).trans q
  any a q := by
    show upd W1.H p o a ≠ none
    by_cases e : a = p
    · rw [e, upd_same]; exact fun z => nomatch z
    · rw [upd_ne e]; exact q
theorem inD_step {W1 W W' : Wd} {p : Addr} (d : W1.inD p W) (q : W.le W') : W1.inD p W' where
  sub := d.sub.trans q.sub
  hid := q.hid.trans d.hid
  hidH a ha := (q.hidH a (by rw [d.hid]; exact List.mem_cons_of_mem _ ha)).trans (d.hidH a ha)
  frz a o u h := q.frz a o u (d.frz a o u h)
  any a h := q.any a (d.any a h)
theorem inD_rew {K : PySem.W.Frag} {W1 W : Wd} {p : Addr} (ok1 : W1.Ok K) (h1 : W1.H p = none) (d : W1.inD p W) (o : HO) : W1.inD p (W.rew p o) where
  sub := ⟨fun n a h => d.sub.ads n a h, fun a u h => by
      have q := d.sub.rd a u h
      have ne : a ≠ p := by
        rcases h.1 with z | ⟨_, ob, z⟩
        · exact ne_of_none z h1
        · exact ne_of_none z h1
      exact ⟨q.1.elim (fun z => .inl ((upd_ne ne).trans z)) fun ⟨y, ob, z⟩ => .inr ⟨y, ob, (upd_ne ne).trans z⟩, q.2⟩,
    fun a xs h => (upd_ne (ne_of_none h h1)).trans (d.sub.tup a xs h), fun a ob xs h => (upd_ne (ne_of_none h h1)).trans (d.sub.frz a ob xs h)⟩
  hid := d.hid
  hidH a ha := (upd_ne fun (z : a = p) => (ok1.fresh h1).1 (by rw [← z]; exact ha)).trans (d.hidH a ha)
  frz a ob u h := (upd_ne (ne_of_none h h1)).trans (d.frz a ob u h)
  any a h := by
    show upd W.H p o a ≠ none
    by_cases e : a = p
    · rw [e, upd_same]; exact fun z => nomatch z
    · rw [upd_ne e]; exact d.any a h
def Wd.show_ (W : Wd) (hid : List Addr) : Wd := { W with hid := hid }
theorem inD_out {K : PySem.W.Frag} {W1 W : Wd} {p : Addr} (d : W1.inD p W) : W1.le (W.show_ W1.hid) where
  ads n a h := d.sub.ads n a h
  hid := rfl
  hidH := d.hidH
  rd a u h := ⟨(d.sub.rd a u h).1, h.2.1, (d.sub.rd a u h).2.2⟩
  tup := d.sub.tup
  frz := d.frz
  any := d.any
theorem show_sub {W W1 : Wd} {p : Addr} (d : W1.inD p W) : W.sub (W.show_ W1.hid) :=
  ⟨fun _ _ h => h, fun a u h => ⟨h.1, fun z => h.2.1 (by rw [d.hid]; exact List.mem_cons_of_mem _ z), h.2.2⟩, fun _ _ h => h, fun _ _ _ h => h⟩
theorem show_ok {K : PySem.W.Frag} {W W1 : Wd} {p : Addr} (d : W1.inD p W) (ok : W.Ok K) : (W.show_ W1.hid).Ok K where
  len := ok.len
  nd := ok.nd
  there := ok.there
  hid a ha := ok.hid a (by rw [d.hid]; exact List.mem_cons_of_mem _ ha)
  obj n o e := (ok.obj n o e).up (fun _ _ => rfl) (show_sub d)
theorem show_rep {K : PySem.W.Frag} {W W1 : Wd} {p : Addr} {xs : List V} {l : List D} (ok1 : W1.Ok K) (h1 : W1.H p = none) (d : W1.inD p W) (ok : W.Ok K) (hp : W.H p = some (.lst xs)) (r : RepL K W xs l) : Rep K (W.show_ W1.hid) (.ref p) (.lst l) := by
  refine .lst ⟨.inl hp, (ok1.fresh h1).1, fun n o e1 e2 => ?_⟩ (r.upS (show_sub d))
  exact absurd (List.mem_of_getElem? e1) (ok.hid p (by rw [d.hid]; exact List.mem_cons_self)).2
/-- the context of a comprehension's block -/
def blkK (k : Kx) (scope : Scope) : Kx := ⟨relS scope k.sc, k.N, fun x => scope.names.lookup x == some .cell⟩
theorem blk_ctx (cx : Ctx T X k E) (scope : Scope) (s : Shared) (H : Hp) (C₀ : Addr) (cl : List (Str × Addr)) (fp : List Addr) : Ctx T (X.blk s H scope (compEnvC scope cl C₀ X.env) fp) (blkK k scope) (fun _ _ => False) where
  tab := cx.tab
  sc := by show relS scope X.env.scope = _; rw [cx.sc]; rfl
  N := cx.N
  fn := rfl
  nd := cx.nd
  calm := cx.calm
  room := cx.room
  own := PassesOwn.never
  pass := fun σ pins H s e s' I h => by
    obtain ⟨_, _, _, _, _, _, _, _, _, _, _, _, z⟩ := h
    obtain ⟨_, _, _, z⟩ := z
    exact z.elim
def ownP (k : Kx) (own : List Nat) : List (Str × Nat) := own.filterMap fun i => (k.N[i]?).map fun x => (x, i)
theorem calm_ok {α : Type} {r : Res α} {a : α} {m : Mem} (h : r.calm = .ok a m) : r = .ok a m := by
  cases r <;> simp_all [Res.calm]
theorem bind_okE {α β : Type} {r : Res α} {f : α → Mem → Res β} {b : β} {m : Mem} (h : r.bind f = .ok b m) : ∃ a m1, r = .ok a m1 ∧ f a m1 = .ok b m := by
  cases r with
  | ok a m1 => exact ⟨a, m1, rfl, h⟩
  | exc c m1 => cases h
  | stk => cases h
theorem drop_get {α : Type} {l : List α} {i : Nat} {d : α} (h : l[i]? = some d) : l.drop i = d :: l.drop (i + 1) := by
  obtain ⟨hi, e⟩ := List.getElem?_eq_some_iff.mp h
  rw [List.drop_eq_getElem_cons hi, e]
/-- one turn, told of what the whole loop gives -/
theorem compL_cons {tst : Env → Mem → Res Bool} {elt : Env → Mem → Res D} {t : Tg} {ρ : Env} {x : D} {xs : List D} {m mf : Mem} {l : List D} (h : compL tst elt t ρ (x :: xs) m = .ok l mf) :
    ∃ ρ' b m1, bindTg t x ρ = some ρ' ∧ tst ρ' m = .ok b m1 ∧ ((b = true ∧ ∃ y m2 ys, elt ρ' m1 = .ok y m2 ∧ compL tst elt t ρ xs m2 = .ok ys mf ∧ l = y :: ys) ∨ (b = false ∧ compL tst elt t ρ xs m1 = .ok l mf)) := by
  unfold compL at h
  split at h
  · cases h
  · rename_i ρ' e
    obtain ⟨b, m1, e1, h⟩ := bind_okE h
    refine ⟨ρ', b, m1, e, e1, ?_⟩
    split at h
    · rename_i hb
      obtain ⟨y, m2, e2, h⟩ := bind_okE h
      obtain ⟨ys, m3, e3, h⟩ := bind_okE h
      cases h
      exact .inl ⟨hb, y, m2, ys, e2, e3, rfl⟩
    · rename_i hb
      exact .inr ⟨by simpa using hb, h⟩
theorem post_ok {α β : Type} {R : Wd → β → α → Prop} {K : PySem.W.Frag} {W : Wd} {E : EH} {r : Res α} {a : α} {m : Mem} {Q : β → Hp → Prop} (e : r = .ok a m) (h : ∀ b W', W.le W' → W'.Ok K → W'.M = m → R W' b a → Q b W'.H) : Post R K W r E Q := by
  rw [e]; exact h
/-- the reading of a comprehension -/
theorem comp_imp {t : Tg} {own : List Nat} {fi : Env → Mem → Res (List D)} {ft : Env → Mem → Res Bool} {fe : Env → Mem → Res D} (hsl' : ∀ i ∈ slotsOf t, i ∈ own) : ∀ σ H Q,
    den X.K E (fun ρ m => (fi ρ m).bind fun its m1 =>
      if its.length ≤ LIM then (compL (fun ρ m => (ft ρ m).calm) (fun ρ m => (fe ρ m).calm) t (wipeE ρ own) its m1).calm.bind fun l m2 => .ok (.lst l) m2 else .stk) σ H Q →
    tLc (denI X.K E fi) (gOf X.K t) (denT X.K (fun _ _ => False) ft) (den X.K (fun _ _ => False) fe) own σ H Q := fun σ H Q hq => by
  obtain ⟨W, ρ, rfl, ok, er, h⟩ := hq
  refine ⟨W, ρ, rfl, ok, er, Post.bind h fun J W1 its l1 ok1 wk h1 => ?_⟩
  have er1 := er.up l1
  split at h1
  · rename_i hlen
    cases ec : (compL (fun ρ m => (ft ρ m).calm) (fun ρ m => (fe ρ m).calm) t (wipeE ρ own) its W1.M).calm with
    | stk => rw [ec] at h1; exact h1.elim
    | exc c m => cases hh : compL (fun ρ m => (ft ρ m).calm) (fun ρ m => (fe ρ m).calm) t (wipeE ρ own) its W1.M <;> rw [hh] at ec <;> cases ec
    | ok l mf =>
      rw [ec] at h1
      have ec := calm_ok ec
      simp only [Res.bind_ok] at h1
      intro p hp
      refine ⟨fun i n H => ∃ W acc accD rest, W.H = H ∧ W.Ok X.K ∧ W1.inD p W ∧ W.H p = some (.lst acc) ∧ RepL X.K W acc accD ∧ accD.length ≤ i ∧ compL (fun ρ m => (ft ρ m).calm) (fun ρ m => (fe ρ m).calm) t (wipeE ρ own) (its.drop i) W.M = .ok rest mf ∧ l = accD ++ rest ∧ n = its.length - i ∧ i ≤ its.length,
        ⟨its.length, W1.hide p (.lst []), [], [], l, rfl, Wd.hide_ok ok1 hp _, inD_start ok1 hp _, upd_same, .nil, Nat.le_refl _, by rw [List.drop_zero]; exact ec, rfl, by omega, Nat.zero_le _⟩, ?_⟩
      rintro i n H ⟨W2, acc, accD, rest, rfl, ok2, d2, hD, racc, hacc, e2, el, rfl, hin⟩
      obtain ⟨wstop, wgo⟩ := wk W2 d2.sub ok2 i
      by_cases hlt : i < its.length
      · have hd := List.getElem?_eq_getElem hlt
        obtain ⟨go, step⟩ := wgo _ hd
        rw [drop_get hd] at e2
        obtain ⟨ρ', b, m1, eb, et, e3⟩ := compL_cons e2
        refine .inr ⟨go, fun H => ∃ W acc accD rest, W.H = H ∧ W.Ok X.K ∧ W1.inD p W ∧ W.H p = some (.lst acc) ∧ RepL X.K W acc accD ∧ accD.length ≤ i + 1 ∧ compL (fun ρ m => (ft ρ m).calm) (fun ρ m => (fe ρ m).calm) t (wipeE ρ own) (its.drop (i + 1)) W.M = .ok rest mf ∧ l = accD ++ rest,
          fun H' ⟨W', a', b', r', q1, q2, q3, q4, q5, q6, q7, q8⟩ => ⟨its.length - (i + 1), by omega, W', a', b', r', q1, q2, q3, q4, q5, q6, q7, q8, rfl, hlt⟩, fun x H' hy => ?_⟩
        obtain ⟨W3, l3, ok3, rfl, eM, rx⟩ := step x H' hy
        have er3 : ERep X.K W3 (wipe σ own) (wipeE ρ own) := ((er1.upS d2.sub).up l3).wipe own
        obtain ⟨σ', er4, _, ew, fin⟩ := bind_rep rfl er3 rx eb
        refine fin _ ⟨by rw [ew own hsl', wipe_wipe], ?_⟩
        have d3 := inD_step d2 l3
        refine ⟨W3, ρ', rfl, ok3, er4, post_ok (calm_ok (by rw [eM]; exact et)) fun b' W4 l4 ok4 e4 eb' => ?_⟩
        subst eb'
        have d4 := inD_step d3 l4
        have hD4 : W4.H p = some (.lst acc) := (l4.hidH p (by rw [d3.hid]; exact List.mem_cons_self)).trans ((l3.hidH p (by rw [d2.hid]; exact List.mem_cons_self)).trans hD)
        rcases e3 with ⟨rfl, y, m2, ys, ee, er, rfl⟩ | ⟨rfl, er⟩
        · rw [if_pos rfl]
          refine ⟨W4, ρ', rfl, ok4, er4.up l4, post_ok (calm_ok (by rw [e4]; exact ee)) fun yv W5 l5 ok5 e5 ry => ?_⟩
          have d5 := inD_step d4 l5
          have hD5 : W5.H p = some (.lst acc) := (l5.hidH p (by rw [d4.hid]; exact List.mem_cons_self)).trans hD4
          have racc5 : RepL X.K W5 acc accD := ((racc.up l3).up l4).up l5
          have hp5 : p ∈ W5.hid := by rw [d5.hid]; exact List.mem_cons_self
          have nt : ∀ xs, W5.H p ≠ some (.tup xs) := fun xs z => by rw [hD5] at z; cases z
          have nf : ∀ ob u, W5.H p ≠ some (.frz ob u) := fun ob u z => by rw [hD5] at z; cases z
          have sb := Wd.rew_sub (W := W5) hp5 nt nf (.lst (acc ++ [yv]))
          refine ⟨acc, hD5, ?_, W5.rew p (.lst (acc ++ [yv])), acc ++ [yv], accD ++ [y], ys, rfl, Wd.rew_ok ok5 hp5 nt nf _, inD_rew ok1 hp d5 _, upd_same, (racc5.upS sb).append (.cons (ry.upS sb) .nil), by simp; omega, ?_, by rw [el]; simp⟩
          · rw [racc5.length, ← lim_line]; omega
          · show compL _ _ _ _ _ W5.M = _
            rw [e5]; exact er
        · simp only [Bool.false_eq_true, if_false]
          exact ⟨W4, acc, accD, rest, rfl, ok4, d4, hD4, (racc.up l3).up l4, by omega, by rw [e4]; exact er, el⟩
      · have hge : its.length ≤ i := by omega
        rw [List.drop_eq_nil_of_le hge] at e2
        simp only [compL] at e2
        cases e2
        refine .inl ⟨wstop hge, ?_⟩
        rw [List.append_nil] at el
        subst el
        exact h1 (.ref p) (W2.show_ W1.hid) (inD_out (K := X.K) d2) (show_ok d2 ok2) rfl (show_rep ok1 hp d2 ok2 hD racc)
  · exact h1.elim
structure CompOk (T : Tab) (X : Cx) (k : Kx) (E : EH) (elt tg iter : Expr) (cs : List Expr) (scope : Scope) (t : Tg) (own : List Nat) (fi : Env → Mem → Res (List D)) (ft : Env → Mem → Res Bool) (fe : Env → Mem → Res D) : Prop where
  hi : PI X tg iter (denI X.K E fi)
  ok0 : blkC k.N k.sc scope (ownP k own) = true
  hown : (ownP k own).map (·.2) = own
  htg : chkTg (blkK k scope) t tg = true
  hsl : (slotsOf t).all (fun i => decide (i ∈ own)) = true
  ht : ∀ (X' : Cx), Ctx T X' (blkK k scope) (fun _ _ => False) → PTs X' cs (denT X'.K (fun _ _ => False) ft)
  he : ∀ (X' : Cx), Ctx T X' (blkK k scope) (fun _ _ => False) → PE X' elt (den X'.K (fun _ _ => False) fe)
  hs : ∀ x, foldedSetIterable iter X.env x = pure x
def compE (fi : Env → Mem → Res (List D)) (ft : Env → Mem → Res Bool) (fe : Env → Mem → Res D) (t : Tg) (own : List Nat) : Env → Mem → Res D := fun ρ m => (fi ρ m).bind fun its m1 =>
      if its.length ≤ LIM then (compL (fun ρ m => (ft ρ m).calm) (fun ρ m => (fe ρ m).calm) t (wipeE ρ own) its m1).calm.bind fun l m2 => .ok (.lst l) m2 else .stk
section
variable {elt iter : Expr} {cs : List Expr} {scope : Scope} {t : Tg} {own : List Nat} {fi : Env → Mem → Res (List D)} {ft : Env → Mem → Res Bool} {fe : Env → Mem → Res D}
theorem CompOk.sl (c : CompOk T X k E elt tg iter cs scope t own fi ft fe) : ∀ i ∈ slotsOf t, i ∈ own := fun i hi => by simpa using List.all_eq_true.mp c.hsl i hi
theorem CompOk.blk (cx : Ctx T X k E) (c : CompOk T X k E elt tg iter cs scope t own fi ft fe) : BlkOk X.N X.env.scope scope (ownP k own) := by
  rw [cx.N, cx.sc]
  exact blkOk_by c.ok0
theorem s_comp (cx : Ctx T X k E) (c : CompOk T X k E elt tg iter cs scope t own fi ft fe) : PE X (.ListComp elt [⟨tg, iter, cs, 0⟩] scope pos) (den X.K E (compE fi ft fe t own)) := by
  refine imE (pe_lc (own := ownP k own) (g := gOf X.K t) (tt := denT X.K (fun _ _ => False) ft) (te := den X.K (fun _ _ => False) fe) cx.calm cx.nd c.hi (c.blk cx)
    (fun s H C₀ cl fp => s_tg (blk_ctx cx scope s H C₀ cl fp) c.htg) (fun s H C₀ cl fp => c.ht _ (blk_ctx cx scope s H C₀ cl fp)) (fun s H C₀ cl fp => c.he _ (blk_ctx cx scope s H C₀ cl fp)) c.hs) fun σ H Q hq => ?_
  rw [c.hown]
  exact comp_imp c.sl σ H Q hq
/-- name = [..], the stores exchanged -/
theorem s_compSet (cx : Ctx T X k E) (c : CompOk T X k E elt tg iter cs scope t own fi ft fe) {i : Nat} {y : Str} {py spos : Pos} (hy : X.N[i]? = some y) (hyl : X.env.scope.names.lookup y = some .local)
    (hsw : swapsWith (.ListComp elt [⟨tg, iter, cs, 0⟩] scope pos) (some (.Name y py)) spos.line X.env = pure true) : PS X (.Assign [.Name y py] (.ListComp elt [⟨tg, iter, cs, 0⟩] scope pos) spos) (tAsg (den X.K E (compE fi ft fe t own)) (gName i)) := by
  refine imS (ps_setLc (own := ownP k own) (g := gOf X.K t) (tt := denT X.K (fun _ _ => False) ft) (te := den X.K (fun _ _ => False) fe) cx.calm cx.nd hy hyl hsw c.hi (c.blk cx)
    (fun s H C₀ cl fp => s_tg (blk_ctx cx scope s H C₀ cl fp) c.htg) (fun s H C₀ cl fp => c.ht _ (blk_ctx cx scope s H C₀ cl fp)) (fun s H C₀ cl fp => c.he _ (blk_ctx cx scope s H C₀ cl fp)) c.hs) fun D σ H hq => ?_
  rw [c.hown]
  exact comp_imp c.sl σ H _ hq
end
end
end HD
end

section
set_option Elab.async false
set_option linter.all false
set_option maxRecDepth 100000
set_option maxHeartbeats 4000000
/-! A24: tuples backwards; enumerate over a tuple. -/
namespace HD
open PySem PySem.Spec PyProof.Rows L2 RZ
section
variable {prog : Program} {w : World} {A : Around} {E : Value → Shared → Prop} {s : Shared}
theorem adjust_back (n : Nat) : Builtin.Slice.sliceAdjust none none (-1) (n : Int) = ((n : Int) - 1, -1) := by
  have h1 : ((-1 : Int) < 0) := by omega
  unfold Builtin.Slice.sliceAdjust
  simp only [h1, if_true]
theorem places_back (n : Nat) : Builtin.Slice.slicePlaces ((n : Int) - 1) (-1) (-1) = n := by
  unfold Builtin.Slice.slicePlaces
  have h1 : ¬ ((-1 : Int) > 0) := by omega
  simp only [h1, if_false, Int.neg_neg, Int.ediv_one]
  split <;> omega
theorem pick_back (xs : Array Value) : ((List.range xs.size).filterMap fun (m : Nat) => xs[(((xs.size : Int) - 1) + (m : Int) * (-1)).toNat]?).toArray = xs.toList.reverse.toArray := by
  congr 1
  have e : ∀ m ∈ List.range xs.size, xs[(((xs.size : Int) - 1) + (m : Int) * (-1)).toNat]? = some ((xs.toList.reverse).getD m .none) := fun m hm => by
    rw [List.mem_range] at hm
    have h2 : (((xs.size : Int) - 1) + (m : Int) * (-1)).toNat = xs.size - 1 - m := by omega
    rw [h2, List.getD_eq_getElem?_getD, List.getElem?_reverse (by simpa using hm), ← Array.getElem?_toList, Array.length_toList]
    rw [List.getElem?_eq_getElem (by simp; omega)]
    rfl
  have key : ∀ l : List Nat, (∀ m ∈ l, xs[(((xs.size : Int) - 1) + (m : Int) * (-1)).toNat]? = some ((xs.toList.reverse).getD m .none)) → l.filterMap (fun (m : Nat) => xs[(((xs.size : Int) - 1) + (m : Int) * (-1)).toNat]?) = l.map fun m => (xs.toList.reverse).getD m .none := by
    intro l
    induction l with
    | nil => intro _; rfl
    | cons a l ih =>
      intro h
      rw [List.filterMap_cons, h a List.mem_cons_self, List.map_cons, ih fun m hm => h m (List.mem_cons_of_mem _ hm)]
  rw [key _ e]
  apply List.ext_getElem
  · simp
  · intro i h1 h2
    simp at h1 h2
    simp [List.getD_eq_getElem?_getD, h2]
theorem sliceApplied_back {sl : Addr} {vl vu vs : Value} {n : Nat} {Q : Int × Int × Nat → Shared → Prop} (hs : s.heap.IsSliceOf sl vl vu vs) (pl : IsPart vl none) (pu : IsPart vu none) (ps : IsPart vs (some (-1)))
    (h : Q ((n : Int) - 1, -1, n) s) : wpAny (model prog w) A (Builtin.Slice.sliceApplied (.ref sl) (pure (n : Int))) Q E s := by
  obtain ⟨os, hos, hcs, hds⟩ := hs
  unfold Builtin.Slice.sliceApplied Builtin.Slice.sliceFields
  refine wpAny_bind (wpAny_bind (wpAny_field hos hds (x := vl) rfl (wpAny_bind (wpAny_field hos hds (x := vu) rfl (wpAny_bind (wpAny_field hos hds (x := vs) rfl (wpAny_pure ?_)))))))
  refine wpAny_bind (HT.slicePart_ ps ?_)
  show wpAny _ _ (if ((-1 : Int) == 0) = true then _ else _) _ _ s
  rw [if_neg (show ¬ ((-1 : Int) == 0) = true by decide)]
  refine wpAny_bind (HT.slicePart_ pl (wpAny_bind (HT.slicePart_ pu (wpAny_bind (wpAny_pure ?_)))))
  show wpAny _ _ (match Builtin.Slice.sliceAdjust none none (-1) (n : Int) with | (lo, hi) => pure (lo, (-1 : Int), Builtin.Slice.slicePlaces lo hi (-1))) _ _ s
  rw [adjust_back n]
  show wpAny _ _ (pure ((n : Int) - 1, (-1 : Int), Builtin.Slice.slicePlaces ((n : Int) - 1) (-1) (-1))) _ _ s
  rw [places_back]
  exact wpAny_pure h
theorem getItem_tuple_back {t sl : Addr} {items : Array Value} {vl vu vs : Value} {Q : Value → Shared → Prop} (ht : IsTup s.heap t items) (hs : s.heap.IsSliceOf sl vl vu vs) (pl : IsPart vl none) (pu : IsPart vu none) (ps : IsPart vs (some (-1)))
    (h : Q (.ref s.heap.objs.size) { s with heap := s.heap.push { cls := .type "tuple", data := .seq items.toList.reverse.toArray } }) (hsz : items.size ≤ sizeLine) : wpAny (model prog w) A (getItem (.ref t) (.ref sl)) Q E s := by
  obtain ⟨os, hos, hcs, hds⟩ := id hs
  have hSl : s.TypeIs (.ref sl) "slice" := ⟨os, hos, hcs⟩
  have fits : sizeOk (.seq items.toList.reverse.toArray) := by
    show items.toList.reverse.toArray.size ≤ sizeLine
    simpa using hsz
  unfold getItem
  try with_reducible refine wpAny_holding ?_
  first | refine wpAny_bind (wpAny_pure ?_) | skip
  refine wpAny_bind (wpAny_sequenceKey ht.typeIs (by decide) ?_)
  refine wpAny_bind (wpAny_callSpecial?_slot (name := Str.ofString "__getitem__") ht.typeIs PyProof.Rows.slot_tuple_getitem (wpAny_call_entry PyProof.Rows.slot_tuple_getitem ht.typeIs PyProof.Rows.entry_tuple_getitem ?_ (PyProof.Rows.args_tuple_getitem _ _)))
  show wpAny _ _ (Builtin.Tuple.tupleItemsOf (Value.ref t) >>= _) _ _ s
  refine wpAny_bind (tupleItemsOf_ ht (wpAny_bind (wpAny_typeOf hSl ?_)))
  rw [if_pos (show (Value.type "slice" == Value.type "slice") = true by decide)]
  refine wpAny_bind (sliceApplied_back hs pl pu ps ?_)
  have no1 : ¬ (((items.size : Int) - 1 == 0 && (-1 : Int) == 1 && items.size == items.size) = true) := by
    rw [show ((-1 : Int) == 1) = false by decide]; simp
  show wpAny _ _ (if ((items.size : Int) - 1 == 0 && (-1 : Int) == 1 && items.size == items.size) = true then _ else _) _ _ s
  rw [if_neg no1, pick_back]
  first
    | exact wpAny_bind (m := Builtin.Tuple.tupleExact _) (wpAny_newObj_type (wpAny_pure ⟨_, rfl, wpAny_pure h⟩) fits)
    | exact wpAny_bind (m := Builtin.Tuple.tupleExact _) (wpAny_newObj_type (wpAny_bind (wpAny_pure (wpAny_pure ⟨_, rfl, wpAny_pure h⟩))) fits)
    | exact wpAny_bind (wpAny_bind (m := Builtin.Tuple.tupleExact _) (wpAny_newObj_type (wpAny_pure (wpAny_pure ⟨_, rfl, wpAny_pure h⟩)) fits))
    | exact wpAny_bind (wpAny_bind (m := Builtin.Tuple.tupleExact _) (wpAny_newObj_type (wpAny_pure ⟨_, rfl, wpAny_pure h⟩) fits))
end
section
variable {X : Cx}
/-- x[::-1], x a list or a tuple -/
def tRevA (K : PySem.W.Frag) (te : TE) : TE := fun σ H Q => te σ H fun x H1 => ∃ a xs, x = .ref a ∧ ((SqL K H1 a xs ∧ ∀ p, H1 p = none → Q (.ref p) (upd H1 p (.lst xs.reverse))) ∨ (SqT K H1 a xs ∧ ∀ p, H1 p = none → Q (.ref p) (upd H1 p (.tup xs.reverse))))
theorem pe_revA {e : Expr} {te : TE} {k : Nat} {p1 p2 p3 pos : Pos} (he : PE X e te) : PE X (.Subscript e (.Slice none none (some (.UnaryOp .USub (.Constant (.int 1) k p1) p2)) p3) pos) (tRevA X.K te) := by
  refine ⟨fun pins s σ H Q I h => ?_⟩
  refine Subscript_ (thn (he.run pins s σ H _ I h) fun v s1 ⟨x, H1, I1, r1, a, xs, ex, q⟩ => ?_)
  subst ex
  cases r1
  have step1 : PO X (some (.UnaryOp .USub (.Constant (.int 1) k p1) p2)) (tPart (tUn (rU fun i => .int (-i)) (tC (.int 1)))) := po_some (pe_un un_neg pe_int)
  refine wpAny_Slice (thn (po_none.run pins s1 σ H1 (fun o H2 => o = none ∧ H2 = H1) I1 ⟨rfl, rfl⟩) fun vl s2 ⟨l, H2, I2, pl, el, e2⟩ => ?_)
  subst el e2
  refine thn (po_none.run pins s2 σ H2 (fun o H3 => o = none ∧ H3 = H2) I2 ⟨rfl, rfl⟩) fun vu s3 ⟨u, H3, I3, pu, eu, e3⟩ => ?_
  subst eu e3
  refine thn (step1.run pins s3 σ H3 (fun o H4 => o = some (-1) ∧ H4 = H3) I3 ⟨1, rfl, -1, rfl, rfl, rfl⟩) fun vs s4 ⟨o, H4, I4, ps, eo, e4⟩ => ?_
  subst eo e4
  have I5 : Inv X pins σ H4 { s4 with heap := s4.heap.push { cls := .type "slice", data := .fields #[vl, vu, vs] } } := I4.kept (t' := s4.toks) fun b ob z => Heap.get?_push_of_some _ z
  show wpAny (model X.prog X.w) X.A (subscriptTail e (.Slice none none (some (.UnaryOp .USub (.Constant (.int 1) k p1) p2)) p3) (Value.ref a) (Value.ref s4.heap.objs.size)) (EP X pins σ Q) X.xe { s4 with heap := s4.heap.push { cls := .type "slice", data := .fields #[vl, vu, vs] } }
  rcases q with ⟨hx, q⟩ | ⟨hx, q⟩
  · obtain ⟨its, r, ht, hz⟩ := I5.list hx
    have hlen := r.length
    refine tail_any (ops := [.ref a, .ref s4.heap.objs.size]) ht.isList.typeIs (PySem.slot_list_getitem.lookup) ?_ (by with_unfolding_all rfl)
    refine wpAny_getItem_list_slice ht.isList (Heap.IsSliceOf.new _ vl vu vs) pl pu ps (by decide) ?_ (by rw [List.size_toArray]; omega)
    rw [PySem.W.krv_pick]
    exact ⟨.ref _, _, I5.laid (t' := s4.toks) (o := .lst xs.reverse) (fun b ob z => Heap.get?_push_of_some _ z) (Nat.le_refl _) ⟨by rw [List.length_reverse]; exact hz, _, 0, r.reverse, Heap.get?_push_size _ rfl⟩, rfl, q _ (I5.hok.fresh (Nat.le_refl _))⟩
  · obtain ⟨its, r, ht, hz⟩ := I5.tuple hx
    have hlen := r.length
    refine tail_any (ops := [.ref a, .ref s4.heap.objs.size]) ht.typeIs (PyProof.Rows.slot_tuple_getitem.lookup) ?_ (by with_unfolding_all rfl)
    refine getItem_tuple_back ht (Heap.IsSliceOf.new _ vl vu vs) pl pu ps ?_ (by rw [List.size_toArray]; omega)
    exact ⟨.ref _, _, I5.laid (t' := s4.toks) (o := .tup xs.reverse) (fun b ob z => Heap.get?_push_of_some _ z) (Nat.le_refl _) ⟨by rw [List.length_reverse]; exact hz, _, r.reverse, IsTup.new _ _⟩, rfl, q _ (I5.hok.fresh (Nat.le_refl _))⟩
end
section
variable {X : Cx} {E : EH} {x : Expr} {fa : Env → Mem → Res D} {pos : Pos}
theorem s_rev {n : Nat} {p1 p2 p3 : Pos} (h1 : PE X x (den X.K E fa)) : PE X (.Subscript x (.Slice none none (some (.UnaryOp .USub (.Constant (.int 1) n p1) p2)) p3) pos) (den X.K E fun ρ m => (fa ρ m).bind revop) := by
  refine imE (pe_revA h1) fun σ H Q hq => ?_
  obtain ⟨W, ρ, rfl, ok, er, h⟩ := hq
  refine ⟨W, ρ, rfl, ok, er, Post.bind h fun v W1 d l1 ok1 r1 h1 => ?_⟩
  unfold revop at h1
  split at h1
  · rename_i b l e
    obtain ⟨a, xs, rfl, q1, h2⟩ := seq_rep ok1 r1 e
    cases b with
    | true => exact ⟨a, xs, rfl, .inr ⟨SqT.of (by simpa using h2), h1.newTup ok1 q1.reverse⟩⟩
    | false => exact ⟨a, xs, rfl, .inl ⟨SqL.of (by simpa using h2), h1.newLst ok1 q1.reverse⟩⟩
  · exact h1.elim
end
end HD
end

section
set_option Elab.async false
set_option linter.all false
set_option maxRecDepth 100000
set_option maxHeartbeats 4000000
/-! A25: enumerate over a tuple. -/
namespace HD
open PySem PySem.Spec PyProof.Rows L2 RZ
section
theorem meets_enum_newT (l : Addr) (items : Array Value) (n : Nat) (dct : Option Addr) (sl : Array (Option Value)) :
    Meets (Builtin.«enumerate.__new__» ⟨[.type "enumerate", .ref l], []⟩) (fun _ R s => s.heap.get? l = some { cls := .type "tuple", dict := dct, data := .seq items n, slots := sl } ∧
      R (.ok (.ret (.ref (s.heap.push { cls := .type "tuple_iterator", data := .fields #[.ref l, .int 0 0] }).objs.size)))
        { s with heap := (s.heap.push { cls := .type "tuple_iterator", data := .fields #[.ref l, .int 0 0] }).push { cls := .type "enumerate", data := .fields #[.none, .bool false, .ref s.heap.objs.size, rawInt 0, .none, .none] } }) :=
  .of_wp fun prog w A R s h => by
    obtain ⟨hp, g, d, tk, os⟩ := s; obtain ⟨hl, h⟩ := h
    have subE := PySem.sub_enumerate
    have isT : Heap.IsTuple (Shared.heap ⟨hp, g, d, tk, os⟩) l items := ⟨_, hl, rfl, n, rfl⟩
    wp_walk using AutoSeq1.wpAny_loadPart' hl
    refine wpAny_stack_any fun st => wpAny_pure ?_
    split
    · rename_i c _ _ _ _ _
      cases (c == Value.type "enumerate")
      · wp_walk using AutoSeq1.wpAny_loadPart' hl, wpAny_pyIter_tuple isT
        exact ⟨_, rfl, h⟩
      · wp_walk using AutoSeq1.wpAny_loadPart' hl, wpAny_pyIter_tuple isT
        exact ⟨_, rfl, h⟩
    · wp_walk using AutoSeq1.wpAny_loadPart' hl, wpAny_pyIter_tuple isT
      exact ⟨_, rfl, h⟩
end
section
variable {prog : Program} {w : World} {A : Around} {E : Value → Shared → Prop} {s : Shared}
theorem call_enumT {l : Addr} {items : Array Value} {Q : Value → Shared → Prop} (hL : s.heap.IsTuple l items)
    (h : ∀ h', IsEnum h' (s.heap.objs.size + 1) s.heap.objs.size 0 .none → h'.IsTupleIter s.heap.objs.size l 0 → (∀ b o, s.heap.get? b = some o → h'.get? b = some o) → Q (.ref (s.heap.objs.size + 1)) { s with heap := h' }) :
    wpAny (model prog w) A (call (.type "enumerate") [.ref l]) Q E s := by
  obtain ⟨⟨c, dct, dt, sl⟩, hl, hc, n, hd⟩ := hL
  replace hc : c = .type "tuple" := hc
  replace hd : dt = .seq items n := hd
  subst hc hd
  refine callType_new F.called_enumerate (by decide) (F.typeCall_enumerate_1 _) (F.newCall_enumerate_1 _) (fun obj => F.args_object_init_2 obj _) F.entry_enumerate_new (meets_enum_newT l items n dct sl) ⟨hl, ?_⟩
  have z1 : (s.heap.push { cls := .type "tuple_iterator", data := .fields #[.ref l, .int 0 0] }).objs.size = s.heap.objs.size + 1 := Heap.size_push ..
  show _ ∧ _
  rw [z1]
  have e1 : IsEnum ((s.heap.push { cls := .type "tuple_iterator", data := .fields #[.ref l, .int 0 0] }).push { cls := .type "enumerate", data := .fields #[.none, .bool false, .ref s.heap.objs.size, rawInt 0, .none, .none] }) (s.heap.objs.size + 1) s.heap.objs.size 0 .none := by
    have q := Heap.get?_push_size (s.heap.push { cls := .type "tuple_iterator", data := .fields #[.ref l, .int 0 0] }) (o := { cls := .type "enumerate", data := .fields #[.none, .bool false, .ref s.heap.objs.size, rawInt 0, .none, .none] }) rfl
    rw [z1] at q; exact q
  exact ⟨⟨_, e1, rfl⟩, h _ e1 ⟨_, Heap.get?_push_of_some _ (Heap.get?_push_size _ rfl), rfl, rfl⟩ fun b o x => Heap.get?_push_of_some _ (Heap.get?_push_of_some _ x)⟩
end
/-- the tuple at a, each item in a new pair -/
def IteT (K : PySem.W.Frag) (a : Addr) : It :=
  ⟨fun i H => ∃ (xs : List V) (x : V), SqT K H a xs ∧ xs[i]? = some x, fun i H v H' => ∃ T x, v = .ref T ∧ H T = none ∧ H' = upd H T (.tup [.int (i : Nat), x]) ∧ ∀ xs, SqT K H a xs → xs[i]? = some x, fun i H => ∃ xs : List V, SqT K H a xs ∧ xs.length ≤ i⟩
theorem turn_enumT {P : Program} {w : World} {K : PySem.W.Frag} {elts : List Expr} {kk : Nat} {tpos : Pos} (a e it : Addr) :
    Turn P w K (.Tuple elts kk tpos) (IteT K a) [e, it] e (fun i h => (∃ old, IsEnum h e it ((i : Nat) : Int) old) ∧ h.IsTupleIter it a i ∧ e ≠ it) where
  mem := by simp
  obj := fun i h st b hb => by
    obtain ⟨⟨old, he⟩, ⟨o, ho, hc, hd⟩, _⟩ := st
    rcases (by simpa using hb : b = e ∨ b = it) with z | z
    · rw [z]; exact ⟨_, he, fun v q => nomatch q⟩
    · rw [z]; exact ⟨o, ho, fun v q => by rw [hd] at q; cases q⟩
  keep := fun i h h' st k => let ⟨⟨old, he⟩, hi, hne⟩ := st; ⟨⟨old, k e (by simp) _ he⟩, hi.at fun o q => k it (by simp) o q, hne⟩
  item := by
    intro X hP hw hK hc i pins s σ H E I hf st hg
    subst hP hw hK
    obtain ⟨⟨old, he⟩, hit, hne⟩ := st
    obtain ⟨xs, x, hq, hx⟩ := hg
    obtain ⟨its, rv, p, hz⟩ := I.tuple hq
    obtain ⟨u, hu, ru⟩ := rv.get hx
    have hel : e < s.heap.objs.size := Heap.lt_size he
    have hil : it < s.heap.objs.size := by obtain ⟨_, q, _⟩ := hit; exact Heap.lt_size q
    have nea : a ≠ it := fun z => by
      obtain ⟨o1, h1, h2, _⟩ := p
      obtain ⟨o2, h3, h4, _⟩ := hit
      rw [z, h3] at h1
      cases h1
      rw [h4] at h2
      exact absurd h2 (by decide)
    have neb : e ≠ a := fun z => by
      obtain ⟨o1, h1, h2, _⟩ := p
      have he' : s.heap.get? e = _ := he
      rw [z, h1] at he'
      cases he'
      exact absurd (show Value.type "enumerate" = Value.type "tuple" from h2) (by decide)
    have hlt : i < its.toArray.size := by
      have := (List.getElem?_eq_some_iff.mp hu).1
      simpa using this
    refine wpAny_pyNext_enum_itemD (Draws.tuple (show X.A.in1.handled = none from I.ok.hd hc) it a nea its.toArray) he ⟨hit, p⟩ hlt hne (by simp [hne, neb]) fun y h' tk hy ho hit' hT hsz hk => ?_
    obtain rfl : y = u := by
      have : its.toArray[i]? = some u := by simpa using hu
      rw [this] at hy; exact (Option.some.inj hy).symm
    refine ⟨_, rfl, wpAny_letOwnedTupleGo_enum (s := { s with heap := h', toks := tk + 1 }) ho fun h'' he' sb => ?_⟩
    have hT2 : h''.get? s.heap.objs.size = some { cls := .type "tuple", data := .seq #[.int i tk, y] } := (sb.2 _ (Nat.ne_of_gt hel)).trans hT
    have fresh : ObjOk X.prog X.w (upd H s.heap.objs.size (.tup [.int (i : Nat), x])) h'' s.heap.objs.size (.tup [.int (i : Nat), x]) :=
      ⟨by show 2 ≤ sizeLine; decide, [.int i tk, y], .cons ⟨_, rfl⟩ (.cons ru .nil), ⟨_, hT2, rfl, _, rfl⟩⟩
    have I1 : Inv X pins σ (upd H s.heap.objs.size (.tup [.int (i : Nat), x])) { s with heap := h'', toks := tk + 1 } :=
      I.turnedNew (ch := [e, it]) (fun b ob hb q => (sb.2 b (fun z => hb (by simp [z]))).trans (hk b ob (fun z => hb (by simp [z])) (fun z => hb (by simp [z])) q)) hf (Nat.le_refl _) fresh
    refine ⟨.ref s.heap.objs.size, _, I1, rfl, ⟨_, x, rfl, I.hok.fresh (Nat.le_refl _), rfl, fun ys hy => by rw [I.tuple_inj hy hq]; exact hx⟩, ⟨⟨y, ?_⟩, hit'.1.at fun o q => (sb.2 it (Ne.symm hne)).trans q, hne⟩, fun b hb => ?_⟩
    · rw [show ((i + 1 : Nat) : Int) = (i : Int) + 1 by omega]; exact he'
    · have hb' : b < s.heap.objs.size := by
        rcases (by simpa using hb : b = e ∨ b = it) with z | z
        · rw [z]; exact hel
        · rw [z]; exact hil
      rw [upd_ne (Nat.ne_of_lt hb')]
      exact (hf b hb).1
  done := by
    intro X hP hw hK hc i pins s σ H E I hf st hg
    subst hP hw hK
    obtain ⟨⟨old, he⟩, hit, hne⟩ := st
    obtain ⟨xs, hq, hx⟩ := hg
    obtain ⟨its, rv, p, hz⟩ := I.tuple hq
    obtain ⟨f0, f1, f2, f3, f4, f5⟩ := hf it (by simp)
    have hl := rv.length
    have nea : a ≠ it := fun z => by
      obtain ⟨o1, h1, h2, _⟩ := p
      obtain ⟨o2, h3, h4, _⟩ := hit
      rw [z, h3] at h1
      cases h1
      rw [h4] at h2
      exact absurd h2 (by decide)
    have hT : s.TypeIs (.ref e) "enumerate" := ⟨_, he, rfl⟩
    unfold pyNext
    refine wpAny_bind (wpAny_attempt (wpAny_callSpecial?_slot (name := Str.ofString "__next__") hT F.slot_enumerate_next (wpAny_call_entry F.slot_enumerate_next hT F.entry_enumerate_next ?_ (F.args_enumerate_next_1 _))))
    show wpAny _ _ (field (Value.ref e) 2 >>= _) _ _ _
    refine wpAny_bind (wpAny_field he rfl (x := .ref it) rfl ?_)
    refine wpAny_bind (wpAny_nextOf_tuple_end (show X.A.in1.handled = none from I.ok.hd hc) hit p (by simp; omega) fun h' x he' hx' => ?_)
    obtain ⟨o, ho, hcl⟩ := hx'
    refine wpAny_bind (wpAny_isInstance (T := "StopIteration") (b := true) ⟨o, ho, hcl⟩ isSubtype_stop ?_)
    exact wpAny_pure ⟨rfl, I.turned (t' := s.toks) (fun b o hb q => he' b o hb q) f0 f1 f3 f4 f5⟩
  self := fun A i s Q E st h => let ⟨⟨_, he⟩, _⟩ := st; wpAny_pyIter_enum he h
def iEnumT (K : PySem.W.Frag) (ta : TA) : TI := fun σ H R => ta σ H fun vs H1 => ∃ a xs, vs = [.ref a] ∧ SqT K H1 a xs ∧ R (IteT K a) H1
theorem pi_enumT {X : Cx} {e : Expr} {ta : TA} {p pos tpos : Pos} {elts : List Expr} {kk : Nat} (hg : Gl X "enumerate") (hm : X.mg "enumerate" = none) (ha : PA X [e] ta) (hs : starEach [e] X.env = [(false, eval e X.env)]) :
    PI X (.Tuple elts kk tpos) (.Call (.Name "enumerate" p) [e] [] pos) (iEnumT X.K ta) := by
  refine ⟨fun pins s σ H R I h => ?_⟩
  refine Call_ (ld_blt I hg hm boot_enumerate (PyProof.Rows.callWith_type1 (thn (ha.run pos pins s σ H _ I h) fun us s1 ⟨vs, H1, I1, r1, a, xs, ex, hq, q⟩ => ?_) hs rfl))
  subst ex
  cases r1 with
  | cons r rr =>
    cases rr
    cases r
    obtain ⟨its, rv, p', hz⟩ := I1.tuple hq
    refine call_enumT p' fun h' he hit hk => wpAny_pyIter_enum he ?_
    have I2 : Inv X pins σ H1 { s1 with heap := h' } := I1.kept (t' := s1.toks) hk
    refine ⟨s1.heap.objs.size + 1, [s1.heap.objs.size + 1, s1.heap.objs.size], _, _, H1, rfl, I2, turn_enumT a (s1.heap.objs.size + 1) s1.heap.objs.size, ⟨⟨.none, he⟩, hit, Nat.succ_ne_self _⟩, fun b hb => ?_, q⟩
    have hle : s1.heap.objs.size ≤ b := by
      rcases (by simpa using hb : b = s1.heap.objs.size + 1 ∨ b = s1.heap.objs.size) with z | z
      · rw [z]; exact Nat.le_add_right _ _
      · rw [z]; exact Nat.le_refl _
    exact I1.fpOk hle (I1.hok.fresh hle)
section
variable {T : Tab} {X : Cx} {k : Kx} {E : EH} {x : Expr} {fl : Env → Mem → Res (List D)} {pos : Pos}
theorem walks_enumT {K : PySem.W.Frag} {W0 : Wd} {a : Addr} {xs : List V} {l : List D} (ha : W0.H a = some (.tup xs)) (ra : RepL K W0 xs l) : Walks K W0 (IteT K a) (numbered 0 l) :=
  walks_pair (fun W q ok i hi => by
    rw [numbered_length] at hi
    exact ⟨xs, SqT.of (q.tup _ _ ha), by rw [ra.length]; exact hi⟩) fun W q ok i d hd => by
    obtain ⟨y, e1, rfl⟩ := numbered_get hd
    obtain ⟨v, e3, r3⟩ := ra.get e1
    have h1 := SqT.of (K := K) (q.tup _ _ ha)
    refine ⟨⟨xs, v, h1, e3⟩, fun z H' hy => ?_⟩
    obtain ⟨p, u, rfl, hp, rfl, f1⟩ := hy
    have := f1 xs h1
    rw [e3] at this
    cases this
    exact ⟨p, _, _, rfl, hp, rfl, rfl, by rw [Nat.zero_add]; exact .cons (.int _) (.cons (r3.upS q) .nil)⟩
theorem enum_eq (r : Res (List D)) : itsOf .enum r = r.bind fun ds m1 => match ds with | [.lst l] => .ok (numbered 0 l) m1 | [.tup l] => .ok (numbered 0 l) m1 | _ => .stk := by
  cases r with
  | ok ds m =>
    cases ds with
    | nil => rfl
    | cons d ds =>
      cases ds with
      | nil => cases d <;> rfl
      | cons _ _ => cases d <;> rfl
  | exc c m => rfl
  | stk => rfl
theorem s_enumI (cx : Ctx T X k E) {p tpos : Pos} {elts : List Expr} {kk : Nat} (hg : k.sc.names.lookup ("enumerate" : Str) = some NameKind.globalImplicit) (hs : PySem.W.isStarred x = false) (h : PA X [x] (denL X.K E fl)) :
    PI X (.Tuple elts kk tpos) (.Call (.Name "enumerate" p) [x] [] pos) (denI X.K E fun ρ m => itsOf .enum (fl ρ m)) := by
  have both : PA X [x] (fun σ H Q => denL X.K E fl σ H Q) := h
  refine ⟨fun pins s σ H R I hq => ?_⟩
  obtain ⟨W, ρ, rfl, ok, er, h2⟩ := hq
  dsimp only at h2
  rw [enum_eq] at h2
  -- a list or a tuple: known ahead, from what the argument comes to
  cases hf : fl ρ W.M with
  | ok ds m =>
    rw [hf] at h2
    simp only [Res.bind_ok] at h2
    have base : ∀ (Q : List V → Hp → Prop), (∀ vs W1, W.le W1 → W1.Ok X.K → W1.M = m → RepL X.K W1 vs ds → Q vs W1.H) → denL X.K E fl σ W.H Q := fun Q hQ => ⟨W, ρ, rfl, ok, er, by rw [hf]; exact fun vs W1 a b c d => hQ vs W1 a b c d⟩
    cases ds with
    | nil => exact h2.elim
    | cons d ds =>
      cases ds with
      | cons _ _ => cases d <;> exact h2.elim
      | nil =>
        cases d with
        | lst l =>
          refine (pi_enum (cx.gl hg) (cx.blt (by decide)) h (star_cons hs)).run pins s σ W.H R I (base _ fun vs W1 l1 ok1 hm r1 => ?_)
          obtain ⟨v, rfl, r2⟩ := rep1 r1
          cases r2 with
          | lst g1 g2 => exact ⟨_, _, rfl, SqL.of (lst_at g1), h2 _ W1 l1 ok1 hm (walks_enumL g1 g2)⟩
        | tup l =>
          refine (pi_enumT (cx.gl hg) (cx.blt (by decide)) h (star_cons hs)).run pins s σ W.H R I (base _ fun vs W1 l1 ok1 hm r1 => ?_)
          obtain ⟨v, rfl, r2⟩ := rep1 r1
          cases r2 with
          | tup g1 g2 => exact ⟨_, _, rfl, SqT.of g1, h2 _ W1 l1 ok1 hm (walks_enumT g1 g2)⟩
        | _ => exact h2.elim
  | exc c m =>
    rw [hf] at h2
    refine (pi_enum (cx.gl hg) (cx.blt (by decide)) h (star_cons hs)).run pins s σ W.H R I ⟨W, ρ, rfl, ok, er, ?_⟩
    rw [hf]
    exact h2
  | stk =>
    rw [hf] at h2
    exact h2.elim
end
end HD
end

section
set_option Elab.async false
set_option linter.all false
set_option maxRecDepth 100000
set_option maxHeartbeats 4000000
/-! A26: comprehensions with two fors; len(set(..)) of ints. -/
namespace HD
open PySem PySem.Spec PyProof.Rows L2 RZ
theorem calm_mk {α : Type} {r : Res α} {a : α} {m : Mem} (h : r = .ok a m) : r.calm = .ok a m := by rw [h]; rfl
theorem compL2_cons {tst : Env → Mem → Res Bool} {inner : Env → Mem → Res (List D)} {t : Tg} {ρ : Env} {x : D} {xs : List D} {m mf : Mem} {l : List D} (h : compL2 tst inner t ρ (x :: xs) m = .ok l mf) :
    ∃ ρ' b m1, bindTg t x ρ = some ρ' ∧ tst ρ' m = .ok b m1 ∧ ((b = true ∧ ∃ ys m2 zs, inner ρ' m1 = .ok ys m2 ∧ compL2 tst inner t ρ xs m2 = .ok zs mf ∧ l = ys ++ zs) ∨ (b = false ∧ compL2 tst inner t ρ xs m1 = .ok l mf)) := by
  unfold compL2 at h
  split at h
  · cases h
  · rename_i ρ' e
    obtain ⟨b, m1, e1, h⟩ := bind_okE h
    refine ⟨ρ', b, m1, e, e1, ?_⟩
    split at h
    · rename_i hb
      obtain ⟨ys, m2, e2, h⟩ := bind_okE h
      obtain ⟨zs, m3, e3, h⟩ := bind_okE h
      cases h
      exact .inl ⟨hb, ys, m2, zs, e2, e3, rfl⟩
    · rename_i hb
      exact .inr ⟨by simpa using hb, h⟩
def innerE (fi2 : Env → Mem → Res (List D)) (ft2 : Env → Mem → Res Bool) (fe : Env → Mem → Res D) (t2 : Tg) (own2 : List Nat) : Env → Mem → Res (List D) := fun ρ m =>
  ((fi2 ρ m).calm).bind fun its2 m1 => compL (fun ρ m => (ft2 ρ m).calm) (fun ρ m => (fe ρ m).calm) t2 (wipeE ρ own2) its2 m1
def comp2E (fi : Env → Mem → Res (List D)) (ft : Env → Mem → Res Bool) (t : Tg) (fi2 : Env → Mem → Res (List D)) (ft2 : Env → Mem → Res Bool) (t2 : Tg) (fe : Env → Mem → Res D) (own own2 : List Nat) : Env → Mem → Res D := fun ρ m => (fi ρ m).bind fun its m1 =>
  (compL2 (fun ρ m => (ft ρ m).calm) (innerE fi2 ft2 fe t2 own2) t (wipeE ρ own) its m1).calm.bind fun l m2 => if l.length ≤ LIM then .ok (.lst l) m2 else .stk
section
variable {T : Tab} {X : Cx} {k : Kx} {E : EH} {tg : Expr} {pos : Pos}
/-- the reading of a comprehension with two fors -/
theorem comp2_imp {t t2 : Tg} {own own2 : List Nat} {fi fi2 : Env → Mem → Res (List D)} {ft ft2 : Env → Mem → Res Bool} {fe : Env → Mem → Res D} (hsl' : ∀ i ∈ slotsOf t, i ∈ own) (hsl2 : ∀ i ∈ slotsOf t2, i ∈ own2) : ∀ σ H Q,
    den X.K E (comp2E fi ft t fi2 ft2 t2 fe own own2) σ H Q →
    tLc2 (denI X.K E fi) (gOf X.K t) (denT X.K (fun _ _ => False) ft) (denI X.K (fun _ _ => False) fi2) (gOf X.K t2) (denT X.K (fun _ _ => False) ft2) (den X.K (fun _ _ => False) fe) own own2 σ H Q := fun σ H Q hq => by
  obtain ⟨W, ρ, rfl, ok, er, h⟩ := hq
  refine ⟨W, ρ, rfl, ok, er, Post.bind h fun J W1 its l1 ok1 wk h1 => ?_⟩
  have er1 := er.up l1
  cases ec : (compL2 (fun ρ m => (ft ρ m).calm) (innerE fi2 ft2 fe t2 own2) t (wipeE ρ own) its W1.M).calm with
  | stk => rw [ec] at h1; exact h1.elim
  | exc c m => cases hh : compL2 (fun ρ m => (ft ρ m).calm) (innerE fi2 ft2 fe t2 own2) t (wipeE ρ own) its W1.M <;> rw [hh] at ec <;> cases ec
  | ok l mf =>
    rw [ec] at h1
    have ec := calm_ok ec
    simp only [Res.bind_ok] at h1
    by_cases hlim : l.length ≤ LIM
    · rw [if_pos hlim] at h1
      intro p hp
      refine ⟨fun i n H => ∃ W acc accD rest, W.H = H ∧ W.Ok X.K ∧ W1.inD p W ∧ W.H p = some (.lst acc) ∧ RepL X.K W acc accD ∧ compL2 (fun ρ m => (ft ρ m).calm) (innerE fi2 ft2 fe t2 own2) t (wipeE ρ own) (its.drop i) W.M = .ok rest mf ∧ l = accD ++ rest ∧ n = its.length - i ∧ i ≤ its.length,
        ⟨its.length, W1.hide p (.lst []), [], [], l, rfl, Wd.hide_ok ok1 hp _, inD_start ok1 hp _, upd_same, .nil, by rw [List.drop_zero]; exact ec, rfl, by omega, Nat.zero_le _⟩, ?_⟩
      rintro i n H ⟨W2, acc, accD, rest, rfl, ok2, d2, hD, racc, e2, el, rfl, hin⟩
      obtain ⟨wstop, wgo⟩ := wk W2 d2.sub ok2 i
      by_cases hlt : i < its.length
      · have hd := List.getElem?_eq_getElem hlt
        obtain ⟨go, step⟩ := wgo _ hd
        rw [drop_get hd] at e2
        obtain ⟨ρ', b, m1, eb, et, e3⟩ := compL2_cons e2
        refine .inr ⟨go, fun H => ∃ W acc accD rest, W.H = H ∧ W.Ok X.K ∧ W1.inD p W ∧ W.H p = some (.lst acc) ∧ RepL X.K W acc accD ∧ compL2 (fun ρ m => (ft ρ m).calm) (innerE fi2 ft2 fe t2 own2) t (wipeE ρ own) (its.drop (i + 1)) W.M = .ok rest mf ∧ l = accD ++ rest,
          fun H' ⟨W', a', b', r', q1, q2, q3, q4, q5, q7, q8⟩ => ⟨its.length - (i + 1), by omega, W', a', b', r', q1, q2, q3, q4, q5, q7, q8, rfl, hlt⟩, fun x H' hy => ?_⟩
        obtain ⟨W3, l3, ok3, rfl, eM, rx⟩ := step x H' hy
        have er3 : ERep X.K W3 (wipe σ own) (wipeE ρ own) := ((er1.upS d2.sub).up l3).wipe own
        obtain ⟨σ', er4, _, ew, fin⟩ := bind_rep rfl er3 rx eb
        refine fin _ ⟨by rw [ew own hsl', wipe_wipe], ?_⟩
        have d3 := inD_step d2 l3
        refine ⟨W3, ρ', rfl, ok3, er4, post_ok (calm_ok (by rw [eM]; exact et)) fun b' W4 l4 ok4 e4 eb' => ?_⟩
        subst eb'
        have d4 := inD_step d3 l4
        have hD4 : W4.H p = some (.lst acc) := (l4.hidH p (by rw [d3.hid]; exact List.mem_cons_self)).trans ((l3.hidH p (by rw [d2.hid]; exact List.mem_cons_self)).trans hD)
        rcases e3 with ⟨rfl, ys, m2, zs, ee, er5, rfl⟩ | ⟨rfl, er5⟩
        · rw [if_pos rfl]
          obtain ⟨its2, m3, ei, ej⟩ := bind_okE ee
          have ei := calm_ok ei
          refine ⟨W4, ρ', rfl, ok4, er4.up l4, post_ok (by rw [e4]; exact ei) fun J1 W5 l5 ok5 e5 wk2 => ?_⟩
          have d5 := inD_step d4 l5
          have hD5 : W5.H p = some (.lst acc) := (l5.hidH p (by rw [d4.hid]; exact List.mem_cons_self)).trans hD4
          have racc5 : RepL X.K W5 acc accD := ((racc.up l3).up l4).up l5
          have er6 : ERep X.K W5 σ' ρ' := (er4.up l4).up l5
          refine ⟨fun j n H => ∃ W acc2 accD2 rest2, W.H = H ∧ W.Ok X.K ∧ W1.inD p W ∧ W5.sub W ∧ W.H p = some (.lst acc2) ∧ RepL X.K W acc2 accD2 ∧ compL (fun ρ m => (ft2 ρ m).calm) (fun ρ m => (fe ρ m).calm) t2 (wipeE ρ' own2) (its2.drop j) W.M = .ok rest2 m2 ∧ accD ++ ys = accD2 ++ rest2 ∧ n = its2.length - j ∧ j ≤ its2.length,
            ⟨its2.length, W5, acc, accD, ys, rfl, ok5, d5, (Wd.le.refl W5).sub, hD5, racc5, by rw [List.drop_zero, e5]; exact ej, rfl, by omega, Nat.zero_le _⟩, ?_⟩
          rintro j n H ⟨V2, acc2, accD2, rest2, rfl, okv, dv, sv, hDv, raccv, ev2, elv, rfl, hjn⟩
          obtain ⟨wstop2, wgo2⟩ := wk2 V2 sv okv j
          by_cases hlt2 : j < its2.length
          · have hd2 := List.getElem?_eq_getElem hlt2
            obtain ⟨go2, step2⟩ := wgo2 _ hd2
            rw [drop_get hd2] at ev2
            obtain ⟨ρ2, b2, n1, eb2, et2, e32⟩ := compL_cons ev2
            refine .inr ⟨go2, fun H => ∃ W acc2 accD2 rest2, W.H = H ∧ W.Ok X.K ∧ W1.inD p W ∧ W5.sub W ∧ W.H p = some (.lst acc2) ∧ RepL X.K W acc2 accD2 ∧ compL (fun ρ m => (ft2 ρ m).calm) (fun ρ m => (fe ρ m).calm) t2 (wipeE ρ' own2) (its2.drop (j + 1)) W.M = .ok rest2 m2 ∧ accD ++ ys = accD2 ++ rest2,
              fun H' ⟨W', a', b', r', q1, q2, q3, q3', q4, q5, q7, q8⟩ => ⟨its2.length - (j + 1), by omega, W', a', b', r', q1, q2, q3, q3', q4, q5, q7, q8, rfl, hlt2⟩, fun x2 H' hy2 => ?_⟩
            obtain ⟨V3, k3, okv3, rfl, eM2, rx2⟩ := step2 x2 H' hy2
            have er7 : ERep X.K V3 (wipe σ' own2) (wipeE ρ' own2) := ((er6.upS sv).up k3).wipe own2
            obtain ⟨σ3, er8, _, ew2, fin2⟩ := bind_rep rfl er7 rx2 eb2
            refine fin2 _ ⟨by rw [ew2 own2 hsl2, wipe_wipe], ?_⟩
            have dv3 := inD_step dv k3
            refine ⟨V3, ρ2, rfl, okv3, er8, post_ok (calm_ok (by rw [eM2]; exact et2)) fun c' V4 k4 okv4 f4 ec' => ?_⟩
            subst ec'
            have dv4 := inD_step dv3 k4
            have hDv4 : V4.H p = some (.lst acc2) := (k4.hidH p (by rw [dv3.hid]; exact List.mem_cons_self)).trans ((k3.hidH p (by rw [dv.hid]; exact List.mem_cons_self)).trans hDv)
            rcases e32 with ⟨rfl, y, n2, ys2, ey, ez, rfl⟩ | ⟨rfl, ez⟩
            · rw [if_pos rfl]
              refine ⟨V4, ρ2, rfl, okv4, er8.up k4, post_ok (calm_ok (by rw [f4]; exact ey)) fun yv V5 k5 okv5 f5 ry => ?_⟩
              have dv5 := inD_step dv4 k5
              have hDv5 : V5.H p = some (.lst acc2) := (k5.hidH p (by rw [dv4.hid]; exact List.mem_cons_self)).trans hDv4
              have raccv5 : RepL X.K V5 acc2 accD2 := ((raccv.up k3).up k4).up k5
              have hp5 : p ∈ V5.hid := by rw [dv5.hid]; exact List.mem_cons_self
              have nt : ∀ xs, V5.H p ≠ some (.tup xs) := fun xs z => by rw [hDv5] at z; cases z
              have nf : ∀ ob u, V5.H p ≠ some (.frz ob u) := fun ob u z => by rw [hDv5] at z; cases z
              have sb := Wd.rew_sub (W := V5) hp5 nt nf (.lst (acc2 ++ [yv]))
              refine ⟨acc2, hDv5, ?_, V5.rew p (.lst (acc2 ++ [yv])), acc2 ++ [yv], accD2 ++ [y], ys2, rfl, Wd.rew_ok okv5 hp5 nt nf _, inD_rew ok1 hp dv5 _, ((sv.trans k3.sub).trans (k4.sub.trans k5.sub)).trans sb, upd_same, (raccv5.upS sb).append (.cons (ry.upS sb) .nil), ?_, by rw [elv]; simp⟩
              · have h3 : (accD ++ (ys ++ zs)).length ≤ LIM := by rw [← el]; exact hlim
                have h4 := congrArg List.length elv
                rw [raccv5.length, ← lim_line]
                simp at h3 h4
                omega
              · show compL _ _ _ _ _ V5.M = _
                rw [f5]; exact ez
            · simp only [Bool.false_eq_true, if_false]
              exact ⟨V4, acc2, accD2, rest2, rfl, okv4, dv4, (sv.trans k3.sub).trans k4.sub, hDv4, (raccv.up k3).up k4, by rw [f4]; exact ez, elv⟩
          · have hge : its2.length ≤ j := by omega
            rw [List.drop_eq_nil_of_le hge] at ev2
            simp only [compL] at ev2
            cases ev2
            refine .inl ⟨wstop2 hge, ?_⟩
            rw [List.append_nil] at elv
            exact ⟨V2, acc2, accD2, zs, rfl, okv, dv, hDv, raccv, er5, by rw [el, ← elv]; simp⟩
        · simp only [Bool.false_eq_true, if_false]
          exact ⟨W4, acc, accD, rest, rfl, ok4, d4, hD4, (racc.up l3).up l4, by rw [e4]; exact er5, el⟩
      · have hge : its.length ≤ i := by omega
        rw [List.drop_eq_nil_of_le hge] at e2
        simp only [compL2] at e2
        cases e2
        refine .inl ⟨wstop hge, ?_⟩
        rw [List.append_nil] at el
        subst el
        exact h1 (.ref p) (W2.show_ W1.hid) (inD_out (K := X.K) d2) (show_ok d2 ok2) rfl (show_rep ok1 hp d2 ok2 hD racc)
    · rw [if_neg hlim] at h1
      exact h1.elim
structure Comp2Ok (T : Tab) (X : Cx) (k : Kx) (E : EH) (elt tg iter : Expr) (cs : List Expr) (tg2 iter2 : Expr) (cs2 : List Expr) (scope : Scope) (t t2 : Tg) (own own2 : List Nat) (fi : Env → Mem → Res (List D)) (ft : Env → Mem → Res Bool) (fi2 : Env → Mem → Res (List D)) (ft2 : Env → Mem → Res Bool) (fe : Env → Mem → Res D) : Prop where
  hi : PI X tg iter (denI X.K E fi)
  ok0 : blkC k.N k.sc scope (ownP k own) = true
  hown : (ownP k own).map (·.2) = own
  htg : chkTg (blkK k scope) t tg = true
  htg2 : chkTg (blkK k scope) t2 tg2 = true
  hsl : (slotsOf t).all (fun i => decide (i ∈ own)) = true
  hsl2 : (slotsOf t2).all (fun i => decide (i ∈ own2)) = true
  hv : own2.all (fun i => decide (i ∈ own)) = true
  ht : ∀ (X' : Cx), Ctx T X' (blkK k scope) (fun _ _ => False) → PTs X' cs (denT X'.K (fun _ _ => False) ft)
  hi2 : ∀ (X' : Cx), Ctx T X' (blkK k scope) (fun _ _ => False) → PI X' tg2 iter2 (denI X'.K (fun _ _ => False) fi2)
  ht2 : ∀ (X' : Cx), Ctx T X' (blkK k scope) (fun _ _ => False) → PTs X' cs2 (denT X'.K (fun _ _ => False) ft2)
  he : ∀ (X' : Cx), Ctx T X' (blkK k scope) (fun _ _ => False) → PE X' elt (den X'.K (fun _ _ => False) fe)
  hs : ∀ x, foldedSetIterable iter X.env x = pure x
  hs2 : ∀ env x, foldedSetIterable iter2 env x = pure x
theorem s_comp2 {elt iter tg2 iter2 : Expr} {cs cs2 : List Expr} {scope : Scope} {t t2 : Tg} {own own2 : List Nat} {fi fi2 : Env → Mem → Res (List D)} {ft ft2 : Env → Mem → Res Bool} {fe : Env → Mem → Res D}
    (cx : Ctx T X k E) (c : Comp2Ok T X k E elt tg iter cs tg2 iter2 cs2 scope t t2 own own2 fi ft fi2 ft2 fe) : PE X (.ListComp elt [⟨tg, iter, cs, 0⟩, ⟨tg2, iter2, cs2, 0⟩] scope pos) (den X.K E (comp2E fi ft t fi2 ft2 t2 fe own own2)) := by
  have blk : BlkOk X.N X.env.scope scope (ownP k own) := by
    rw [cx.N, cx.sc]
    exact blkOk_by c.ok0
  refine imE (pe_lc2 (own := ownP k own) (vs1 := own2) (g := gOf X.K t) (g1 := gOf X.K t2) (tt := denT X.K (fun _ _ => False) ft) (tt1 := denT X.K (fun _ _ => False) ft2) (wi1 := denI X.K (fun _ _ => False) fi2) (te := den X.K (fun _ _ => False) fe) cx.calm cx.nd c.hi blk
    (fun i hi => by rw [c.hown]; simpa using List.all_eq_true.mp c.hv i hi)
    (fun s H C₀ cl fp => s_tg (blk_ctx cx scope s H C₀ cl fp) c.htg) (fun s H C₀ cl fp => c.ht _ (blk_ctx cx scope s H C₀ cl fp)) (fun s H C₀ cl fp => c.hi2 _ (blk_ctx cx scope s H C₀ cl fp))
    (fun s H C₀ cl fp => s_tg (blk_ctx cx scope s H C₀ cl fp) c.htg2) (fun s H C₀ cl fp => c.ht2 _ (blk_ctx cx scope s H C₀ cl fp)) (fun s H C₀ cl fp => c.he _ (blk_ctx cx scope s H C₀ cl fp)) c.hs c.hs2) fun σ H Q hq => ?_
  rw [c.hown]
  exact comp2_imp (fun i hi => by simpa using List.all_eq_true.mp c.hsl i hi) (fun i hi => by simpa using List.all_eq_true.mp c.hsl2 i hi) σ H Q hq
/-- len(set(x)) -/
theorem s_lenset {x : Expr} {fa : Env → Mem → Res D} {p p2 pos2 : Pos} (cx : Ctx T X k E) (hg : k.sc.names.lookup ("len" : Str) = some NameKind.globalImplicit) (hg2 : k.sc.names.lookup ("set" : Str) = some NameKind.globalImplicit) (hs : PySem.W.isStarred x = false) (ha : PE X x (den X.K E fa)) :
    PE X (.Call (.Name "len" p) [.Call (.Name "set" p2) [x] [] pos2] [] pos) (den X.K E fun ρ m => (fa ρ m).bind lensetop) := by
  refine imE (RZ.pe_lenSetI (cx.gl hg) (cx.blt (by decide)) (cx.gl hg2) (cx.blt (by decide)) ha cx.calm (star_cons hs)) fun σ H Q hq => ?_
  obtain ⟨W, ρ, rfl, ok, er, h⟩ := hq
  refine ⟨W, ρ, rfl, ok, er, Post.bind h fun v W1 d l1 ok1 r1 h1 => ?_⟩
  unfold lensetop at h1
  split at h1
  · rename_i is e
    split at h1
    · rename_i hc
      obtain ⟨a, rfl, h2⟩ := ints_at ok1 r1 e
      exact ⟨a, is, rfl, SqL.of (by simpa using h2), hc.1, hc.2, h1.here ok1 (.int _)⟩
    · exact h1.elim
  · exact h1.elim
end
end HD
end

section
set_option Elab.async false
set_option linter.all false
set_option maxRecDepth 100000
set_option maxHeartbeats 4000000
/-! A13: statements. -/
namespace HD
open PySem PySem.Spec PyProof.Rows L2
def PostS (K : PySem.W.Frag) (E : EH) (W : Wd) (r : SRes) (en : Ends) : Prop := match r with
  | .nx ρ m => ∀ σ W', W.le W' → W'.Ok K → W'.M = m → ERep K W' σ ρ → en.nx σ W'.H
  | .rt d m => ∀ v W', W.le W' → W'.Ok K → W'.M = m → Rep K W' v d → en.rt v W'.H
  | .ex c m => ∀ W', W.le W' → W'.Ok K → W'.M = m → E c W'.H
  | .stk => False
def denS (K : PySem.W.Frag) (E : EH) (f : Env → Mem → SRes) : TS := fun en σ H => ∃ W ρ, W.H = H ∧ W.Ok K ∧ ERep K W σ ρ ∧ PostS K E W (f ρ W.M) en
section
variable {K : PySem.W.Frag} {W W' : Wd} {E : EH} {en : Ends}
theorem PostS.up {r : SRes} (h : PostS K E W r en) (q : W.le W') : PostS K E W' r en := by
  cases r with
  | nx ρ m => exact fun σ W2 h1 h2 h3 h4 => h σ W2 (q.trans h1) h2 h3 h4
  | rt d m => exact fun σ W2 h1 h2 h3 h4 => h σ W2 (q.trans h1) h2 h3 h4
  | ex c m => exact fun W2 h1 h2 h3 => h W2 (q.trans h1) h2 h3
  | stk => exact h
theorem PostS.toS {α β : Type} {R : Wd → β → α → Prop} {r : Res α} {f : α → Mem → SRes} {Q1 : β → Hp → Prop} (h : PostS K E W (r.toS f) en)
    (k : ∀ b W1 a, W.le W1 → W1.Ok K → R W1 b a → PostS K E W1 (f a W1.M) en → Q1 b W1.H) : Post R K W r E Q1 := by
  cases r with
  | ok a m =>
    intro b W1 h1 h2 h3 h4
    subst h3
    exact k b W1 a h1 h2 h4 (PostS.up h h1)
  | exc c m => exact h
  | stk => exact h
theorem PostS.bind {r : SRes} {f : Env → Mem → SRes} {N : L2.St → Hp → Prop} {bk ct : L2.St → Hp → Prop} (h : PostS K E W (r.bind f) en)
    (k : ∀ σ W1 ρ, W.le W1 → W1.Ok K → ERep K W1 σ ρ → PostS K E W1 (f ρ W1.M) en → N σ W1.H) : PostS K E W r { nx := N, rt := en.rt, bk := bk, ct := ct } := by
  cases r with
  | nx ρ m =>
    intro σ W1 h1 h2 h3 h4
    subst h3
    exact k σ W1 ρ h1 h2 h4 (PostS.up h h1)
  | rt d m => exact h
  | ex c m => exact h
  | stk => exact h
theorem PostS.here {ρ : Env} {σ : L2.St} (h : PostS K E W (.nx ρ W.M) en) (ok : W.Ok K) (er : ERep K W σ ρ) : en.nx σ W.H := h σ W (Wd.le.refl W) ok rfl er
theorem PostS.hereR {d : D} {v : V} {en : Ends} (h : PostS K E W (.rt d W.M) en) (ok : W.Ok K) (r : Rep K W v d) : en.rt v W.H := h v W (Wd.le.refl W) ok rfl r
theorem PostS.step {ρ : Env} {m : Mem} {σ : L2.St} (h : PostS K E W (.nx ρ m) en) (q : W.le W') (ok : W'.Ok K) (e : W'.M = m) (er : ERep K W' σ ρ) : en.nx σ W'.H := h σ W' q ok e er
end
section
variable {T : Tab} {X : Cx} {k : Kx} {E : EH} {a b c x y z tg : Expr} {es : List Expr} {fa fb fc : Env → Mem → Res D} {fl : Env → Mem → Res (List D)} {pos : Pos} {st : Stmt} {sts : List Stmt}
theorem imSs {st : List Stmt} {t t' : TS} (h : PSs X st t) (k : ∀ en σ H, t' en σ H → t en σ H) : PSs X st t' := ⟨fun pins s σ H en I hw => h.run pins s σ H en I (k _ _ _ hw)⟩
theorem t_nil : PSs X [] (denS X.K E fun ρ m => .nx ρ m) := imSs pss_nil fun en σ H hq => by
  obtain ⟨W, ρ, rfl, ok, er, h⟩ := hq
  exact PostS.here h ok er
theorem t_cons {f g : Env → Mem → SRes} (h1 : PS X st (denS X.K E f)) (h2 : PSs X sts (denS X.K E g)) : PSs X (st :: sts) (denS X.K E fun ρ m => (f ρ m).bind g) := imSs (pss_cons h1 h2) fun en σ H hq => by
  obtain ⟨W, ρ, rfl, ok, er, h⟩ := hq
  exact ⟨W, ρ, rfl, ok, er, PostS.bind h fun σ W1 ρ1 l1 ok1 er1 h1 => ⟨W1, ρ1, rfl, ok1, er1, h1⟩⟩
theorem set_imp {i : Nat} : ∀ en σ H, denS X.K E (fun ρ m => (fa ρ m).toS fun d m1 => .nx (ρ.set i (some d)) m1) en σ H → tAsg (den X.K E fa) (gName i) en σ H := fun en σ H hq => by
  obtain ⟨W, ρ, rfl, ok, er, h⟩ := hq
  exact ⟨W, ρ, rfl, ok, er, PostS.toS h fun v W1 d l1 ok1 r1 h1 => PostS.here h1 ok1 ((er.up l1).set r1 i)⟩
/-- [..] that is made on the right of a local name's store -/
def isComp : Expr → Bool
  | .ListComp .. => true
  | .SetComp .. => true
  | .DictComp .. => true
  | _ => false
theorem sw_no {e : Expr} (h : isComp e = false) {t : Option Expr} {l : Nat} {env : PySem.Env} : swapsWith e t l env = pure false := by
  cases e <;> first | rfl | (simp [isComp] at h)
def compScope : Expr → Option Scope
  | .ListComp _ _ s _ => some s
  | _ => none
def swB (sc : Scope) (e : Expr) (t : Str) (pos : Pos) : Bool := match compScope e with
  | some s => (if sc.kind.isAnnotationScope then ScopeKind.function else sc.kind) == .function && sc.names.lookup t == some .local && pos.line == e.pos.line && !(s.names.any fun (n, k) => n == t && (k == .local || k == .cell))
  | none => false
theorem sw_comp {sc : Scope} {e : Expr} {t : Str} {p : Pos} {l : Nat} {env : PySem.Env} (hs : env.scope = sc) (h : (compScope e).isSome = true) : swapsWith e (some (.Name t p)) l env = pure (swB sc e t p) := by
  subst hs
  cases e <;> first | (simp [compScope] at h; done) | rfl
theorem t_set (cx : Ctx T X k E) {i : Nat} {n : Str} {p : Pos} (h1 : k.N[i]? = some n) (h2 : locB k n = true) (h : PE X x (den X.K E fa)) (hs : swapsWith x (some (.Name n p)) pos.line X.env = pure false) :
    PS X (.Assign [.Name n p] x pos) (denS X.K E fun ρ m => (fa ρ m).toS fun d m1 => .nx (ρ.set i (some d)) m1) :=
  imS (ps_set cx.nd (by rw [cx.N]; exact h1) (loc_of cx h2).1 h hs (loc_of cx h2).2) set_imp
theorem t_setC (cx : Ctx T X k E) {i : Nat} {n : Str} {p : Pos} {elt iter : Expr} {cs : List Expr} {scope : Scope} {t : Tg} {own : List Nat} {fi : Env → Mem → Res (List D)} {ft : Env → Mem → Res Bool} {fe : Env → Mem → Res D} {cpos : Pos} (h1 : k.N[i]? = some n) (h2 : locB k n = true)
    (h : CompOk T X k E elt tg iter cs scope t own fi ft fe) :
    PS X (.Assign [.Name n p] (.ListComp elt [⟨tg, iter, cs, 0⟩] scope cpos) pos) (denS X.K E fun ρ m => (compE fi ft fe t own ρ m).toS fun d m1 => .nx (ρ.set i (some d)) m1) := by
  have e := sw_comp (sc := k.sc) (e := .ListComp elt [⟨tg, iter, cs, 0⟩] scope cpos) (t := n) (p := p) (l := pos.line) (env := X.env) cx.sc rfl
  cases hb : swB k.sc (.ListComp elt [⟨tg, iter, cs, 0⟩] scope cpos) n p with
  | false => exact t_set cx h1 h2 (s_comp cx h) (by rw [e, hb])
  | true =>
    rw [hb] at e
    have hl : X.env.scope.names.lookup n = some .local := by
      unfold swB at hb
      simp only [compScope, Bool.and_eq_true, beq_iff_eq] at hb
      rw [cx.sc]; exact hb.1.1.2
    exact imS (s_compSet cx h (by rw [cx.N]; exact h1) hl e) set_imp
end
end HD
end

section
set_option Elab.async false
set_option linter.all false
set_option maxRecDepth 100000
set_option maxHeartbeats 4000000
/-! A14: what changes things. -/
namespace HD
open PySem PySem.Spec PyProof.Rows L2
section
variable {K : PySem.W.Frag} {W : Wd}
theorem nt_lst {H : Hp} {a : Addr} {xs : List V} (h : H a = some (.lst xs)) : (∀ ys, H a ≠ some (.tup ys)) ∧ ∀ ob u, H a ≠ some (.frz ob u) := ⟨fun ys z => (by rw [h] at z; cases z), fun ob u z => (by rw [h] at z; cases z)⟩
theorem nt_dk {H : Hp} {a : Addr} {xs : List (Key × V)} (h : H a = some (.dK xs)) : (∀ ys, H a ≠ some (.tup ys)) ∧ ∀ ob u, H a ≠ some (.frz ob u) := ⟨fun ys z => (by rw [h] at z; cases z), fun ob u z => (by rw [h] at z; cases z)⟩
theorem nt_dt {H : Hp} {a : Addr} {xs : List (List Key × V)} (h : H a = some (.dT xs)) : (∀ ys, H a ≠ some (.tup ys)) ∧ ∀ ob u, H a ≠ some (.frz ob u) := ⟨fun ys z => (by rw [h] at z; cases z), fun ob u z => (by rw [h] at z; cases z)⟩
/-- a list of the store -/
theorem at_lst (ok : W.Ok K) {v : V} {n : Nat} {l : List D} (r : Rep K W v (.ref n)) (h : W.M[n]? = some (.lst l)) : ∃ a xs, v = .ref a ∧ W.ads[n]? = some a ∧ W.H a = some (.lst xs) ∧ RepL K W xs l := by
  cases r with
  | ref h1 =>
    cases ok.obj n _ h with
    | lst e1 e2 e3 =>
      rw [h1] at e1
      cases e1
      exact ⟨_, _, rfl, h1, e2, e3⟩
theorem at_dk (ok : W.Ok K) {v : V} {n : Nat} {l : List (Key × D)} (r : Rep K W v (.ref n)) (h : W.M[n]? = some (.dk l)) : ∃ a xs, v = .ref a ∧ W.ads[n]? = some a ∧ W.H a = some (.dK xs) ∧ RepK K W xs l := by
  cases r with
  | ref h1 =>
    cases ok.obj n _ h with
    | dk e1 e2 e3 =>
      rw [h1] at e1
      cases e1
      exact ⟨_, _, rfl, h1, e2, e3⟩
theorem at_dt (ok : W.Ok K) {v : V} {n : Nat} {l : List (List Key × D)} (r : Rep K W v (.ref n)) (h : W.M[n]? = some (.dt l)) : ∃ a xs, v = .ref a ∧ W.ads[n]? = some a ∧ W.H a = some (.dT xs) ∧ RepT K W xs l := by
  cases r with
  | ref h1 =>
    cases ok.obj n _ h with
    | dt e1 e2 e3 =>
      rw [h1] at e1
      cases e1
      exact ⟨_, _, rfl, h1, e2, e3⟩
theorem put_lst (ok : W.Ok K) {n : Nat} {a : Addr} {l l' : List D} {xs xs' : List V} (hn : W.ads[n]? = some a) (hl : W.M[n]? = some (.lst l)) (hH : W.H a = some (.lst xs)) (r : RepL K W xs' l') :
    W.le (W.put n a (.lst xs') (.lst l')) ∧ (W.put n a (.lst xs') (.lst l')).Ok K := by
  have q := Wd.put_le ok hn hl (by simp) (nt_lst hH).1 (nt_lst hH).2 (.lst xs') (.lst l')
  refine ⟨q, Wd.put_ok ok hn hl (by simp) (nt_lst hH).1 (nt_lst hH).2 (.lst (a := a) hn upd_same (r.up q))⟩
theorem put_dk (ok : W.Ok K) {n : Nat} {a : Addr} {l l' : List (Key × D)} {xs xs' : List (Key × V)} (hn : W.ads[n]? = some a) (hl : W.M[n]? = some (.dk l)) (hH : W.H a = some (.dK xs)) (r : RepK K W xs' l') :
    W.le (W.put n a (.dK xs') (.dk l')) ∧ (W.put n a (.dK xs') (.dk l')).Ok K := by
  have q := Wd.put_le ok hn hl (by simp) (nt_dk hH).1 (nt_dk hH).2 (.dK xs') (.dk l')
  refine ⟨q, Wd.put_ok ok hn hl (by simp) (nt_dk hH).1 (nt_dk hH).2 (.dk (a := a) hn upd_same (r.up q))⟩
theorem put_dt (ok : W.Ok K) {n : Nat} {a : Addr} {l l' : List (List Key × D)} {xs xs' : List (List Key × V)} (hn : W.ads[n]? = some a) (hl : W.M[n]? = some (.dt l)) (hH : W.H a = some (.dT xs)) (r : RepT K W xs' l') :
    W.le (W.put n a (.dT xs') (.dt l')) ∧ (W.put n a (.dT xs') (.dt l')).Ok K := by
  have q := Wd.put_le ok hn hl (by simp) (nt_dt hH).1 (nt_dt hH).2 (.dT xs') (.dt l')
  refine ⟨q, Wd.put_ok ok hn hl (by simp) (nt_dt hH).1 (nt_dt hH).2 (.dt (a := a) hn upd_same (r.up q))⟩
theorem RepK.append : ∀ {xs ys : List (Key × V)} {us ws : List (Key × D)}, RepK K W xs us → RepK K W ys ws → RepK K W (xs ++ ys) (us ++ ws)
  | _, _, _, _, .nil, s => s
  | _, _, _, _, .cons r t, s => .cons r (RepK.append t s)
theorem RepT.append : ∀ {xs ys : List (List Key × V)} {us ws : List (List Key × D)}, RepT K W xs us → RepT K W ys ws → RepT K W (xs ++ ys) (us ++ ws)
  | _, _, _, _, .nil, s => s
  | _, _, _, _, .cons r t, s => .cons r (RepT.append t s)
theorem RepK.over {k : Key} {v : V} {d : D} (r : Rep K W v d) : ∀ {xs : List (Key × V)} {us : List (Key × D)}, RepK K W xs us → RepK K W (xs.map fun kv => if kv.1 = k then (kv.1, v) else kv) (us.map fun kv => if kv.1 = k then (kv.1, d) else kv)
  | _, _, .nil => .nil
  | _, _, .cons (k := k') r' t => by
    rw [List.map_cons, List.map_cons]
    by_cases e : k' = k
    · simp only [e, if_true]; exact .cons r (RepK.over r t)
    · simp only [e, if_false]; exact .cons r' (RepK.over r t)
theorem RepT.over {k : List Key} {v : V} {d : D} (r : Rep K W v d) : ∀ {xs : List (List Key × V)} {us : List (List Key × D)}, RepT K W xs us → RepT K W (xs.map fun kv => if kv.1 = k then (kv.1, v) else kv) (us.map fun kv => if kv.1 = k then (kv.1, d) else kv)
  | _, _, .nil => .nil
  | _, _, .cons (k := k') r' t => by
    rw [List.map_cons, List.map_cons]
    by_cases e : k' = k
    · simp only [e, if_true]; exact .cons r (RepT.over r t)
    · simp only [e, if_false]; exact .cons r' (RepT.over r t)
theorem RepK.put {k : Key} {v : V} {d : D} (r : Rep K W v d) {xs : List (Key × V)} {us : List (Key × D)} (h : RepK K W xs us) : RepK K W (putK xs k v) (putD us k d) := by
  unfold putK putD
  rw [valV_any]
  rcases lookK_rep (k := k) h with ⟨e1, e2⟩ | ⟨y, x, e1, e2, _⟩
  · rw [e1, e2]
    simp only [Option.isSome_none, Bool.false_eq_true, if_false]
    exact h.append (.cons r .nil)
  · rw [e1, e2]
    simp only [Option.isSome_some, if_true]
    exact h.over r
theorem RepT.put {k : List Key} {v : V} {d : D} (r : Rep K W v d) {xs : List (List Key × V)} {us : List (List Key × D)} (h : RepT K W xs us) : RepT K W (putK xs k v) (putD us k d) := by
  unfold putK putD
  rw [valV_any]
  rcases lookT_rep (k := k) h with ⟨e1, e2⟩ | ⟨y, x, e1, e2, _⟩
  · rw [e1, e2]
    simp only [Option.isSome_none, Bool.false_eq_true, if_false]
    exact h.append (.cons r .nil)
  · rw [e1, e2]
    simp only [Option.isSome_some, if_true]
    exact h.over r
end
section
variable {T : Tab} {X : Cx} {k : Kx} {E : EH} {a b c x y z tg : Expr} {es : List Expr} {fa fb fc : Env → Mem → Res D} {fl : Env → Mem → Res (List D)} {pos : Pos} {st : Stmt} {sts : List Stmt}
/-- o[i] = v -/
def rPut (K : PySem.W.Frag) : TSet := fun o i v H Q => ∃ W dO dI dV m', W.H = H ∧ W.Ok K ∧ Rep K W o dO ∧ Rep K W i dI ∧ Rep K W v dV ∧ putop dO dI dV W.M = some m' ∧ ∀ W' : Wd, W.le W' → W'.Ok K → W'.M = m' → Q W'.H
theorem put_sound (hu : X.A.units + 1 < cLine) : PSet X (rPut X.K) := by
  intro pins s σ H o i v ov iv u Q I ro ri rv h
  obtain ⟨W, dO, dI, dV, m', rfl, ok, r1, r2, r3, e, q⟩ := h
  unfold putop at e
  split at e
  · rename_i n
    split at e
    · rename_i l el
      obtain ⟨a, xs, rfl, hn, hH, rl⟩ := at_lst ok r1 el
      split at e
      · rename_i j
        cases r2
        split at e
        · rename_i jn ej
          cases e
          obtain ⟨q1, q2⟩ := put_lst ok hn el hH (rl.set r3 jn)
          refine set_list pins s σ W.H _ _ v ov iv u Q I ro ri rv ⟨a, xs, j, jn, rfl, rfl, hH, by rw [rl.length]; exact ej, ?_⟩
          exact q _ q1 q2 rfl
        · cases e
      · cases e
    · rename_i l el
      obtain ⟨a, xs, rfl, hn, hH, rl⟩ := at_dk ok r1 el
      split at e
      · rename_i kk ek
        split at e
        · rename_i hl
          cases e
          have ei := keyOf_rep r2 ek
          subst ei
          obtain ⟨q1, q2⟩ := put_dk ok hn el hH (rl.put r3 (k := kk))
          refine set_dict hu pins s σ W.H _ _ v ov iv u Q I ro ri rv ⟨a, _, rfl, DPut.k hH ?_, q _ q1 q2 rfl⟩
          rw [rl.length, ← lim_line]; exact hl
        · cases e
      · cases e
    · rename_i l el
      obtain ⟨a, xs, rfl, hn, hH, rl⟩ := at_dt ok r1 el
      split at e
      · rename_i kk ek
        split at e
        · rename_i hl
          cases e
          cases r2 with
          | tup h1 h2 =>
            have eu := keysOf_rep h2 (by simpa [tkeyOf] using ek)
            subst eu
            obtain ⟨q1, q2⟩ := put_dt ok hn el hH (rl.put r3 (k := kk))
            refine set_dict hu pins s σ W.H _ _ v ov iv u Q I ro ri rv ⟨a, _, rfl, DPut.t hH h1 ?_, q _ q1 q2 rfl⟩
            rw [rl.length, ← lim_line]; exact hl
          | _ => simp [tkeyOf] at ek
        · cases e
      · cases e
    · cases e
  · cases e
theorem asg_sub (h : isSliceB y = false) {p : Pos} : ∀ v env, assign (.Subscript x y p) env v = (do
      let ov ← holding [v] (eval x env)
      let iv ← holding [v, ov] (eval y env)
      standAt p
      holding [v, ov, iv] (setItem ov iv v)
      release [v, ov, iv] []) := fun v env => by
  cases y <;> first | rfl | (simp [isSliceB] at h)
theorem PostS.okM {K : PySem.W.Frag} {E : EH} {W : Wd} {o : Option Mem} {ρ : Env} {en : Ends} {σ : L2.St} (h : PostS K E W (okM o ρ) en) (er : ERep K W σ ρ) : ∃ m', o = some m' ∧ ∀ W' : Wd, W.le W' → W'.Ok K → W'.M = m' → en.nx σ W'.H := by
  cases o with
  | none => exact h.elim
  | some m => exact ⟨m, rfl, fun W' q1 q2 q3 => h σ W' q1 q2 q3 (er.up q1)⟩
theorem t_put (cx : Ctx T X k E) (hi : isSliceB y = false) (h1 : PE X x (den X.K E fa)) (h2 : PE X y (den X.K E fb)) (h3 : PE X z (den X.K E fc)) {p : Pos} :
    PS X (.Assign [.Subscript x y p] z pos) (denS X.K E fun ρ m => (fc ρ m).toS fun x m1 => (fa ρ m1).toS fun a m2 => (fb ρ m2).toS fun k m3 => okM (putop a k x m3) ρ) := by
  have hu : X.A.units + 1 < cLine := by have := cx.hu; omega
  have hs : swapsWithSole [.Subscript x y p] z pos.line X.env = pure false := by
    show swapsWith z (some (.Subscript x y p)) pos.line X.env = pure false
    cases z <;> rfl
  refine imS (ps_asg h3 (pg_sub h1 h2 (put_sound hu) (fun v => asg_sub hi v X.env)) hs (by cases z <;> rfl) rfl) fun en σ H hq => ?_
  obtain ⟨W, ρ, rfl, ok, er, h⟩ := hq
  refine ⟨W, ρ, rfl, ok, er, PostS.toS h fun v W1 d1 l1 ok1 r1 h1 => ⟨W1, ρ, rfl, ok1, er.up l1, PostS.toS h1 fun v2 W2 d2 l2 ok2 r2 h2 => ⟨W2, ρ, rfl, ok2, (er.up l1).up l2, PostS.toS h2 fun v3 W3 d3 l3 ok3 r3 h3 => ?_⟩⟩⟩
  obtain ⟨m', e, q⟩ := PostS.okM h3 (((er.up l1).up l2).up l3)
  exact ⟨W3, d2, d3, d1, m', rfl, ok3, r2.up l3, r3, (r1.up l2).up l3, e, q⟩
/-! methods -/
def isNm : Expr → Bool
  | .Name .. => true
  | _ => false
theorem base_nm {o : Expr} (h : isNm o = true) (f : Str) (env : PySem.Env) (t : Sem Value) : attributeBase o f env t = t := by
  cases o <;> first | rfl | (simp [isNm] at h)
theorem few1 {e : Expr} {env : PySem.Env} {p : Pos} (hs : PySem.W.isStarred e = false) : ((backTo p (starEach [e] env)).all (fun x => !x.1) && (backToKw p (keywordEach [] env)).all (fun x => x.1.isSome)
    && decide (([e] : List Expr).length + ([] : List Keyword).length + (if ([] : List Keyword).isEmpty then 0 else 1) < 30)) = true := by
  rw [star_cons hs]; rfl
theorem lst_ty {K : PySem.W.Frag} {W : Wd} (ok : W.Ok K) {v : V} {d : D} (r : Rep K W v d) (h : isLst W.M d = true) : tyV K "list" v W.H := by
  unfold isLst at h
  split at h
  · rename_i n
    split at h
    · rename_i l e
      obtain ⟨a, xs, rfl, hn, hH, rl⟩ := at_lst ok r e
      exact .inl ⟨rfl, xs, SqL.of hH⟩
    · cases h
  · cases h
theorem t_app (cx : Ctx T X k E) (hn : isNm x = true) (hs : PySem.W.isStarred y = false) {p cpos : Pos} (hl : (p.endLine == cpos.line) = true) {ce : C} (h1 : PE X x (den X.K E fa)) (h2 : PE X y (den X.K E (ev T.Φ ce))) :
    PS X (.Expr (.Call (.Attribute x "append" p) [y] [] cpos) pos) (denS X.K E fun ρ m => (fa ρ m).toS fun a m1 => if isLst m1 a then (ev T.Φ ce ρ m1).toS fun x m2 => okM (appop a x m2) ρ else .stk) := by
  refine imS (ps_expr (pe_bm PySem.F.plainAttrs_list PySem.F.slot_list_append PySem.F.type_list_append mt_append h1 (s_cons hs h2 s_nil) (base_nm hn _ _ _) (few1 hs) hl (star_cons hs) rfl) (by rfl)) fun en σ H hq => ?_
  obtain ⟨W, ρ, rfl, ok, er, h⟩ := hq
  refine ⟨W, ρ, rfl, ok, er, PostS.toS h fun v W1 d1 l1 ok1 r1 h1 => ?_⟩
  split at h1
  · rename_i hl
    refine ⟨lst_ty ok1 r1 hl, W1, ρ, rfl, ok1, er.up l1, ?_⟩
    rw [evL_one]
    have h1' : PostS X.K E W1 (((ev T.Φ ce ρ W1.M).bind fun d m1 => Res.ok [d] m1).toS fun ds m2 => match ds with | [x] => okM (appop d1 x m2) ρ | _ => .stk) en := by
      cases e : ev T.Φ ce ρ W1.M <;> rw [e] at h1 <;> exact h1
    refine PostS.toS h1' fun vs W2 ds l2 ok2 r2 h2 => ?_
    split at h2
    · rename_i d2
      obtain ⟨w, rfl, r3⟩ := rep1 r2
      obtain ⟨m', e, q⟩ := PostS.okM h2 ((er.up l1).up l2)
      have r1' := r1.up l2
      unfold appop at e
      split at e
      · rename_i n
        split at e
        · rename_i l el
          split at e
          · rename_i hlen
            cases e
            obtain ⟨a, xs, rfl, hn, hH, rl⟩ := at_lst ok2 r1' el
            obtain ⟨q1, q2⟩ := put_lst ok2 hn el hH (rl.append (.cons r3 .nil))
            exact ⟨a, xs, w, rfl, rfl, hH, by rw [rl.length, ← lim_line]; exact hlen, q _ q1 q2 rfl⟩
          · cases e
        · cases e
      · cases e
    · exact h2.elim
  · exact h1.elim
theorem placeI_get : ∀ {is : List Int} {i : Int} {j : Nat}, placeI is i = some j → is[j]? = some i ∧ ∀ m : Nat, m < j → is[m]? ≠ some i
  | [], _, _, h => by simp [placeI] at h
  | x :: r, i, j, h => by
    unfold placeI at h
    split at h
    · rename_i e
      cases h
      subst e
      exact ⟨rfl, fun m hm => absurd hm (Nat.not_lt_zero _)⟩
    · rename_i e
      obtain ⟨j', e1, rfl⟩ := Option.map_eq_some_iff.mp h
      obtain ⟨h1, h2⟩ := placeI_get e1
      refine ⟨by simpa using h1, fun m hm => ?_⟩
      cases m with
      | zero => simpa using e
      | succ m => simpa using h2 m (by omega)
theorem t_rem (cx : Ctx T X k E) (hn : isNm x = true) (hs : PySem.W.isStarred y = false) {p cpos : Pos} (hl : (p.endLine == cpos.line) = true) {ce : C} (h1 : PE X x (den X.K E fa)) (h2 : PE X y (den X.K E (ev T.Φ ce))) :
    PS X (.Expr (.Call (.Attribute x "remove" p) [y] [] cpos) pos) (denS X.K E fun ρ m => (fa ρ m).toS fun a m1 => if isLst m1 a then (ev T.Φ ce ρ m1).toS fun x m2 => okM (remop a x m2) ρ else .stk) := by
  refine imS (ps_expr (pe_bm PySem.F.plainAttrs_list PySem.F.slot_list_remove PySem.F.type_list_remove mt_remove h1 (s_cons hs h2 s_nil) (base_nm hn _ _ _) (few1 hs) hl (star_cons hs) rfl) (by rfl)) fun en σ H hq => ?_
  obtain ⟨W, ρ, rfl, ok, er, h⟩ := hq
  refine ⟨W, ρ, rfl, ok, er, PostS.toS h fun v W1 d1 l1 ok1 r1 h1 => ?_⟩
  split at h1
  · rename_i hl
    refine ⟨lst_ty ok1 r1 hl, W1, ρ, rfl, ok1, er.up l1, ?_⟩
    rw [evL_one]
    have h1' : PostS X.K E W1 (((ev T.Φ ce ρ W1.M).bind fun d m1 => Res.ok [d] m1).toS fun ds m2 => match ds with | [x] => okM (remop d1 x m2) ρ | _ => .stk) en := by
      cases e : ev T.Φ ce ρ W1.M <;> rw [e] at h1 <;> exact h1
    refine PostS.toS h1' fun vs W2 ds l2 ok2 r2 h2 => ?_
    split at h2
    · rename_i d2
      obtain ⟨w, rfl, r3⟩ := rep1 r2
      obtain ⟨m', e, q⟩ := PostS.okM h2 ((er.up l1).up l2)
      have r1' := r1.up l2
      unfold remop at e
      split at e
      · rename_i n i
        cases r3
        split at e
        · rename_i l el
          split at e
          · rename_i is eis
            split at e
            · rename_i j ej
              cases e
              obtain ⟨a, xs, rfl, hn, hH, rl⟩ := at_lst ok2 r1' el
              obtain ⟨q1, q2⟩ := put_lst ok2 hn el hH (rl.erase j)
              have exs := RepL.of_ints rl eis
              subst exs
              obtain ⟨g1, g2⟩ := placeI_get ej
              refine ⟨a, is, i, j, rfl, rfl, hH, g1, g2, ?_⟩
              rw [← erase_mapI]
              exact q _ q1 q2 rfl
            · cases e
          · cases e
        · cases e
      · cases e
    · exact h2.elim
  · exact h1.elim
theorem ixN_i {n : Nat} {i : Int} {j : Nat} (h : ixN n i = some j) : seqIndex? i n = some j := (ixN_seq h).1
theorem s_popAt (cx : Ctx T X k E) (hn : isNm x = true) (hs : PySem.W.isStarred y = false) {p cpos : Pos} (hl : (p.endLine == cpos.line) = true) {ce : C} (h1 : PE X x (den X.K E fa)) (h2 : PE X y (den X.K E (ev T.Φ ce))) :
    PE X (.Call (.Attribute x "pop" p) [y] [] cpos) (den X.K E fun ρ m => (fa ρ m).bind fun a m1 => if isLst m1 a then (ev T.Φ ce ρ m1).bind fun b m2 => popop a b m2 else .stk) := by
  refine imE (pe_bm PySem.F.plainAttrs_list PySem.F.slot_list_pop PySem.F.type_list_pop mt_popAt h1 (s_cons hs h2 s_nil) (base_nm hn _ _ _) (few1 hs) hl (star_cons hs) rfl) fun σ H Q hq => ?_
  obtain ⟨W, ρ, rfl, ok, er, h⟩ := hq
  refine ⟨W, ρ, rfl, ok, er, Post.bind h fun v W1 d1 l1 ok1 r1 h1 => ?_⟩
  split at h1
  · rename_i hl
    refine ⟨lst_ty ok1 r1 hl, W1, ρ, rfl, ok1, er.up l1, ?_⟩
    rw [evL_one]
    have h1' : Post (Rep X.K) X.K W1 (((ev T.Φ ce ρ W1.M).bind fun d m1 => Res.ok [d] m1).bind fun ds m2 => match ds with | [x] => popop d1 x m2 | _ => .stk) E Q := by
      cases e : ev T.Φ ce ρ W1.M <;> rw [e] at h1 <;> exact h1
    refine Post.bind h1' fun vs W2 ds l2 ok2 r2 h2 => ?_
    split at h2
    · rename_i d2
      obtain ⟨w, rfl, r3⟩ := rep1 r2
      have r1' := r1.up l2
      unfold popop at h2
      split at h2
      · rename_i n i
        cases r3
        split at h2
        · rename_i l el
          split at h2
          · rename_i j ej
            split at h2
            · rename_i d ed
              split at h2
              · rename_i hsm
                obtain ⟨hs1, hs2⟩ := small_of hsm
                obtain ⟨a, xs, rfl, hn, hH, rl⟩ := at_lst ok2 r1' el
                obtain ⟨q1, q2⟩ := put_lst ok2 hn el hH (rl.erase j)
                obtain ⟨yv, ey, ry⟩ := rl.get ed
                refine ⟨a, xs, i, j, yv, rfl, rfl, hH, by omega, by omega, ixN_i (by rw [rl.length]; exact ej), ey, ?_⟩
                exact h2 yv _ q1 q2 rfl (ry.up q1)
              · exact h2.elim
            · exact h2.elim
          · exact h2.elim
        · exact h2.elim
      · exact h2.elim
    · exact h2.elim
  · exact h1.elim
theorem dic_is {K : PySem.W.Frag} {W : Wd} (ok : W.Ok K) {v : V} {d : D} (r : Rep K W v d) (h : isDic W.M d = true) : ∃ a, v = .ref a ∧ IsD W.H a := by
  unfold isDic at h
  split at h
  · cases r with
    | dk h1 h2 => exact ⟨_, rfl, .inl ⟨_, h1.1.imp id fun ⟨_, z⟩ => z⟩⟩
  · cases r with
    | dt h1 h2 => exact ⟨_, rfl, .inr ⟨_, h1.1.imp id fun ⟨_, z⟩ => z⟩⟩
  · rename_i n
    split at h
    · rename_i l e
      obtain ⟨a, xs, rfl, hn, hH, rl⟩ := at_dk ok r e
      exact ⟨a, rfl, .inl ⟨_, .inl hH⟩⟩
    · rename_i l e
      obtain ⟨a, xs, rfl, hn, hH, rl⟩ := at_dt ok r e
      exact ⟨a, rfl, .inr ⟨_, .inl hH⟩⟩
    · cases h
  · cases h
theorem s_get (cx : Ctx T X k E) (hn : isNm x = true) (hs : PySem.W.isStarred y = false) (hs2 : PySem.W.isStarred z = false) {p cpos : Pos} (hl : (p.endLine == cpos.line) = true) (h1 : PE X x (den X.K E fa)) (h2 : PE X y (den X.K E fb)) (h3 : PE X z (den X.K E fc)) :
    PE X (.Call (.Attribute x "get" p) [y, z] [] cpos) (den X.K E fun ρ m => (fa ρ m).bind fun a m1 => if isDic m1 a then (fb ρ m1).bind fun b m2 => (fc ρ m2).bind fun c m3 => getop a b c m3 else .stk) := by
  have hu : X.A.units + 1 < cLine := by have := cx.hu; omega
  have st : starEach [y, z] X.env = [(false, eval y X.env), (false, eval z X.env)] := by rw [star_cons hs, star_cons hs2]; rfl
  refine imE (pe_dget2 hu h1 h2 h3 ⟨base_nm hn _ _ _, by rw [st]; rfl, hl, by rw [st]; rfl⟩) fun σ H Q hq => ?_
  obtain ⟨W, ρ, rfl, ok, er, h⟩ := hq
  refine ⟨W, ρ, rfl, ok, er, Post.bind h fun v W1 d1 l1 ok1 r1 h1 => ?_⟩
  split at h1
  · rename_i hd
    obtain ⟨a, rfl, hD⟩ := dic_is ok1 r1 hd
    refine ⟨a, rfl, hD, W1, ρ, rfl, ok1, er.up l1, Post.bind h1 fun v2 W2 d2 l2 ok2 r2 h2 => ⟨W2, ρ, rfl, ok2, (er.up l1).up l2, Post.bind h2 fun v3 W3 d3 l3 ok3 r3 h3 => ?_⟩⟩
    unfold getop at h3
    split at h3
    · rename_i o e
      obtain ⟨a', ov, ea, g, q⟩ := dlook_rep ok3 ((r1.up l2).up l3) (r2.up l3) e
      cases ea
      refine ⟨ov, g, ?_⟩
      rcases q with ⟨rfl, rfl⟩ | ⟨x, yv, rfl, rfl, ry⟩
      · exact h3.here ok3 r3
      · exact h3.here ok3 ry
    · exact h3.elim
  · exact h1.elim
/-- list(x), a thing of the store -/
def rLo (K : PySem.W.Frag) (E : EH) : List V → Hp → VK → Prop := fun vs H Q => ∃ W ds, W.H = H ∧ W.Ok K ∧ RepL K W vs ds ∧ Post (Rep K) K W (f1 (fun x m => (listop x m).bind ownop) ds W.M) E Q
theorem listOwn_sound : CallR X (.type "list") (rLo X.K E) := call1 fun pins s σ us Q W x v I ok r1 r h => by
  unfold listop at h
  split at h
  · rename_i b l e
    obtain ⟨a, xs, rfl, q1, h1⟩ := seq_any ok r1 e
    exact call_list_of pins s σ W.H _ us Q I r ⟨a, xs, rfl, h1, Post.own h ok q1⟩
  · exact h.elim
theorem s_listOwn (cx : Ctx T X k E) {p : Pos} {ce : C} (hg : k.sc.names.lookup ("list" : Str) = some NameKind.globalImplicit) (hs : PySem.W.isStarred x = false) (ha : PE X x (den X.K E (ev T.Φ ce))) :
    PE X (.Call (.Name "list" p) [x] [] pos) (den X.K E fun ρ m => ((ev T.Φ ce ρ m).bind listop).bind ownop) := by
  refine imE (pe_callTy (listOwn_sound (E := E)) (cx.gl hg) (cx.blt (by decide)) (by decide +kernel) (s_cons hs ha s_nil) (by decide) (by decide) (star_cons hs) rfl) fun σ H Q hq => ?_
  obtain ⟨W, ρ, rfl, ok, er, h⟩ := hq
  refine ⟨W, ρ, rfl, ok, er, ?_⟩
  have e : ((ev T.Φ ce ρ W.M).bind listop).bind ownop = (evL T.Φ [ce] ρ W.M).bind fun ds m1 => f1 (fun x m => (listop x m).bind ownop) ds m1 := by
    rw [evL_one]
    cases ev T.Φ ce ρ W.M <;> rfl
  dsimp only at h
  rw [e] at h
  exact Post.bind h fun vs W1 ds l1 ok1 r1 h1 => ⟨W1, ds, rfl, ok1, r1, h1⟩
end
end HD
end

section
set_option Elab.async false
set_option linter.all false
set_option maxRecDepth 100000
set_option maxHeartbeats 4000000
/-! A15: stores of several names, branches, loops, ends. -/
namespace HD
open PySem PySem.Spec PyProof.Rows L2
def bkind (sc : Scope) : ScopeKind := if sc.kind.isAnnotationScope then ScopeKind.function else sc.kind
/-- several names from a tuple's values: are the stores exchanged? -/
def ssF (sc : Scope) (ts vs : List Expr) : Option (Option (List Str)) :=
  if !(ts.length == 2 || ts.length == 3) || vs.length != ts.length || bkind sc != .function then some none
  else if vs.any (fun | .Starred .. => true | _ => false) then some none
  else
    let line := (ts.head?.map (·.pos.line)).getD 0
    let names := ts.filterMap fun
      | .Name id pos => if sc.names.lookup id == some .local && pos.line == line then some id else none
      | _ => none
    if names.length != ts.length || names.eraseDups.length != names.length then some none
    else if vs.all (foldedForSure 8) then some none
    else if vs.all (constantsAlone 8) then none
    else some (some names)
theorem ss_of {env : PySem.Env} {ts vs : List Expr} {n n2 : Nat} {p p2 : Pos} {r : Option (List Str)} (h : ssF env.scope ts vs = some r) : swappedStores [.Tuple ts n p] (.Tuple vs n2 p2) env = pure r := by
  unfold ssF at h
  unfold swappedStores
  simp only
  split at h
  · rename_i h1
    cases h
    exact if_pos h1
  · rename_i h1
    refine (if_neg h1).trans ?_
    split at h
    · rename_i h2
      cases h
      exact if_pos h2
    · rename_i h2
      refine (if_neg h2).trans ?_
      simp only at h
      split at h
      · rename_i h3
        cases h
        exact if_pos h3
      · rename_i h3
        refine (if_neg h3).trans ?_
        split at h
        · rename_i h4
          cases h
          exact if_pos h4
        · rename_i h4
          refine (if_neg h4).trans ?_
          split at h
          · cases h
          · rename_i h5
            cases h
            exact if_neg h5
theorem ss_no {env : PySem.Env} {t e : Expr} (h : ∀ vs n p, e ≠ .Tuple vs n p) : swappedStores [t] e env = pure none := by
  unfold swappedStores
  cases t <;> cases e <;> first | rfl | exact absurd rfl (h _ _ _)
section
variable {T : Tab} {X : Cx} {k : Kx} {E : EH} {a b c x y z tg : Expr} {es : List Expr} {fa fb fc : Env → Mem → Res D} {fl : Env → Mem → Res (List D)} {pos : Pos} {st : Stmt} {sts : List Stmt}
theorem t_par (cx : Ctx T X k E) {i j : Nat} {n m : Str} {px py pt pt2 : Pos} {kt k2 : Nat} {ca cb : C} (h1 : k.N[i]? = some n) (h2 : k.N[j]? = some m) (hij : i ≠ j) (l1 : k.sc.names.lookup n = some .local) (l2 : k.sc.names.lookup m = some .local)
    (hss : ssF k.sc [.Name n px, .Name m py] [x, y] = some (some [n, m])) (s1 : PySem.W.isStarred x = false) (s2 : PySem.W.isStarred y = false) (ha : PE X x (den X.K E (ev T.Φ ca))) (hb : PE X y (den X.K E (ev T.Φ cb))) :
    PS X (.Assign [.Tuple [.Name n px, .Name m py] kt pt] (.Tuple [x, y] k2 pt2) pos) (denS X.K E fun ρ m => (ev T.Φ ca ρ m).toS fun x m1 => (ev T.Φ cb ρ m1).toS fun y m2 => .nx ((ρ.set i (some x)).set j (some y)) m2) := by
  refine imS (ps_par cx.calm cx.nd (by rw [cx.N]; exact h1) (by rw [cx.N]; exact h2) hij (by rw [cx.sc]; exact l1) (by rw [cx.sc]; exact l2) (s_cons s1 ha (s_cons s2 hb s_nil)) (ss_of (by rw [cx.sc]; exact hss)) rfl) fun en σ H hq => ?_
  obtain ⟨W, ρ, rfl, ok, er, h⟩ := hq
  refine ⟨W, ρ, rfl, ok, er, ?_⟩
  have e : ∀ ρ m, evL T.Φ [ca, cb] ρ m = (ev T.Φ ca ρ m).bind fun d m1 => (ev T.Φ cb ρ m1).bind fun d' m2 => .ok [d, d'] m2 := fun ρ m => by
    unfold evL
    cases ev T.Φ ca ρ m with
    | ok d m1 =>
      simp only [Res.bind_ok]
      rw [evL_one]
      cases ev T.Φ cb ρ m1 <;> rfl
    | exc c m1 => rfl
    | stk => rfl
  rw [e]
  have h' : PostS X.K E W (((ev T.Φ ca ρ W.M).bind fun d m1 => (ev T.Φ cb ρ m1).bind fun d' m2 => Res.ok [d, d'] m2).toS fun ds m2 => match ds with | [x, y] => .nx ((ρ.set i (some x)).set j (some y)) m2 | _ => .stk) en := by
    dsimp only at h
    cases e1 : ev T.Φ ca ρ W.M with
    | ok d m1 =>
      rw [e1] at h
      simp only [Res.bind_ok, Res.toS_ok] at h ⊢
      cases e2 : ev T.Φ cb ρ m1 <;> rw [e2] at h <;> exact h
    | exc c m1 => rw [e1] at h; exact h
    | stk => rw [e1] at h; exact h
  refine PostS.toS h' fun vs W1 ds l1 ok1 r1 h1 => ?_
  split at h1
  · obtain ⟨v, u, rfl, r1, r2⟩ := rep2 r1
    exact ⟨v, u, rfl, PostS.here h1 ok1 (((er.up l1).set r1 i).set r2 j)⟩
  · exact h1.elim
theorem t_par3 (cx : Ctx T X k E) {i j l : Nat} {n m o : Str} {px py pz pt pt2 : Pos} {kt k2 : Nat} {ca cb cc : C} (h1 : k.N[i]? = some n) (h2 : k.N[j]? = some m) (h3 : k.N[l]? = some o) (hij : i ≠ j) (hil : i ≠ l) (hjl : j ≠ l) (l1 : k.sc.names.lookup n = some .local) (l2 : k.sc.names.lookup m = some .local) (l3 : k.sc.names.lookup o = some .local)
    (hss : ssF k.sc [.Name n px, .Name m py, .Name o pz] [x, y, z] = some (some [n, m, o])) (s1 : PySem.W.isStarred x = false) (s2 : PySem.W.isStarred y = false) (s3 : PySem.W.isStarred z = false) (ha : PE X x (den X.K E (ev T.Φ ca))) (hb : PE X y (den X.K E (ev T.Φ cb))) (hc : PE X z (den X.K E (ev T.Φ cc))) :
    PS X (.Assign [.Tuple [.Name n px, .Name m py, .Name o pz] kt pt] (.Tuple [x, y, z] k2 pt2) pos) (denS X.K E fun ρ m => (ev T.Φ ca ρ m).toS fun x m1 => (ev T.Φ cb ρ m1).toS fun y m2 => (ev T.Φ cc ρ m2).toS fun z m3 => .nx (((ρ.set i (some x)).set j (some y)).set l (some z)) m3) := by
  refine imS (ps_par3 cx.calm cx.nd (by rw [cx.N]; exact h1) (by rw [cx.N]; exact h2) (by rw [cx.N]; exact h3) hij hil hjl (by rw [cx.sc]; exact l1) (by rw [cx.sc]; exact l2) (by rw [cx.sc]; exact l3) (s_cons s1 ha (s_cons s2 hb (s_cons s3 hc s_nil))) (ss_of (by rw [cx.sc]; exact hss)) rfl) fun en σ H hq => ?_
  obtain ⟨W, ρ, rfl, ok, er, h⟩ := hq
  refine ⟨W, ρ, rfl, ok, er, ?_⟩
  have e : ∀ ρ m, evL T.Φ [ca, cb, cc] ρ m = (ev T.Φ ca ρ m).bind fun d m1 => (ev T.Φ cb ρ m1).bind fun d' m2 => (ev T.Φ cc ρ m2).bind fun d2 m3 => .ok [d, d', d2] m3 := fun ρ m => by
    unfold evL
    cases ev T.Φ ca ρ m with
    | ok d m1 =>
      simp only [Res.bind_ok]
      unfold evL
      cases ev T.Φ cb ρ m1 with
      | ok d m2 =>
        simp only [Res.bind_ok]
        rw [evL_one]
        cases ev T.Φ cc ρ m2 <;> rfl
      | exc c m1 => rfl
      | stk => rfl
    | exc c m1 => rfl
    | stk => rfl
  rw [e]
  have h' : PostS X.K E W (((ev T.Φ ca ρ W.M).bind fun d m1 => (ev T.Φ cb ρ m1).bind fun d' m2 => (ev T.Φ cc ρ m2).bind fun d2 m3 => Res.ok [d, d', d2] m3).toS fun ds m2 => match ds with | [x, y, z] => .nx (((ρ.set i (some x)).set j (some y)).set l (some z)) m2 | _ => .stk) en := by
    dsimp only at h
    cases e1 : ev T.Φ ca ρ W.M with
    | ok d m1 =>
      rw [e1] at h
      simp only [Res.bind_ok, Res.toS_ok] at h ⊢
      cases e2 : ev T.Φ cb ρ m1 with
      | ok d' m2 =>
        rw [e2] at h
        simp only [Res.bind_ok, Res.toS_ok] at h ⊢
        cases e3 : ev T.Φ cc ρ m2 <;> rw [e3] at h <;> exact h
      | exc c m1 => rw [e2] at h; exact h
      | stk => rw [e2] at h; exact h
    | exc c m1 => rw [e1] at h; exact h
    | stk => rw [e1] at h; exact h
  refine PostS.toS h' fun vs W1 ds l1 ok1 r1 h1 => ?_
  split at h1
  · cases r1 with
    | cons q1 t =>
      obtain ⟨v, u, rfl, q2, q3⟩ := rep2 t
      exact ⟨_, v, u, rfl, PostS.here h1 ok1 ((((er.up l1).set q1 i).set q2 j).set q3 l)⟩
  · exact h1.elim
/-- a tuple taken apart -/
theorem t_unp (cx : Ctx T X k E) {is : List Nat} {n : Nat} {p : Pos} (hn : chkNs k is es = true) (h : PE X x (den X.K E fa)) (hss : swappedStores [.Tuple es n p] x X.env = pure none) :
    PS X (.Assign [.Tuple es n p] x pos) (denS X.K E fun ρ m => (fa ρ m).toS fun d m1 => okE (bindTg (.tp is) d ρ) m1) := by
  refine imS (ps_asg h (s_tg cx (t := .tp is) (e := .Tuple es n p) hn) (by show swapsWith x (some (.Tuple es n p)) pos.line X.env = pure false; cases x <;> rfl) hss rfl) fun en σ H hq => ?_
  obtain ⟨W, ρ, rfl, ok, er, h⟩ := hq
  refine ⟨W, ρ, rfl, ok, er, PostS.toS h fun v W1 d l1 ok1 r1 h1 => ?_⟩
  cases e : bindTg (.tp is) d ρ with
  | none => rw [e] at h1; exact h1.elim
  | some ρ' =>
    rw [e] at h1
    obtain ⟨σ', er', _, _, fin⟩ := bind_rep rfl (er.up l1) r1 e
    exact fin _ (PostS.here h1 ok1 er')
theorem t_drop (h : PE X x (den X.K E fa)) (hc : isComp x = false) : PS X (.Expr x pos) (denS X.K E fun ρ m => (fa ρ m).toS fun _ m1 => .nx ρ m1) := by
  refine imS (ps_expr h (sw_no hc)) fun en σ H hq => ?_
  obtain ⟨W, ρ, rfl, ok, er, h⟩ := hq
  exact ⟨W, ρ, rfl, ok, er, PostS.toS h fun v W1 d l1 ok1 r1 h1 => PostS.here h1 ok1 (er.up l1)⟩
theorem t_ret (h : PE X x (den X.K E fa)) : PS X (.Return (some x) pos) (denS X.K E fun ρ m => (fa ρ m).toS fun d m1 => .rt d m1) := by
  refine imS (ps_ret h) fun en σ H hq => ?_
  obtain ⟨W, ρ, rfl, ok, er, h⟩ := hq
  exact ⟨W, ρ, rfl, ok, er, PostS.toS h fun v W1 d l1 ok1 r1 h1 => PostS.hereR h1 ok1 r1⟩
theorem t_retN : PS X (.Return none pos) (denS X.K E fun ρ m => .rt .non m) := by
  refine imS ps_retN fun en σ H hq => ?_
  obtain ⟨W, ρ, rfl, ok, er, h⟩ := hq
  exact PostS.hereR h ok .non
theorem t_if {p q : List Stmt} {f g : Env → Mem → SRes} (ht : PT X c (denT X.K E fun ρ m => (fc ρ m).bind blOf)) (hp : PSs X p (denS X.K E f)) (hq : PSs X q (denS X.K E g)) :
    PS X (.If c p q pos) (denS X.K E fun ρ m => (fc ρ m).toS fun x m1 => (blOf x m1).toS fun k m1 => if k = true then f ρ m1 else g ρ m1) := by
  refine imS (ps_if ht hp hq) fun en σ H hq => ?_
  obtain ⟨W, ρ, rfl, ok, er, h⟩ := hq
  have e : ((fc ρ W.M).toS fun x m1 => (blOf x m1).toS fun k m1 => if k = true then f ρ m1 else g ρ m1) = ((fc ρ W.M).bind blOf).toS fun k m1 => if k = true then f ρ m1 else g ρ m1 := by
    cases fc ρ W.M <;> rfl
  dsimp only at h
  rw [e] at h
  refine ⟨W, ρ, rfl, ok, er, PostS.toS h fun b W1 a l1 ok1 r1 h1 => ?_⟩
  subst r1
  cases b with
  | true => exact ⟨W1, ρ, rfl, ok1, er.up l1, h1⟩
  | false => exact ⟨W1, ρ, rfl, ok1, er.up l1, h1⟩
theorem t_for (cx : Ctx T X k E) {iter : Expr} {body : List Stmt} {t : Tg} {fi : Env → Mem → Res (List D)} {f : Env → Mem → SRes} (hi : PI X tg iter (denI X.K E fi)) (htg : chkTg k t tg = true) (hb : PSs X body (denS X.K E f)) (hs : ∀ x, foldedSetIterable iter X.env x = pure x) :
    PS X (.For tg iter body [] pos) (denS X.K E fun ρ m => (fi ρ m).toS fun its m1 => forL f t its ρ m1) := by
  refine imS (ps_for cx.own cx.calm hi (s_tg cx htg) hb hs) fun en σ H hq => ?_
  obtain ⟨W, ρ, rfl, ok, er, h⟩ := hq
  refine ⟨W, ρ, rfl, ok, er, PostS.toS h fun J W1 its l1 ok1 wk h1 => ?_⟩
  refine ⟨fun i n σ H => ∃ W ρ, W.H = H ∧ W.Ok X.K ∧ W1.le W ∧ ERep X.K W σ ρ ∧ PostS X.K E W (forL f t (its.drop i) ρ W.M) en ∧ n = its.length - i ∧ i ≤ its.length, ⟨its.length, W1, ρ, rfl, ok1, Wd.le.refl W1, er.up l1, by rw [List.drop_zero]; exact h1, by omega, Nat.zero_le _⟩, ?_⟩
  rintro i n σ H ⟨W2, ρ2, rfl, ok2, l2, er2, h2, rfl, hin⟩
  obtain ⟨wstop, wgo⟩ := wk W2 l2.sub ok2 i
  by_cases hlt : i < its.length
  · have hd := List.getElem?_eq_getElem hlt
    obtain ⟨go, step⟩ := wgo _ hd
    rw [drop_get hd] at h2
    unfold forL at h2
    split at h2
    · exact h2.elim
    · rename_i ρ' eb
      refine .inr ⟨go, fun σ H => ∃ W ρ, W.H = H ∧ W.Ok X.K ∧ W1.le W ∧ ERep X.K W σ ρ ∧ PostS X.K E W (forL f t (its.drop (i + 1)) ρ W.M) en,
        fun σ' H' ⟨W', ρ', q1, q2, q3, q4, q5⟩ => ⟨its.length - (i + 1), by omega, W', ρ', q1, q2, q3, q4, q5, rfl, hlt⟩, fun x H' hy => ?_⟩
      obtain ⟨W3, l3, ok3, rfl, eM, rx⟩ := step x H' hy
      obtain ⟨σ', er4, _, _, fin⟩ := bind_rep rfl (er2.up l3) rx eb
      refine fin _ ⟨W3, ρ', rfl, ok3, er4, ?_⟩
      refine PostS.bind (f := fun ρ2 m2 => forL f t (its.drop (i + 1)) ρ2 m2) (by rw [eM]; exact h2.up l3) fun σ5 W5 ρ5 l5 ok5 er5 h5 => ⟨W5, ρ5, rfl, ok5, (l2.trans l3).trans l5, er5, h5⟩
  · have hge : its.length ≤ i := by omega
    rw [List.drop_eq_nil_of_le hge] at h2
    exact .inl ⟨wstop hge, PostS.here h2 ok2 er2⟩
theorem t_whl (cx : Ctx T X k E) {body : List Stmt} {f : Env → Mem → SRes} {n : Nat} (ht : PT X c (denT X.K E fun ρ m => (fc ρ m).bind blOf)) (hb : PSs X body (denS X.K E f)) :
    PS X (.While c body [] pos) (denS X.K E fun ρ m => whlL fc f n ρ m) := by
  refine imS (ps_while cx.own ht hb) fun en σ H hq => ?_
  obtain ⟨W, ρ, rfl, ok, er, h⟩ := hq
  refine ⟨fun n σ H => ∃ W ρ, W.H = H ∧ W.Ok X.K ∧ ERep X.K W σ ρ ∧ PostS X.K E W (whlL fc f n ρ W.M) en, ⟨n, W, ρ, rfl, ok, er, h⟩, ?_⟩
  rintro n σ H ⟨W2, ρ2, rfl, ok2, er2, h2⟩
  cases n with
  | zero => exact h2.elim
  | succ n =>
    unfold whlL at h2
    have e : ((fc ρ2 W2.M).toS fun x m1 => (blOf x m1).toS fun b m1 => if b = true then (f ρ2 m1).bind fun ρ2 m2 => whlL fc f n ρ2 m2 else .nx ρ2 m1) = ((fc ρ2 W2.M).bind blOf).toS fun b m1 => if b = true then (f ρ2 m1).bind fun ρ2 m2 => whlL fc f n ρ2 m2 else .nx ρ2 m1 := by
      cases fc ρ2 W2.M <;> rfl
    rw [e] at h2
    refine ⟨W2, ρ2, rfl, ok2, er2, PostS.toS h2 fun b W1 a l1 ok1 r1 h1 => ?_⟩
    subst r1
    cases b with
    | true =>
      simp only [if_true] at h1 ⊢
      refine ⟨fun σ H => ∃ W ρ, W.H = H ∧ W.Ok X.K ∧ ERep X.K W σ ρ ∧ PostS X.K E W (whlL fc f n ρ W.M) en, fun σ' H' q => ⟨n, Nat.lt_succ_self n, q⟩, W1, ρ2, rfl, ok1, er2.up l1, ?_⟩
      exact PostS.bind (f := fun ρ2 m2 => whlL fc f n ρ2 m2) h1 fun σ5 W5 ρ5 l5 ok5 er5 h5 => ⟨W5, ρ5, rfl, ok5, er5, h5⟩
    | false =>
      simp only [Bool.false_eq_true, if_false] at h1 ⊢
      exact PostS.here h1 ok1 (er2.up l1)
/-- nothing is done; a thing of the store is frozen -/
theorem frz_imp {K : PySem.W.Frag} {W : Wd} {i : Nat} {ρ : Env} {σ : L2.St} {en : Ends} {g : Env → Mem → SRes} (ok : W.Ok K) (er : ERep K W σ ρ) (h : PostS K E W ((frzop i ρ W.M).bind g) en) : ∃ W' ρ', W'.H = W.H ∧ W'.Ok K ∧ W.le W' ∧ ERep K W' σ ρ' ∧ PostS K E W' (g ρ' W'.M) en := by
  unfold frzop at h
  split at h
  · rename_i n eρ
    obtain ⟨v, hv, rv⟩ := er.at_ i _ eρ
    split at h
    · rename_i l e
      obtain ⟨a, xs, rfl, hn, hH, rl⟩ := at_lst ok rv e
      have hl : n < W.M.length := (List.getElem?_eq_some_iff.mp e).1
      refine ⟨W.kill n, ρ.set i (some (.lst l)), rfl, Wd.kill_ok ok n, Wd.kill_le W n, (er.up (Wd.kill_le W n)).alter (fun u hu => ?_) ⟨_, hv⟩, PostS.up h (Wd.kill_le W n)⟩
      rw [hv] at hu
      cases hu
      exact .lst (Wd.kill_rd ok hn hl hH) (rl.up (Wd.kill_le W n))
    · rename_i l e
      obtain ⟨a, xs, rfl, hn, hH, rl⟩ := at_dk ok rv e
      have hl : n < W.M.length := (List.getElem?_eq_some_iff.mp e).1
      refine ⟨W.kill n, ρ.set i (some (.dk l)), rfl, Wd.kill_ok ok n, Wd.kill_le W n, (er.up (Wd.kill_le W n)).alter (fun u hu => ?_) ⟨_, hv⟩, PostS.up h (Wd.kill_le W n)⟩
      rw [hv] at hu
      cases hu
      exact .dk (Wd.kill_rd ok hn hl hH) (rl.up (Wd.kill_le W n))
    · rename_i l e
      obtain ⟨a, xs, rfl, hn, hH, rl⟩ := at_dt ok rv e
      have hl : n < W.M.length := (List.getElem?_eq_some_iff.mp e).1
      refine ⟨W.kill n, ρ.set i (some (.dt l)), rfl, Wd.kill_ok ok n, Wd.kill_le W n, (er.up (Wd.kill_le W n)).alter (fun u hu => ?_) ⟨_, hv⟩, PostS.up h (Wd.kill_le W n)⟩
      rw [hv] at hu
      cases hu
      exact .dt (Wd.kill_rd ok hn hl hH) (rl.up (Wd.kill_le W n))
    · exact h.elim
  · exact h.elim
theorem t_frz {i : Nat} {g : Env → Mem → SRes} (h : PSs X sts (denS X.K E g)) : PSs X sts (denS X.K E fun ρ m => (frzop i ρ m).bind g) := imSs h fun en σ H hq => by
  obtain ⟨W, ρ, rfl, ok, er, h⟩ := hq
  obtain ⟨W', ρ', e, ok', _, er', h'⟩ := frz_imp ok er h
  exact ⟨W', ρ', e, ok', er', h'⟩
/-- raise C('..') -/
structure CtxS (T : Tab) (X : Cx) (k : Kx) (E : EH) : Prop extends Ctx T X k E where
  takes : Takes X (fun cls d _ H => exK T.cls E cls d H)
theorem t_raise (cx : CtxS T X k E) {c : Nat} {n m : Str} {j : Nat} {p p2 cpos : Pos} (hc : T.chas c = true) (hn : n = T.cname c) (hg : k.sc.names.lookup n = some .globalImplicit) (hd : (n == ("__debug__" : Str)) = false) :
    PS X (.Raise (some (.Call (.Name n p) [.Constant (.str m) j p2] [] cpos)) none pos) (denS X.K E fun ρ m => .ex c m) := by
  subst hn
  obtain ⟨Ca, e1, e2, e3, e4, e5, e6⟩ := cx.tab.exc c hc
  refine imS (ps_raise cx.calm cx.takes (pmk_own F.excBase_ValueError e4 e2 e3 (raises_own e5 e6) (cx.toCtx.gl hg) hd)) fun en σ H hq => ?_
  obtain ⟨W, ρ, rfl, ok, er, h⟩ := hq
  exact ⟨rfl, c, e1.symm, h W (Wd.le.refl W) ok rfl⟩
end
end HD
end

section
set_option Elab.async false
set_option linter.all false
set_option maxRecDepth 100000
set_option maxHeartbeats 4000000
/-! A28: a dict's keys gone over, the dict locked. -/
namespace HD
open PySem PySem.Spec PyProof.Rows L2
/-- as sub, of things that are not locked -/
structure Wd.subF (W W' : Wd) : Prop where
  ads : ∀ (n : Nat) (a : Addr), W.ads[n]? = some a → W'.ads[n]? = some a
  rd : ∀ a u, (∀ o v, u ≠ .frz o v) → W.rd a u → W'.rd a u
  tup : ∀ a xs, W.H a = some (.tup xs) → W'.H a = some (.tup xs)
  frz : ∀ a o xs, W.H a = some (.frz o (.lst xs)) → W'.H a = some (.frz o (.lst xs))
section
variable {K : PySem.W.Frag} {W W' : Wd}
mutual
theorem Rep.monoF (q : W.subF W') : ∀ (d : D) (v : V), Rep K W v d → Rep K W' v d
  | .non, _, h => by cases h; exact .non
  | .bl b, _, h => by cases h; exact .bl b
  | .int i, _, h => by cases h; exact .int i
  | .str x, _, h => by cases h; exact .str x
  | .tup ds, _, h => by
    cases h with
    | tup h1 h2 => exact .tup (q.tup _ _ h1) (RepL.monoF q ds _ h2)
  | .lst ds, _, h => by
    cases h with
    | lst h1 h2 => exact .lst (q.rd _ _ (fun _ _ z => nomatch z) h1) (RepL.monoF q ds _ h2)
  | .dk ds, _, h => by
    cases h with
    | dk h1 h2 => exact .dk (q.rd _ _ (fun _ _ z => nomatch z) h1) (RepK.monoF q ds _ h2)
  | .dt ds, _, h => by
    cases h with
    | dt h1 h2 => exact .dt (q.rd _ _ (fun _ _ z => nomatch z) h1) (RepT.monoF q ds _ h2)
  | .ref n, _, h => by
    cases h with
    | ref h1 => exact .ref (q.ads _ _ h1)
  | .scr l, _, h => by
    cases h with
    | scr h1 => exact .scr (h1.imp (fun ⟨o, z⟩ => ⟨o, q.frz _ _ _ z⟩) id)
theorem RepL.monoF (q : W.subF W') : ∀ (ds : List D) (vs : List V), RepL K W vs ds → RepL K W' vs ds
  | [], _, h => by cases h; exact .nil
  | d :: ds, _, h => by
    cases h with
    | cons h1 h2 => exact .cons (Rep.monoF q d _ h1) (RepL.monoF q ds _ h2)
theorem RepK.monoF (q : W.subF W') : ∀ (ds : List (Key × D)) (vs : List (Key × V)), RepK K W vs ds → RepK K W' vs ds
  | [], _, h => by cases h; exact .nil
  | (k, d) :: ds, _, h => by
    cases h with
    | cons h1 h2 => exact .cons (Rep.monoF q d _ h1) (RepK.monoF q ds _ h2)
theorem RepT.monoF (q : W.subF W') : ∀ (ds : List (List Key × D)) (vs : List (List Key × V)), RepT K W vs ds → RepT K W' vs ds
  | [], _, h => by cases h; exact .nil
  | (k, d) :: ds, _, h => by
    cases h with
    | cons h1 h2 => exact .cons (Rep.monoF q d _ h1) (RepT.monoF q ds _ h2)
end
theorem ERep.upF {σ : L2.St} {ρ : Env} (h : ERep K W σ ρ) (q : W.subF W') : ERep K W' σ ρ := by
  exact ⟨h.len, fun i d e => let ⟨v, e1, r⟩ := h.at_ i d e; ⟨v, e1, Rep.monoF q _ _ r⟩⟩
theorem MobOk.upF {n : Nat} {o : Mob} (h : MobOk K W n o) (hH : ∀ a, o ≠ .dead → W.ads[n]? = some a → W.H a = W'.H a) (q : W.subF W') : MobOk K W' n o := by
  cases h with
  | lst h1 h2 h3 => exact .lst (q.ads _ _ h1) (by rw [← hH _ (fun z => nomatch z) h1]; exact h2) (RepL.monoF q _ _ h3)
  | dk h1 h2 h3 => exact .dk (q.ads _ _ h1) (by rw [← hH _ (fun z => nomatch z) h1]; exact h2) (RepK.monoF q _ _ h3)
  | dt h1 h2 h3 => exact .dt (q.ads _ _ h1) (by rw [← hH _ (fun z => nomatch z) h1]; exact h2) (RepT.monoF q _ _ h3)
  | dead => exact .dead
theorem Wd.sub.weak (q : W.sub W') : W.subF W' := ⟨q.ads, fun a u _ => q.rd a u, q.tup, q.frz⟩
/-- the thing at d replaced -/
def Wd.at_ (W : Wd) (d : Addr) (o : HO) : Wd := { W with H := upd W.H d o }
variable {d : Addr} {u : HO} {od : Obj}
theorem lock_le (hp : W.pub d) (hd : W.H d = some u) (hu : dic u = true) : W.le (W.at_ d (.frz od u)) where
  ads _ _ h := h
  hid := rfl
  hidH a ha := upd_ne fun (z : a = d) => hp.1 (by rw [← z]; exact ha)
  rd a v q := by
    refine ⟨?_, q.2⟩
    by_cases e : a = d
    · subst e
      rcases q.1 with z | ⟨_, ob, z⟩
      · rw [hd] at z
        cases z
        exact .inr ⟨hu, od, upd_same⟩
      · rw [hd] at z
        cases z
        cases hu
    · exact q.1.elim (fun z => .inl ((upd_ne e).trans z)) fun ⟨y, ob, z⟩ => .inr ⟨y, ob, (upd_ne e).trans z⟩
  tup a xs q := by
    refine (upd_ne fun (e : a = d) => ?_).trans q
    subst e
    rw [hd] at q
    cases q
    cases hu
  frz a ob v q := by
    refine (upd_ne fun (e : a = d) => ?_).trans q
    subst e
    rw [hd] at q
    cases q
    cases hu
  any a q := by
    show upd W.H d (.frz od u) a ≠ none
    by_cases e : a = d
    · rw [e, upd_same]; exact fun z => nomatch z
    · rw [upd_ne e]; exact q
theorem pub_ne (hp : W.pub d) {n : Nat} {o : Mob} {a : Addr} (h1 : W.ads[n]? = some a) (h2 : W.M[n]? = some o) (ho : o ≠ .dead) : a ≠ d := fun z => ho (hp.2 n o (by rw [← z]; exact h1) h2)
theorem at_ok (ok : W.Ok K) (hp : W.pub d) (q : W.subF (W.at_ d u)) (hd : W.H d ≠ none) : (W.at_ d u).Ok K where
  len := ok.len
  nd := ok.nd
  there a ha := by
    show upd W.H d u a ≠ none
    by_cases e : a = d
    · rw [e, upd_same]; exact fun z => nomatch z
    · rw [upd_ne e]; exact ok.there a ha
  hid a ha := by
    refine ⟨?_, (ok.hid a ha).2⟩
    show upd W.H d u a ≠ none
    by_cases e : a = d
    · rw [e, upd_same]; exact fun z => nomatch z
    · rw [upd_ne e]; exact (ok.hid a ha).1
  obj n o e := (ok.obj n o e).upF (fun a ho ha => (upd_ne (pub_ne hp ha e ho)).symm) q
theorem unlock_subF (hp : W.pub d) (hd : W.H d = some (.frz od u)) (hu : dic u = true) : W.subF (W.at_ d u) where
  ads _ _ h := h
  rd a v nf q := by
    refine ⟨?_, q.2⟩
    by_cases e : a = d
    · subst e
      rcases q.1 with z | ⟨_, ob, z⟩
      · rw [hd] at z
        cases z
        exact absurd rfl (nf _ _)
      · rw [hd] at z
        cases z
        exact .inl upd_same
    · exact q.1.elim (fun z => .inl ((upd_ne e).trans z)) fun ⟨y, ob, z⟩ => .inr ⟨y, ob, (upd_ne e).trans z⟩
  tup a xs q := by
    refine (upd_ne fun (e : a = d) => ?_).trans q
    subst e
    rw [hd] at q
    cases q
  frz a ob v q := by
    refine (upd_ne fun (e : a = d) => ?_).trans q
    subst e
    rw [hd] at q
    cases q
    cases hu
/-- from before the lock to after it -/
theorem unlock_le (l0 : (W.at_ d (.frz od u)).le W') (hd : W.H d = some u) (hp : W.pub d) (hu : dic u = true) : W.le (W'.at_ d u) where
  ads n a h := l0.ads n a h
  hid := l0.hid
  hidH a ha := by
    have ne : a ≠ d := fun z => hp.1 (by rw [← z]; exact ha)
    exact (upd_ne ne).trans ((l0.hidH a ha).trans (upd_ne ne))
  rd a v q := by
    have q' := l0.rd a v ((lock_le hp hd hu).rd a v q)
    refine ⟨?_, q'.2⟩
    by_cases e : a = d
    · subst e
      rcases q.1 with z | ⟨_, ob, z⟩
      · rw [hd] at z
        cases z
        exact .inl upd_same
      · rw [hd] at z
        cases z
        cases hu
    · exact q'.1.elim (fun z => .inl ((upd_ne e).trans z)) fun ⟨y, ob, z⟩ => .inr ⟨y, ob, (upd_ne e).trans z⟩
  tup a xs q := by
    have ne : a ≠ d := fun z => by
      subst z
      rw [hd] at q
      cases q
      cases hu
    exact (upd_ne ne).trans (l0.tup a xs ((upd_ne ne).trans q))
  frz a ob v q := by
    have ne : a ≠ d := fun z => by
      subst z
      rw [hd] at q
      cases q
      cases hu
    exact (upd_ne ne).trans (l0.frz a ob v ((upd_ne ne).trans q))
  any a q := by
    show upd W'.H d u a ≠ none
    by_cases e : a = d
    · rw [e, upd_same]; exact fun z => nomatch z
    · rw [upd_ne e]; exact l0.any a ((lock_le (od := od) hp hd hu).any a q)
end
/-- the keys of a locked dict -/
theorem RepK.getK {K : PySem.W.Frag} {W : Wd} : ∀ {vs : List (Key × V)} {ds : List (Key × D)} {i : Nat} {k : Key} {v : V}, RepK K W vs ds → vs[i]? = some (k, v) → ∃ e, ds[i]? = some (k, e)
  | _, _, _, _, _, .nil, h => by simp at h
  | _, _, 0, _, _, .cons r t, h => by
    simp only [List.getElem?_cons_zero, Option.some.injEq, Prod.mk.injEq] at h
    obtain ⟨rfl, rfl⟩ := h
    exact ⟨_, rfl⟩
  | _, _, i + 1, _, _, .cons r t, h => by
    simp only [List.getElem?_cons_succ] at h
    obtain ⟨e, he⟩ := RepK.getK t h
    exact ⟨e, by simpa using he⟩
theorem rep_key {K : PySem.W.Frag} {W : Wd} : ∀ k : Key, Rep K W (kV k) (keyD k)
  | .inl i => .int i
  | .inr s => .str s
theorem walks_keys {K : PySem.W.Frag} {W0 : Wd} {a : Addr} {o : Obj} {xs : List (Key × V)} {l : List (Key × D)} (h : W0.H a = some (.frz o (.dK xs))) (hp : W0.pub a) (r : RepK K W0 xs l) : Walks K W0 (Itk a o xs) (l.map fun kv => keyD kv.1) := fun W q ok i => by
  have hd : W.H a = some (.frz o (.dK xs)) := by
    rcases (q.rd a _ ⟨.inl h, hp⟩).1 with z | ⟨z, _⟩
    · exact z
    · cases z
  have hl := r.length
  refine ⟨fun hi => ⟨hd, by rw [List.length_map] at hi; omega⟩, fun d hd2 => ?_⟩
  have hi := (List.getElem?_eq_some_iff.mp hd2).1
  rw [List.length_map] at hi
  refine ⟨⟨hd, by omega⟩, fun x H' hy => ?_⟩
  obtain ⟨rfl, k, v, hk, rfl⟩ := hy
  obtain ⟨e, he⟩ := r.getK hk
  rw [List.getElem?_map, he] at hd2
  cases hd2
  exact ⟨W, Wd.le.refl W, ok, rfl, rfl, rep_key k⟩
theorem fs_nm {n : Str} {p : Pos} {env : PySem.Env} : ∀ x, foldedSetIterable (.Name n p) env x = pure x := fun _ => rfl
section
variable {T : Tab} {X : Cx} {k : Kx} {E : EH} {tg : Expr} {pos : Pos}
/-- what a loop's invariant is, the iterator known -/
theorem for_inv {body : List Stmt} {t : Tg} {its : List D} {f : Env → Mem → SRes} {J : It} {W1 : Wd} {σ : L2.St} {ρ : Env} {en : Ends} (ok1 : W1.Ok X.K) (er1 : ERep X.K W1 σ ρ) (wk : Walks X.K W1 J its) (h1 : PostS X.K E W1 (forL f t its ρ W1.M) en) :
    ∃ Wv : Nat → Nat → L2.St → Hp → Prop, (∃ m, Wv 0 m σ W1.H) ∧ ∀ i m σ H, Wv i m σ H → (J.stop i H ∧ en.nx σ H) ∨ (J.go i H ∧ ∃ N : L2.St → Hp → Prop, (∀ σ' H', N σ' H' → ∃ m', m' < m ∧ Wv (i + 1) m' σ' H') ∧ ∀ x H', J.yld i H x H' → gOf X.K t x σ H' fun σ2 H2 => denS X.K E f { en with nx := N, ct := N, bk := en.nx } σ2 H2) := by
  refine ⟨fun i n σ H => ∃ W ρ, W.H = H ∧ W.Ok X.K ∧ W1.le W ∧ ERep X.K W σ ρ ∧ PostS X.K E W (forL f t (its.drop i) ρ W.M) en ∧ n = its.length - i ∧ i ≤ its.length, ⟨its.length, W1, ρ, rfl, ok1, Wd.le.refl W1, er1, by rw [List.drop_zero]; exact h1, by omega, Nat.zero_le _⟩, ?_⟩
  rintro i n σ H ⟨W2, ρ2, rfl, ok2, l2, er2, h2, rfl, hin⟩
  obtain ⟨wstop, wgo⟩ := wk W2 l2.sub ok2 i
  by_cases hlt : i < its.length
  · have hd := List.getElem?_eq_getElem hlt
    obtain ⟨go, step⟩ := wgo _ hd
    rw [drop_get hd] at h2
    unfold forL at h2
    split at h2
    · exact h2.elim
    · rename_i ρ' eb
      refine .inr ⟨go, fun σ H => ∃ W ρ, W.H = H ∧ W.Ok X.K ∧ W1.le W ∧ ERep X.K W σ ρ ∧ PostS X.K E W (forL f t (its.drop (i + 1)) ρ W.M) en,
        fun σ' H' ⟨W', ρ', q1, q2, q3, q4, q5⟩ => ⟨its.length - (i + 1), by omega, W', ρ', q1, q2, q3, q4, q5, rfl, hlt⟩, fun x H' hy => ?_⟩
      obtain ⟨W3, l3, ok3, rfl, eM, rx⟩ := step x H' hy
      obtain ⟨σ', er4, _, _, fin⟩ := bind_rep rfl (er2.up l3) rx eb
      refine fin _ ⟨W3, ρ', rfl, ok3, er4, ?_⟩
      exact PostS.bind (f := fun ρ2 m2 => forL f t (its.drop (i + 1)) ρ2 m2) (by rw [eM]; exact h2.up l3) fun σ5 W5 ρ5 l5 ok5 er5 h5 => ⟨W5, ρ5, rfl, ok5, (l2.trans l3).trans l5, er5, h5⟩
  · have hge : its.length ≤ i := by omega
    rw [List.drop_eq_nil_of_le hge] at h2
    exact .inl ⟨wstop hge, PostS.here h2 ok2 er2⟩
/-- the ends, inside the lock -/
theorem lock_post {W : Wd} {d : Addr} {u : HO} {od : Obj} {r : SRes} {en : Ends} (h : PostS X.K E W r en) (hd : W.H d = some u) (hp : W.pub d) (hu : dic u = true) :
    PostS X.K E (W.at_ d (.frz od u)) r ⟨fun σ' H' => H' d = some (.frz od u) ∧ en.nx σ' (upd H' d u), fun v H' => H' d = some (.frz od u) ∧ en.rt v (upd H' d u), fun σ' H' => H' d = some (.frz od u) ∧ en.bk σ' (upd H' d u), fun σ' H' => H' d = some (.frz od u) ∧ en.ct σ' (upd H' d u)⟩ := by
  have loc : ∀ {W' : Wd}, (W.at_ d (.frz od u)).le W' → W'.H d = some (.frz od u) ∧ W'.pub d := fun {W'} l => by
    have h1 : (W.at_ d (.frz od u)).H d = some (.frz od u) := upd_same
    refine ⟨l.frz _ _ _ h1, (l.rd d (.frz od u) ⟨.inl h1, hp⟩).2⟩
  cases r with
  | nx ρ m =>
    intro σ W' l ok e er
    obtain ⟨h1, p1⟩ := loc l
    have sf := unlock_subF p1 h1 hu
    exact ⟨h1, h σ (W'.at_ d u) (unlock_le l hd hp hu) (at_ok ok p1 sf (by rw [h1]; exact fun z => nomatch z)) e (er.upF sf)⟩
  | rt v m =>
    intro v W' l ok e rv
    obtain ⟨h1, p1⟩ := loc l
    have sf := unlock_subF p1 h1 hu
    exact ⟨h1, h v (W'.at_ d u) (unlock_le l hd hp hu) (at_ok ok p1 sf (by rw [h1]; exact fun z => nomatch z)) e (Rep.monoF sf _ _ rv)⟩
  | ex c m => exact fun W' l ok e => h W' ((lock_le hp hd hu).trans l) ok e
  | stk => exact h
/-- for key in x, x a dict that changes no more -/
theorem t_forK (cx : Ctx T X k E) {n : Str} {npos : Pos} {body : List Stmt} {t : Tg} {i : Nat} {f : Env → Mem → SRes} (n1 : k.N[i]? = some n) (n2 : visB k.sc n = true) (n3 : nmB n = true) (htg : chkTg k t tg = true) (hb : PSs X body (denS X.K E f)) :
    PS X (.For tg (.Name n npos) body [] pos) (denS X.K E fun ρ m => (itsOf .keys (evL T.Φ [.var i] ρ m)).toS fun its m1 => forL f t its ρ m1) := by
  have hs : ∀ x, foldedSetIterable (.Name n npos) X.env x = pure x := fs_nm
  have he : PE X (.Name n npos) (tVar i) := pe_var (i := i) (by rw [cx.N]; exact n1) (vis_of cx n2) (nm_of n3).1 (nm_of n3).2
  refine ⟨fun pins s σ H en I hq => ?_⟩
  obtain ⟨W, ρ, rfl, ok, er, h⟩ := hq
  have e0 : evL T.Φ [.var i] ρ W.M = (ev T.Φ (.var i) ρ W.M).bind fun d m => .ok [d] m := by
    rw [evL]
    congr 1
  have ev0 : ev T.Φ (.var i) ρ W.M = (match ρ[i]? with | some (some d) => .ok d W.M | _ => .stk) := by rw [ev] <;> rfl
  dsimp only at h
  rw [e0] at h
  cases hρ : ρ[i]? with
  | none => rw [ev0, hρ] at h; exact h.elim
  | some x =>
    cases x with
    | none => rw [ev0, hρ] at h; exact h.elim
    | some dv =>
      have ev1 : ev T.Φ (.var i) ρ W.M = .ok dv W.M := by rw [ev0, hρ]
      rw [ev1] at h
      obtain ⟨v, hσ, rv⟩ : ∃ v, σ[i]? = some (some v) ∧ Rep X.K W v dv := er.at_ i dv hρ
      cases dv with
      | dk l =>
        cases rv with
        | @dk a xs _ g1 g2 =>
        have h : PostS X.K E W (forL f t (l.map fun kv => keyD kv.1) ρ W.M) en := h
        have core : ∀ (W2 : Wd) (o : Obj) (en2 : Ends), W2.Ok X.K → W2.M = W.M → W2.H a = some (.frz o (.dK xs)) → W2.pub a → ERep X.K W2 σ ρ → RepK X.K W2 xs l → PostS X.K E W2 (forL f t (l.map fun kv => keyD kv.1) ρ W2.M) en2 →
            tFor (iKeys (tVar i)) (gOf X.K t) (denS X.K E f) en2 σ W2.H := fun W2 o en2 ok2 eM hH hp er2 r2 h2 =>
          ⟨.ref a, hσ, a, o, rfl, .inl ⟨xs, hH, for_inv (body := body) ok2 er2 (walks_keys hH hp r2) h2⟩⟩
        rcases g1.1 with hH | ⟨_, o, hH⟩
        · have le0 : ∀ od, W.le (W.at_ a (.frz od (.dK xs))) := fun od => lock_le g1.2 hH rfl
          refine (ps_lock (ps_for cx.own cx.calm (pi_keys he) (s_tg cx htg) hb hs)).run pins s σ W.H en I ⟨a, .dK xs, hH, True.intro, fun od => ?_⟩
          exact core (W.at_ a (.frz od (.dK xs))) od _ (at_ok ok g1.2 (le0 od).sub.weak (by rw [hH]; exact fun z => nomatch z)) rfl upd_same g1.2 (er.up (le0 od)) (g2.up (le0 od)) (lock_post h hH g1.2 rfl)
        · exact (ps_for cx.own cx.calm (pi_keys he) (s_tg cx htg) hb hs).run pins s σ W.H en I (core W o en ok rfl hH g1.2 er g2 h)
      | _ => exact h.elim
end
end HD
end

section
set_option Elab.async false
set_option linter.all false
set_option maxRecDepth 100000
set_option maxHeartbeats 4000000
/-! A16: the forms of built-ins and of what is walked. -/
namespace HD
open PySem PySem.Spec PyProof.Rows L2
section
variable {T : Tab} {X : Cx} {k : Kx} {E : EH} {a b c x y z tg : Expr} {es : List Expr} {fa fb fc : Env → Mem → Res D} {fl : Env → Mem → Res (List D)} {pos : Pos} {st : Stmt} {sts : List Stmt}
theorem rep_rg {K : PySem.W.Frag} {W : Wd} (a b : Int) : RepL K W (rgV a b) (rngD a (b - a).toNat) := by
  unfold rgV rngD
  generalize (b - a).toNat = n
  have : ∀ l : List Nat, RepL K W (l.map fun i => V.int (a + (i : Nat))) (l.map fun (i : Nat) => D.int (a + i)) := by
    intro l
    induction l with
    | nil => exact .nil
    | cons i r ih => exact .cons (.int _) ih
  exact this _
theorem evL_two (Φ : Phi) (ca cb : C) (ρ : Env) (m : Mem) : evL Φ [ca, cb] ρ m = (ev Φ ca ρ m).bind fun d m1 => (ev Φ cb ρ m1).bind fun d' m2 => .ok [d, d'] m2 := by
  unfold evL
  cases ev Φ ca ρ m with
  | ok d m1 =>
    simp only [Res.bind_ok]
    rw [evL_one]
    cases ev Φ cb ρ m1 <;> rfl
  | exc c m1 => rfl
  | stk => rfl
theorem one_bind {Φ : Phi} {ca : C} {ρ : Env} {m : Mem} {f : D → Mem → Res D} : ((evL Φ [ca] ρ m).bind fun ds m1 => f1 f ds m1) = (ev Φ ca ρ m).bind f := by
  rw [evL_one]
  cases ev Φ ca ρ m <;> rfl
theorem two_bind {Φ : Phi} {ca cb : C} {ρ : Env} {m : Mem} {f : D → D → Mem → Res D} : ((evL Φ [ca, cb] ρ m).bind fun ds m1 => f2 f ds m1) = (ev Φ ca ρ m).bind fun d m1 => (ev Φ cb ρ m1).bind fun d' m2 => f d d' m2 := by
  rw [evL_two]
  cases ev Φ ca ρ m with
  | ok d m1 =>
    simp only [Res.bind_ok]
    cases ev Φ cb ρ m1 <;> rfl
  | exc c m1 => rfl
  | stk => rfl
theorem s_listRg1 (cx : Ctx T X k E) {ca : C} {p p2 pos2 : Pos} (hg : k.sc.names.lookup ("list" : Str) = some NameKind.globalImplicit) (hg2 : k.sc.names.lookup ("range" : Str) = some NameKind.globalImplicit) (hs : PySem.W.isStarred x = false) (ha : PE X x (den X.K E (ev T.Φ ca))) :
    PE X (.Call (.Name "list" p) [.Call (.Name "range" p2) [x] [] pos2] [] pos) (den X.K E fun ρ m => (evL T.Φ [ca] ρ m).bind fun ds m1 => bltop .listRg1 ds m1) := by
  refine imE (pe_listRg cx.calm (cx.gl hg) (cx.blt (by decide)) (prg_1 (cx.gl hg2) (cx.blt (by decide)) ha (star_cons hs)) (star_cons rfl)) fun σ H Q hq => ?_
  obtain ⟨W, ρ, rfl, ok, er, h⟩ := hq
  have h : Post (Rep X.K) X.K W ((evL T.Φ [ca] ρ W.M).bind fun ds m1 => f1 (rg1op .lst) ds m1) E Q := h
  rw [one_bind] at h
  refine ⟨W, ρ, rfl, ok, er, Post.bind h fun v W1 d l1 ok1 r1 h1 => ?_⟩
  unfold rg1op at h1
  split at h1
  · rename_i j
    cases r1
    split at h1
    · rename_i hj
      refine ⟨j, rfl, ⟨by omega, by omega, by omega, by omega, by omega⟩, Post.newLst (E := E) ?_ ok1 (rep_rg 0 j)⟩
      rw [Int.sub_zero]
      exact h1
    · exact h1.elim
  · exact h1.elim
theorem s_listRg2 (cx : Ctx T X k E) {ca cb : C} {p p2 pos2 : Pos} (hg : k.sc.names.lookup ("list" : Str) = some NameKind.globalImplicit) (hg2 : k.sc.names.lookup ("range" : Str) = some NameKind.globalImplicit) (hs : PySem.W.isStarred x = false) (hs2 : PySem.W.isStarred y = false) (ha : PE X x (den X.K E (ev T.Φ ca))) (hb : PE X y (den X.K E (ev T.Φ cb))) :
    PE X (.Call (.Name "list" p) [.Call (.Name "range" p2) [x, y] [] pos2] [] pos) (den X.K E fun ρ m => (evL T.Φ [ca, cb] ρ m).bind fun ds m1 => bltop .listRg2 ds m1) := by
  refine imE (pe_listRg cx.calm (cx.gl hg) (cx.blt (by decide)) (prg_2 (cx.gl hg2) (cx.blt (by decide)) ha hb (star_cons hs) (star_cons hs2) (by rw [star_cons hs2]; rfl)) (star_cons rfl)) fun σ H Q hq => ?_
  obtain ⟨W, ρ, rfl, ok, er, h⟩ := hq
  have h : Post (Rep X.K) X.K W ((evL T.Φ [ca, cb] ρ W.M).bind fun ds m1 => f2 (rg2op .lst) ds m1) E Q := h
  rw [two_bind] at h
  refine ⟨W, ρ, rfl, ok, er, Post.bind h fun v W1 d l1 ok1 r1 h1 => ⟨W1, ρ, rfl, ok1, er.up l1, Post.bind h1 fun u W2 e l2 ok2 r2 h2 => ?_⟩⟩
  unfold rg2op at h2
  split at h2
  · rename_i i j
    cases r1
    cases r2
    split at h2
    · rename_i hj
      simp only [Bool.and_eq_true, decide_eq_true_eq] at hj
      have g1 := small_of hj.1.1
      have g2 := small_of hj.1.2
      exact ⟨i, j, rfl, rfl, ⟨by omega, by omega, by omega, by omega, by omega⟩, Post.newLst h2 ok2 (rep_rg i j)⟩
    · exact h2.elim
  · exact h2.elim
theorem s_tupRg2 (cx : Ctx T X k E) {ca cb : C} {p p2 pos2 : Pos} (hg : k.sc.names.lookup ("tuple" : Str) = some NameKind.globalImplicit) (hg2 : k.sc.names.lookup ("range" : Str) = some NameKind.globalImplicit) (hs : PySem.W.isStarred x = false) (hs2 : PySem.W.isStarred y = false) (ha : PE X x (den X.K E (ev T.Φ ca))) (hb : PE X y (den X.K E (ev T.Φ cb))) :
    PE X (.Call (.Name "tuple" p) [.Call (.Name "range" p2) [x, y] [] pos2] [] pos) (den X.K E fun ρ m => (evL T.Φ [ca, cb] ρ m).bind fun ds m1 => bltop .tupleRg2 ds m1) := by
  refine imE (pe_tupRg cx.calm (cx.gl hg) (cx.blt (by decide)) (prg_2 (cx.gl hg2) (cx.blt (by decide)) ha hb (star_cons hs) (star_cons hs2) (by rw [star_cons hs2]; rfl)) (star_cons rfl)) fun σ H Q hq => ?_
  obtain ⟨W, ρ, rfl, ok, er, h⟩ := hq
  have h : Post (Rep X.K) X.K W ((evL T.Φ [ca, cb] ρ W.M).bind fun ds m1 => f2 (rg2op .tup) ds m1) E Q := h
  rw [two_bind] at h
  refine ⟨W, ρ, rfl, ok, er, Post.bind h fun v W1 d l1 ok1 r1 h1 => ⟨W1, ρ, rfl, ok1, er.up l1, Post.bind h1 fun u W2 e l2 ok2 r2 h2 => ?_⟩⟩
  unfold rg2op at h2
  split at h2
  · rename_i i j
    cases r1
    cases r2
    split at h2
    · rename_i hj
      simp only [Bool.and_eq_true, decide_eq_true_eq] at hj
      have g1 := small_of hj.1.1
      have g2 := small_of hj.1.2
      exact ⟨i, j, rfl, rfl, ⟨by omega, by omega, by omega, by omega, by omega⟩, Post.newTup h2 ok2 (rep_rg i j)⟩
    · exact h2.elim
  · exact h2.elim
/-- arguments, one by one -/
inductive PEs (T : Tab) (X : Cx) (E : EH) : List C → List Expr → Prop
  | nil : PEs T X E [] []
  | cons {c : C} {cs : List C} {e : Expr} {es : List Expr} : PySem.W.isStarred e = false → PE X e (den X.K E (ev T.Φ c)) → PEs T X E cs es → PEs T X E (c :: cs) (e :: es)
theorem PEs.pa : ∀ {cs : List C} {es : List Expr}, PEs T X E cs es → PA X es (denL X.K E (evL T.Φ cs))
  | _, _, .nil => s_nil
  | _, _, .cons h1 h2 t => s_cons h1 h2 (PEs.pa t)
theorem PEs.star : ∀ {cs : List C} {es : List Expr}, PEs T X E cs es → es.all (fun e => !PySem.W.isStarred e) = true
  | _, _, .nil => rfl
  | _, _, .cons h1 h2 t => by rw [List.all_cons, h1, PEs.star t]; rfl
theorem PEs.get1 {cs : List C} (h : PEs T X E cs [x]) : ∃ c, cs = [c] ∧ PySem.W.isStarred x = false ∧ PE X x (den X.K E (ev T.Φ c)) := by
  cases h with
  | cons h1 h2 t => cases t; exact ⟨_, rfl, h1, h2⟩
theorem PEs.get2 {cs : List C} (h : PEs T X E cs [x, y]) : ∃ c d, cs = [c, d] ∧ PySem.W.isStarred x = false ∧ PE X x (den X.K E (ev T.Φ c)) ∧ PySem.W.isStarred y = false ∧ PE X y (den X.K E (ev T.Φ d)) := by
  cases h with
  | cons h1 h2 t =>
    obtain ⟨d, rfl, h3, h4⟩ := t.get1
    exact ⟨_, d, rfl, h1, h2, h3, h4⟩
/-! forms of built-ins: the arguments that are reckoned -/
def glB (k : Kx) (n : Str) : Bool := decide (k.sc.names.lookup n = some NameKind.globalImplicit)
def callN (k : Kx) (n : Str) (e : Expr) : Option (List Expr) := match e with
  | .Call (.Name m _) (x :: es) [] _ => if m = n ∧ glB k n = true then some (x :: es) else none
  | _ => none
theorem callN_of {n : Str} {e : Expr} {as : List Expr} (h : callN k n e = some as) : ∃ x es p pos, as = x :: es ∧ e = .Call (.Name n p) (x :: es) [] pos ∧ k.sc.names.lookup n = some NameKind.globalImplicit := by
  unfold callN at h
  split at h
  · rename_i m p x es pos
    split at h
    · rename_i hm
      cases h
      obtain ⟨rfl, hg⟩ := hm
      exact ⟨x, es, p, pos, rfl, rfl, by simpa [glB] using hg⟩
    · cases h
  · cases h
def len1 (l : List Expr) : Option (List Expr) := match l with
  | [x] => some [x]
  | _ => none
def len2 (l : List Expr) : Option (List Expr) := match l with
  | [x, y] => some [x, y]
  | _ => none
def isIn (k : Kx) (t : Str) (l : List Expr) : Option (List Expr) := match l with
  | [x, .Name n _] => if n = t ∧ glB k t = true then some [x] else none
  | _ => none
def inner (k : Kx) (n : Str) (l : List Expr) : Option (List Expr) := match l with
  | [e] => callN k n e
  | _ => none
def bltForm (k : Kx) (b : Blt) (e : Expr) : Option (List Expr) := match b with
  | .len => callN k "len" e
  | .list => callN k "list" e
  | .tuple => callN k "tuple" e
  | .sorted => callN k "sorted" e
  | .max2 => callN k "max" e
  | .min2 => callN k "min" e
  | .maxl => callN k "max" e
  | .minl => callN k "min" e
  | .suml => callN k "sum" e
  | .alll => callN k "all" e
  | .anyl => callN k "any" e
  | .intOf => callN k "int" e
  | .isInt => (callN k "isinstance" e).bind (isIn k "int")
  | .isBool => (callN k "isinstance" e).bind (isIn k "bool")
  | .isTuple => (callN k "isinstance" e).bind (isIn k "tuple")
  | .listRg1 => ((callN k "list" e).bind (inner k "range")).bind len1
  | .lenset => ((callN k "len" e).bind (inner k "set")).bind len1
  | .listRg2 => ((callN k "list" e).bind (inner k "range")).bind len2
  | .tupleRg2 => ((callN k "tuple" e).bind (inner k "range")).bind len2
  | _ => none
theorem isIn_of {t : Str} {l as : List Expr} (h : isIn k t l = some as) : ∃ x p, as = [x] ∧ l = [x, .Name t p] ∧ k.sc.names.lookup t = some NameKind.globalImplicit := by
  unfold isIn at h
  split at h
  · rename_i x n p
    split at h
    · rename_i hm
      cases h
      obtain ⟨rfl, hg⟩ := hm
      exact ⟨x, p, rfl, rfl, by simpa [glB] using hg⟩
    · cases h
  · cases h
theorem inner_of {n : Str} {l as : List Expr} (h : inner k n l = some as) : ∃ x es p pos, as = x :: es ∧ l = [.Call (.Name n p) (x :: es) [] pos] ∧ k.sc.names.lookup n = some NameKind.globalImplicit := by
  unfold inner at h
  split at h
  · rename_i e
    obtain ⟨x, es, p, pos, h1, rfl, h3⟩ := callN_of h
    exact ⟨x, es, p, pos, h1, rfl, h3⟩
  · cases h
theorem len1_of {l as : List Expr} (h : len1 l = some as) : ∃ x, as = [x] ∧ l = [x] := by
  unfold len1 at h
  split at h
  · cases h; exact ⟨_, rfl, rfl⟩
  · cases h
theorem len2_of {l as : List Expr} (h : len2 l = some as) : ∃ x y, as = [x, y] ∧ l = [x, y] := by
  unfold len2 at h
  split at h
  · cases h; exact ⟨_, _, rfl, rfl⟩
  · cases h
theorem bltS {b : Blt} {id : String} {n : Str} {e : Expr} {as : List Expr} {cs : List C} (cx : Ctx T X k E) (h : callN k n e = some as) (ps : PEs T X E cs as) (hc : CallR X (.builtin id) (rC X.K E b)) (hv : bootBuiltins n = some (.builtin id)) (hm : n ∈ bltNames)
    (hn : n ≠ "__name__") (hd : (n == ("__debug__" : Str)) = false) : PE X e (den X.K E fun ρ m => (evL T.Φ cs ρ m).bind fun ds m1 => bltop b ds m1) := by
  obtain ⟨x, es, p, pos, rfl, rfl, hg⟩ := callN_of h
  exact s_bltB cx hc hv hm hg ps.star hn hd ps.pa
theorem bltTy {b : Blt} {id : String} {n : Str} {e : Expr} {as : List Expr} {cs : List C} (cx : Ctx T X k E) (h : callN k n e = some as) (ps : PEs T X E cs as) (hc : CallR X (.type id) (rC X.K E b)) (hv : bootBuiltins n = some (.type id)) (hm : n ∈ bltNames)
    (hn : n ≠ "__name__") (hd : (n == ("__debug__" : Str)) = false) : PE X e (den X.K E fun ρ m => (evL T.Φ cs ρ m).bind fun ds m1 => bltop b ds m1) := by
  obtain ⟨x, es, p, pos, rfl, rfl, hg⟩ := callN_of h
  exact s_bltT cx hc hv hm hg ps.star hn hd ps.pa
theorem blt_sound (cx : Ctx T X k E) {b : Blt} {e : Expr} {as : List Expr} {cs : List C} (h : bltForm k b e = some as) (ps : PEs T X E cs as) : PE X e (den X.K E fun ρ m => (evL T.Φ cs ρ m).bind fun ds m1 => bltop b ds m1) := by
  cases b with
  | len => exact bltS cx h ps len_sound (by decide +kernel) (by decide) (by decide) (by decide)
  | list => exact bltTy cx h ps list_sound (by decide +kernel) (by decide) (by decide) (by decide)
  | tuple => exact bltTy cx h ps tuple_sound (by decide +kernel) (by decide) (by decide) (by decide)
  | sorted => exact bltS cx h ps (sorted_sound cx.calm) (by decide +kernel) (by decide) (by decide) (by decide)
  | max2 => exact bltS cx h ps (max2_sound cx.calm) (by decide +kernel) (by decide) (by decide) (by decide)
  | min2 => exact bltS cx h ps (min2_sound cx.calm) (by decide +kernel) (by decide) (by decide) (by decide)
  | maxl => exact bltS cx h ps (maxl_sound cx.calm) (by decide +kernel) (by decide) (by decide) (by decide)
  | minl => exact bltS cx h ps (minl_sound cx.calm) (by decide +kernel) (by decide) (by decide) (by decide)
  | suml => exact bltS cx h ps (suml_sound cx.calm) (by decide +kernel) (by decide) (by decide) (by decide)
  | alll => exact bltS cx h ps (alll_sound cx.calm) (by decide +kernel) (by decide) (by decide) (by decide)
  | anyl => exact bltS cx h ps (anyl_sound cx.calm) (by decide +kernel) (by decide) (by decide) (by decide)
  | intOf => exact bltTy cx h ps intOf_sound (by decide +kernel) (by decide) (by decide) (by decide)
  | isInt =>
    obtain ⟨l, h1, h2⟩ := Option.bind_eq_some_iff.mp h
    obtain ⟨x, p, rfl, rfl, hg⟩ := isIn_of h2
    obtain ⟨x', es, p', pos, e1, rfl, hg'⟩ := callN_of h1
    cases e1
    obtain ⟨c, rfl, hs, hp⟩ := ps.get1
    exact s_isinst cx isInt_sound (by decide +kernel) (by decide) hg hg' hs (by decide) (by decide) hp
  | isBool =>
    obtain ⟨l, h1, h2⟩ := Option.bind_eq_some_iff.mp h
    obtain ⟨x, p, rfl, rfl, hg⟩ := isIn_of h2
    obtain ⟨x', es, p', pos, e1, rfl, hg'⟩ := callN_of h1
    cases e1
    obtain ⟨c, rfl, hs, hp⟩ := ps.get1
    exact s_isinst cx isBool_sound (by decide +kernel) (by decide) hg hg' hs (by decide) (by decide) hp
  | isTuple =>
    obtain ⟨l, h1, h2⟩ := Option.bind_eq_some_iff.mp h
    obtain ⟨x, p, rfl, rfl, hg⟩ := isIn_of h2
    obtain ⟨x', es, p', pos, e1, rfl, hg'⟩ := callN_of h1
    cases e1
    obtain ⟨c, rfl, hs, hp⟩ := ps.get1
    exact s_isinst cx isTuple_sound (by decide +kernel) (by decide) hg hg' hs (by decide) (by decide) hp
  | listRg1 =>
    obtain ⟨l, h1, h2⟩ := Option.bind_eq_some_iff.mp h
    obtain ⟨l', h3, h4⟩ := Option.bind_eq_some_iff.mp h1
    obtain ⟨x, rfl, rfl⟩ := len1_of h2
    obtain ⟨x', es, p, pos, e1, rfl, hg⟩ := inner_of h4
    cases e1
    obtain ⟨x', es, p', pos, e1, rfl, hg'⟩ := callN_of h3
    cases e1
    obtain ⟨c, rfl, hs, hp⟩ := ps.get1
    exact s_listRg1 cx hg' hg hs hp
  | lenset =>
    obtain ⟨l, h1, h2⟩ := Option.bind_eq_some_iff.mp h
    obtain ⟨l', h3, h4⟩ := Option.bind_eq_some_iff.mp h1
    obtain ⟨x, rfl, rfl⟩ := len1_of h2
    obtain ⟨x', es, p, pos, e1, rfl, hg⟩ := inner_of h4
    cases e1
    obtain ⟨x', es, p', pos, e1, rfl, hg'⟩ := callN_of h3
    cases e1
    obtain ⟨c, rfl, hs, hp⟩ := ps.get1
    refine imE (s_lenset cx hg' hg hs hp) fun σ H Q hq => ?_
    obtain ⟨W, ρ, rfl, ok, er, hh⟩ := hq
    have hh : Post (Rep X.K) X.K W ((evL T.Φ [c] ρ W.M).bind fun ds m1 => f1 lensetop ds m1) E Q := hh
    rw [one_bind] at hh
    exact ⟨W, ρ, rfl, ok, er, hh⟩
  | listRg2 =>
    obtain ⟨l, h1, h2⟩ := Option.bind_eq_some_iff.mp h
    obtain ⟨l', h3, h4⟩ := Option.bind_eq_some_iff.mp h1
    obtain ⟨x, y, rfl, rfl⟩ := len2_of h2
    obtain ⟨x', es, p, pos, e1, rfl, hg⟩ := inner_of h4
    cases e1
    obtain ⟨x', es, p', pos, e1, rfl, hg'⟩ := callN_of h3
    cases e1
    obtain ⟨c, d, rfl, hs, hp, hs2, hp2⟩ := ps.get2
    exact s_listRg2 cx hg' hg hs hs2 hp hp2
  | tupleRg2 =>
    obtain ⟨l, h1, h2⟩ := Option.bind_eq_some_iff.mp h
    obtain ⟨l', h3, h4⟩ := Option.bind_eq_some_iff.mp h1
    obtain ⟨x, y, rfl, rfl⟩ := len2_of h2
    obtain ⟨x', es, p, pos, e1, rfl, hg⟩ := inner_of h4
    cases e1
    obtain ⟨x', es, p', pos, e1, rfl, hg'⟩ := callN_of h3
    cases e1
    obtain ⟨c, d, rfl, hs, hp, hs2, hp2⟩ := ps.get2
    exact s_tupRg2 cx hg' hg hs hs2 hp hp2
  | _ => cases h
end
end HD
end

section
set_option Elab.async false
set_option linter.all false
set_option maxRecDepth 100000
set_option maxHeartbeats 4000000
/-! A17: the check of expressions. -/
namespace HD
open PySem PySem.Spec PyProof.Rows L2
structure Tb where
  fs : Nat → Option Str
  xs : Nat → Option Str
structure TbOk (tb : Tb) (T : Tab) : Prop where
  f : ∀ i n, tb.fs i = some n → T.has i = true ∧ T.fname i = n
  x : ∀ i n, tb.xs i = some n → T.chas i = true ∧ T.cname i = n
def plainE : Expr → Bool
  | .Name .. => true
  | .Call .. => true
  | .Subscript .. => true
  | .Constant .. => true
  | _ => false
/-- forms whose truth is reckoned -/
def tstB : Expr → Bool
  | .Compare .. => true
  | .BoolOp .. => true
  | .UnaryOp .Not _ _ => true
  | e => plainE e
def isSetE : Expr → Bool
  | .Set .. => true
  | _ => false
def isTupE : Expr → Bool
  | .Tuple .. => true
  | _ => false
def len3 (l : List Expr) : Option (List Expr) := match l with
  | [x, y, z] => some [x, y, z]
  | _ => none
def itForm (k : Kx) (kk : ItK) (tg e : Expr) : Option (List Expr) := match kk with
  | .seq => some [e]
  | .rng1 => (callN k "range" e).bind len1
  | .rng2 => (callN k "range" e).bind len2
  | .rng3 => (callN k "range" e).bind len3
  | .zip => if isTupE tg then (callN k "zip" e).bind len2 else none
  | .enum => if isTupE tg then (callN k "enumerate" e).bind len1 else none
  | _ => none
def cmpOpB (o : Cop) (l : List CmpOp) : Bool := match l with
  | [p] => decide (p = copOf o)
  | _ => false
mutual
def chkE (tb : Tb) : C → Kx → Expr → Bool
  | .var i, k, e => match e with
    | .Name x _ => decide (k.N[i]? = some x) && visB k.sc x && nmB x
    | _ => false
  | .int i, _, e => match e with
    | .Constant (.int j) _ _ => decide (i = j)
    | _ => false
  | .bl b, _, e => match e with
    | .Constant (.bool c) _ _ => decide (b = c)
    | _ => false
  | .non, _, e => match e with
    | .Constant .none _ _ => true
    | _ => false
  | .str s, _, e => match e with
    | .Constant (.str t) _ _ => decide (s = t)
    | _ => false
  | .tup cs, k, e => match e with
    | .Tuple es _ _ => chkL tb cs k es
    | _ => false
  | .lst cs, k, e => match e with
    | .List es _ => chkL tb cs k es
    | _ => false
  | .ownL cs, k, e => match e with
    | .List es _ => chkL tb cs k es
    | _ => false
  | .ownC c, k, e => match e with
    | .Call (.Name n _) [x] [] _ => decide (n = ("list" : Str)) && glB k "list" && !PySem.W.isStarred x && chkE tb c k x
    | _ => false
  | .newk, _, e => match e with
    | .Dict [] [] _ => true
    | _ => false
  | .newkv i j, _, e => match e with
    | .Dict [some (.Constant (.int a) _ _)] [.Constant (.int b) _ _] _ => decide (i = a) && decide (j = b)
    | _ => false
  | .newt, _, e => match e with
    | .Dict [] [] _ => true
    | _ => false
  | .bin o a b, k, e => match e with
    | .BinOp x p y _ => decide (p = opOf o) && chkE tb a k x && chkE tb b k y
    | _ => false
  | .neg a, k, e => match e with
    | .UnaryOp .USub x _ => chkE tb a k x
    | _ => false
  | .cmp o a b, k, e => match e with
    | .Compare x [p] [y] _ => decide (p = copOf o) && !behindInMarks (copOf o) y && chkE tb a k x && chkE tb b k y
    | _ => false
  | .chain o p a b c, k, e => match e with
    | .Compare x [q, r] [y, z] _ => decide (q = copOf o) && decide (r = copOf p) && !lastMarks [copOf o, copOf p] [y, z] && chkE tb a k x && chkE tb b k y && chkE tb c k z
    | _ => false
  | .bop isAnd cs, k, e => match e with
    | .BoolOp op es _ => decide (op = if isAnd then .And else .Or) && !cs.isEmpty && es.all tstB && chkL tb cs k es
    | _ => false
  | .not1 a, k, e => match e with
    | .UnaryOp .Not x _ => tstB x && chkE tb a k x
    | _ => false
  | .ifx t a b, k, e => match e with
    | .IfExp c x y _ => tstB c && chkE tb t k c && chkE tb a k x && chkE tb b k y
    | _ => false
  | .ix a i, k, e => match e with
    | .Subscript x y _ => !isSliceB y && chkE tb a k x && chkE tb i k y
    | _ => false
  | .sl a lo hi, k, e => match e with
    | .Subscript x (.Slice l h none _) _ => chkE tb a k x && chkO tb lo k l && chkO tb hi k h
    | _ => false
  | .rev a, k, e => match e with
    | .Subscript x (.Slice none none (some (.UnaryOp .USub (.Constant (.int 1) _ _) _)) _) _ => chkE tb a k x
    | _ => false
  | .call f cs, k, e => match e with
    | .Call (.Name n _) (x :: es) [] _ => decide (tb.fs f = some n) && glB k n && !(n == ("__debug__" : Str)) && chkL tb cs k (x :: es)
    | _ => false
  | .blt b cs, k, e => match bltForm k b e with
    | some es => chkL tb cs k es
    | none => false
  | .comp elt t kk args ifs own, k, e => match e with
    | .ListComp el [⟨tg, iter, cs, 0⟩] scope _ => !isSetE iter && (match itForm k kk tg iter with
        | some es => chkL tb args k es
        | none => false) && blkC k.N k.sc scope (ownP k own) && decide ((ownP k own).map (·.2) = own) && chkTg (blkK k scope) t tg && (slotsOf t).all (fun i => decide (i ∈ own)) &&
      decide (cs.length ≤ 1) && cs.all tstB && chkL tb ifs (blkK k scope) cs && chkE tb elt (blkK k scope) el
    | _ => false
  | .comp2 elt t kk args ifs t2 kk2 args2 ifs2 own own2, k, e => match e with
    | .ListComp el [⟨tg, iter, cs, 0⟩, ⟨tg2, iter2, cs2, 0⟩] scope _ => !isSetE iter && !isSetE iter2 && (match itForm k kk tg iter with
        | some es => chkL tb args k es
        | none => false) && (match itForm (blkK k scope) kk2 tg2 iter2 with
        | some es => chkL tb args2 (blkK k scope) es
        | none => false) && blkC k.N k.sc scope (ownP k own) && decide ((ownP k own).map (·.2) = own) && chkTg (blkK k scope) t tg && chkTg (blkK k scope) t2 tg2 && (slotsOf t).all (fun i => decide (i ∈ own)) && (slotsOf t2).all (fun i => decide (i ∈ own2)) && own2.all (fun i => decide (i ∈ own)) &&
      decide (cs.length ≤ 1) && cs.all tstB && chkL tb ifs (blkK k scope) cs && decide (cs2.length ≤ 1) && cs2.all tstB && chkL tb ifs2 (blkK k scope) cs2 && chkE tb elt (blkK k scope) el
    | _ => false
  | .get a b c, k, e => match e with
    | .Call (.Attribute x n p) [y, z] [] cpos => decide (n = ("get" : Str)) && isNm x && !PySem.W.isStarred y && !PySem.W.isStarred z && (p.endLine == cpos.line) && chkE tb a k x && chkE tb b k y && chkE tb c k z
    | _ => false
  | .popAt a b, k, e => match e with
    | .Call (.Attribute x n p) [y] [] cpos => decide (n = ("pop" : Str)) && isNm x && !PySem.W.isStarred y && (p.endLine == cpos.line) && chkE tb a k x && chkE tb b k y
    | _ => false
def chkL (tb : Tb) : List C → Kx → List Expr → Bool
  | [], _, es => es.isEmpty
  | c :: cs, k, es => match es with
    | e :: es => !PySem.W.isStarred e && chkE tb c k e && chkL tb cs k es
    | [] => false
def chkO (tb : Tb) : Option C → Kx → Option Expr → Bool
  | none, _, e => e.isNone
  | some c, k, e => match e with
    | some e => chkE tb c k e
    | none => false
end
section
variable {T : Tab} {X : Cx} {k : Kx} {E : EH} {a b c x y z tg : Expr} {es : List Expr} {fa fb fc : Env → Mem → Res D} {fl : Env → Mem → Res (List D)} {pos : Pos}
theorem fs_no {e : Expr} (h : isSetE e = false) {env : PySem.Env} : ∀ x, foldedSetIterable e env x = pure x := fun x => by
  cases e <;> first | rfl | (simp [isSetE] at h)
theorem plainT (h : PE X x (den X.K E fa)) (hp : plainE x = true) : PT X x (denT X.K E fun ρ m => (fa ρ m).bind blOf) := by
  refine s_plainT h fun whole => ?_
  cases x <;> first | rfl | (simp [plainE] at hp)
theorem len3_of {l as : List Expr} (h : len3 l = some as) : ∃ x y z, as = [x, y, z] ∧ l = [x, y, z] := by
  unfold len3 at h
  split at h
  · cases h; exact ⟨_, _, _, rfl, rfl⟩
  · cases h
theorem it_sound (cx : Ctx T X k E) {kk : ItK} {e : Expr} {as : List Expr} {cs : List C} (h : itForm k kk tg e = some as) (ps : PEs T X E cs as) : PI X tg e (denI X.K E fun ρ m => itsOf kk (evL T.Φ cs ρ m)) := by
  cases kk with
  | seq =>
    cases h
    obtain ⟨c, rfl, hs, hp⟩ := ps.get1
    exact s_seqI hp
  | rng1 =>
    obtain ⟨l, h1, h2⟩ := Option.bind_eq_some_iff.mp h
    obtain ⟨x, rfl, rfl⟩ := len1_of h2
    obtain ⟨x', es, p', pos, e1, rfl, hg'⟩ := callN_of h1
    cases e1
    obtain ⟨c, rfl, hs, hp⟩ := ps.get1
    exact s_rng1I cx hg' hs ps.pa
  | rng2 =>
    obtain ⟨l, h1, h2⟩ := Option.bind_eq_some_iff.mp h
    obtain ⟨x, y, rfl, rfl⟩ := len2_of h2
    obtain ⟨x', es, p', pos, e1, rfl, hg'⟩ := callN_of h1
    cases e1
    obtain ⟨c, d, rfl, hs, hp, hs2, hp2⟩ := ps.get2
    exact s_rng2I cx hg' hs hs2 ps.pa
  | rng3 =>
    obtain ⟨l, h1, h2⟩ := Option.bind_eq_some_iff.mp h
    obtain ⟨x, y, z, rfl, rfl⟩ := len3_of h2
    obtain ⟨x', es, p', pos, e1, rfl, hg'⟩ := callN_of h1
    cases e1
    exact s_rng3I cx hg' ps.star ps.pa
  | zip =>
    unfold itForm at h
    simp only at h
    split at h
    · rename_i ht
      obtain ⟨l, h1, h2⟩ := Option.bind_eq_some_iff.mp h
      obtain ⟨x, y, rfl, rfl⟩ := len2_of h2
      obtain ⟨x', es, p', pos, e1, rfl, hg'⟩ := callN_of h1
      cases e1
      obtain ⟨c, d, rfl, hs, hp, hs2, hp2⟩ := ps.get2
      cases tg with
      | Tuple elts n p => exact s_zipI cx hg' hs hs2 ps.pa
      | _ => simp [isTupE] at ht
    · cases h
  | enum =>
    unfold itForm at h
    simp only at h
    split at h
    · rename_i ht
      obtain ⟨l, h1, h2⟩ := Option.bind_eq_some_iff.mp h
      obtain ⟨x, rfl, rfl⟩ := len1_of h2
      obtain ⟨x', es, p', pos, e1, rfl, hg'⟩ := callN_of h1
      cases e1
      obtain ⟨c, rfl, hs, hp⟩ := ps.get1
      cases tg with
      | Tuple elts n p => exact s_enumI cx hg' hs ps.pa
      | _ => simp [isTupE] at ht
    · cases h
  | _ => cases h
theorem callN_plain {n : Str} {e : Expr} {as : List Expr} (h : callN k n e = some as) : plainE e = true := by
  obtain ⟨_, _, _, _, _, rfl, _⟩ := callN_of h; rfl
theorem blt_plain {b : Blt} {e : Expr} {as : List Expr} (h : bltForm k b e = some as) : plainE e = true := by
  cases b <;> first | exact callN_plain h | (cases h; done) | (obtain ⟨_, h1, _⟩ := Option.bind_eq_some_iff.mp h; first | exact callN_plain h1 | (obtain ⟨_, h2, _⟩ := Option.bind_eq_some_iff.mp h1; exact callN_plain h2))
end
/-! ### soundness -/
structure SE (T : Tab) (c : C) (k : Kx) (e : Expr) : Prop where
  pe : ∀ (X : Cx) (E : EH), Ctx T X k E → PE X e (den X.K E (ev T.Φ c))
  pt : tstB e = true → ∀ (X : Cx) (E : EH), Ctx T X k E → PT X e (denT X.K E fun ρ m => (ev T.Φ c ρ m).bind blOf)
inductive SL (T : Tab) (k : Kx) : List C → List Expr → Prop
  | nil : SL T k [] []
  | cons {c : C} {cs : List C} {e : Expr} {es : List Expr} : PySem.W.isStarred e = false → SE T c k e → SL T k cs es → SL T k (c :: cs) (e :: es)
def SO (T : Tab) (c : Option C) (k : Kx) (e : Option Expr) : Prop := ∀ (X : Cx) (E : EH), Ctx T X k E → PO X e (denO X.K E (evO T.Φ c))
section
variable {T : Tab} {k : Kx}
theorem SL.pes {X : Cx} {E : EH} (cx : Ctx T X k E) : ∀ {cs : List C} {es : List Expr}, SL T k cs es → PEs T X E cs es
  | _, _, .nil => .nil
  | _, _, .cons h1 h2 t => .cons h1 (h2.pe X E cx) (SL.pes cx t)
theorem SL.star {cs : List C} {es : List Expr} (h : SL T k cs es) : es.all (fun e => !PySem.W.isStarred e) = true := by
  induction h with
  | nil => rfl
  | cons h1 _ _ ih => rw [List.all_cons, h1, ih]; rfl
theorem SE.plain {c : C} {e : Expr} (h : ∀ (X : Cx) (E : EH), Ctx T X k E → PE X e (den X.K E (ev T.Φ c))) (hp : plainE e = true) : SE T c k e := ⟨h, fun _ X E cx => plainT (h X E cx) hp⟩
theorem SE.no {c : C} {e : Expr} (h : ∀ (X : Cx) (E : EH), Ctx T X k E → PE X e (den X.K E (ev T.Φ c))) (hp : tstB e = false) : SE T c k e := ⟨h, fun z => by rw [hp] at z; cases z⟩
theorem SL.bopE {X : Cx} {E : EH} (cx : Ctx T X k E) {isAnd : Bool} {pos : Pos} : ∀ {cs : List C} {es : List Expr}, SL T k cs es → cs ≠ [] → PE X (.BoolOp (if isAnd then .And else .Or) es pos) (den X.K E (evB T.Φ isAnd cs))
  | _, _, .nil, h => absurd rfl h
  | _, _, .cons h1 h2 .nil, _ => s_bop1 (h2.pe X E cx)
  | _, _, .cons h1 h2 (.cons h3 h4 t), _ => by
    have ih := SL.bopE cx (isAnd := isAnd) (pos := pos) (.cons h3 h4 t) (by simp)
    cases isAnd with
    | true => exact s_and (h2.pe X E cx) ih
    | false => exact s_or (h2.pe X E cx) ih
theorem SL.bopT {X : Cx} {E : EH} (cx : Ctx T X k E) {isAnd : Bool} {pos : Pos} : ∀ {cs : List C} {es : List Expr}, SL T k cs es → cs ≠ [] → es.all tstB = true → PW X (.BoolOp (if isAnd then .And else .Or) es pos) (denT X.K E fun ρ m => (evB T.Φ isAnd cs ρ m).bind blOf)
  | _, _, .nil, h, _ => absurd rfl h
  | _, _, .cons h1 h2 .nil, _, ht => by
    rw [List.all_cons, Bool.and_eq_true] at ht
    cases isAnd with
    | true => exact s_andT1 (h2.pt ht.1 X E cx)
    | false => exact s_orT1 (h2.pt ht.1 X E cx)
  | _, _, .cons h1 h2 (.cons h3 h4 t), _, ht => by
    rw [List.all_cons, Bool.and_eq_true] at ht
    have ih := SL.bopT cx (isAnd := isAnd) (pos := pos) (.cons h3 h4 t) (by simp) ht.2
    cases isAnd with
    | true => exact s_andT (h2.pt ht.1 X E cx) ih
    | false => exact s_orT (h2.pt ht.1 X E cx) ih
theorem SL.tests {cs : List C} {es : List Expr} (h : SL T k cs es) (hl : es.length ≤ 1) (ht : es.all tstB = true) {X : Cx} {E : EH} (cx : Ctx T X k E) : PTs X es (denT X.K E (evT T.Φ cs)) := by
  cases h with
  | nil =>
    exact ⟨fun pins s σ H Q I hw => pts_nil.run pins s σ H Q I (by
      obtain ⟨W, ρ, rfl, ok, er, h⟩ := hw
      exact Post.here h ok rfl)⟩
  | cons h1 h2 t =>
    cases t with
    | nil =>
      rw [List.all_cons, Bool.and_eq_true] at ht
      refine ⟨fun pins s σ H Q I hw => (pts_one (h2.pt ht.1 X E cx)).run pins s σ H Q I ?_⟩
      obtain ⟨W, ρ, rfl, ok, er, h⟩ := hw
      refine ⟨W, ρ, rfl, ok, er, ?_⟩
      rename_i c _
      have e : evT T.Φ [c] ρ W.M = (ev T.Φ c ρ W.M).bind blOf := by
        unfold evT
        cases ev T.Φ c ρ W.M with
        | ok d m =>
          simp only [Res.bind_ok]
          cases d with
          | bl b =>
            simp only [blOf, Res.bind_ok]
            cases b with
            | true => simp only [if_true]; unfold evT; rfl
            | false => simp only [Bool.false_eq_true, if_false]
          | _ => rfl
        | exc c m => rfl
        | stk => rfl
      rw [e] at h
      exact h
    | cons _ _ _ => simp at hl
end
end HD
end

section
set_option Elab.async false
set_option linter.all false
set_option maxRecDepth 100000
set_option maxHeartbeats 8000000
/-! A18: what is checked holds. -/
namespace HD
open PySem PySem.Spec PyProof.Rows L2
section
variable (Φ : Phi)
theorem ev_tup (es : List C) : ev Φ (.tup es) = fun ρ m => (evL Φ es ρ m).bind fun ds m1 => if ds.length ≤ LIM then .ok (.tup ds) m1 else .stk := by funext ρ m; rw [ev]
theorem ev_lst (es : List C) : ev Φ (.lst es) = fun ρ m => (evL Φ es ρ m).bind fun ds m1 => if ds.length ≤ LIM then .ok (.lst ds) m1 else .stk := by funext ρ m; rw [ev]
theorem ev_ownL (es : List C) : ev Φ (.ownL es) = fun ρ m => ((evL Φ es ρ m).bind fun ds m1 => if ds.length ≤ LIM then .ok (.lst ds) m1 else .stk).bind ownop := by funext ρ m; rw [ev]
theorem ev_ownC (e : C) : ev Φ (.ownC e) = fun ρ m => ((ev Φ e ρ m).bind listop).bind ownop := by funext ρ m; rw [ev]
theorem ev_bin (o : Bop) (a b : C) : ev Φ (.bin o a b) = fun ρ m => (ev Φ a ρ m).bind fun x m1 => (ev Φ b ρ m1).bind fun y m2 => binop o x y m2 := by funext ρ m; rw [ev]
theorem ev_neg (a : C) : ev Φ (.neg a) = fun ρ m => (ev Φ a ρ m).bind fun x m1 => match x with | .int i => .ok (.int (-i)) m1 | _ => .stk := by funext ρ m; rw [ev] <;> rfl
theorem ev_cmp (o : Cop) (a b : C) : ev Φ (.cmp o a b) = fun ρ m => (ev Φ a ρ m).bind fun x m1 => (ev Φ b ρ m1).bind fun y m2 => cmpop o x y m2 := by funext ρ m; rw [ev]
theorem ev_chain (o p : Cop) (a b c : C) : ev Φ (.chain o p a b c) = fun ρ m => (ev Φ a ρ m).bind fun x m1 => (ev Φ b ρ m1).bind fun y m2 => (cmpop o x y m2).bind fun k m3 => (blOf k m3).bind fun k m3 =>
      if k = true then (ev Φ c ρ m3).bind fun z m4 => cmpop p y z m4 else .ok (.bl false) m3 := by funext ρ m; rw [ev]
theorem ev_bop (c : Bool) (es : List C) : ev Φ (.bop c es) = evB Φ c es := by funext ρ m; rw [ev]
theorem ev_not (a : C) : ev Φ (.not1 a) = fun ρ m => (ev Φ a ρ m).bind fun x m1 => (blOf x m1).bind fun b m1 => .ok (.bl (!b)) m1 := by funext ρ m; rw [ev]
theorem ev_ifx (t a b : C) : ev Φ (.ifx t a b) = fun ρ m => (ev Φ t ρ m).bind fun x m1 => (blOf x m1).bind fun k m1 => if k = true then ev Φ a ρ m1 else ev Φ b ρ m1 := by funext ρ m; rw [ev]
theorem ev_ix (a i : C) : ev Φ (.ix a i) = fun ρ m => (ev Φ a ρ m).bind fun x m1 => (ev Φ i ρ m1).bind fun y m2 => ixop x y m2 := by funext ρ m; rw [ev]
theorem ev_sl (a : C) (lo hi : Option C) : ev Φ (.sl a lo hi) = fun ρ m => (ev Φ a ρ m).bind fun x m1 => (evO Φ lo ρ m1).bind fun l m2 => (evO Φ hi ρ m2).bind fun h m3 => slop x l h m3 := by funext ρ m; rw [ev]
theorem ev_rev (a : C) : ev Φ (.rev a) = fun ρ m => (ev Φ a ρ m).bind revop := by funext ρ m; rw [ev]
theorem ev_call (f : Nat) (es : List C) : ev Φ (.call f es) = fun ρ m => (evL Φ es ρ m).bind fun ds m1 => Φ f ds m1 := by funext ρ m; rw [ev]
theorem ev_blt (b : Blt) (es : List C) : ev Φ (.blt b es) = fun ρ m => (evL Φ es ρ m).bind fun ds m1 => bltop b ds m1 := by funext ρ m; rw [ev]
theorem ev_comp (elt : C) (t : Tg) (k : ItK) (args ifs : List C) (own : List Nat) : ev Φ (.comp elt t k args ifs own) = compE (fun ρ m => itsOf k (evL Φ args ρ m)) (evT Φ ifs) (ev Φ elt) t own := by funext ρ m; rw [ev]; rfl
theorem ev_comp2 (elt : C) (t : Tg) (k : ItK) (args ifs : List C) (t2 : Tg) (k2 : ItK) (args2 ifs2 : List C) (own own2 : List Nat) : ev Φ (.comp2 elt t k args ifs t2 k2 args2 ifs2 own own2) = comp2E (fun ρ m => itsOf k (evL Φ args ρ m)) (evT Φ ifs) t (fun ρ m => itsOf k2 (evL Φ args2 ρ m)) (evT Φ ifs2) t2 (ev Φ elt) own own2 := by funext ρ m; rw [ev]; rfl
theorem ev_get (d k x : C) : ev Φ (.get d k x) = fun ρ m => (ev Φ d ρ m).bind fun a m1 => if isDic m1 a then (ev Φ k ρ m1).bind fun b m2 => (ev Φ x ρ m2).bind fun c m3 => getop a b c m3 else .stk := by funext ρ m; rw [ev]
theorem ev_popAt (l i : C) : ev Φ (.popAt l i) = fun ρ m => (ev Φ l ρ m).bind fun a m1 => if isLst m1 a then (ev Φ i ρ m1).bind fun b m2 => popop a b m2 else .stk := by funext ρ m; rw [ev]
end
theorem chkL_cons {tb : Tb} {c : C} {cs : List C} {k : Kx} {es : List Expr} (h : chkL tb (c :: cs) k es = true) : ∃ e es', es = e :: es' ∧ PySem.W.isStarred e = false ∧ chkE tb c k e = true ∧ chkL tb cs k es' = true := by
  unfold chkL at h
  split at h
  · simp only [Bool.and_eq_true, Bool.not_eq_true'] at h
    exact ⟨_, _, rfl, h.1.1, h.1.2, h.2⟩
  · cases h
structure CompChk (tb : Tb) (k : Kx) (elt : C) (t : Tg) (kk : ItK) (args ifs : List C) (own : List Nat) (el tg iter : Expr) (cs : List Expr) (scope : Scope) (es : List Expr) : Prop where
  ns : isSetE iter = false
  fm : itForm k kk tg iter = some es
  ar : chkL tb args k es = true
  ok0 : blkC k.N k.sc scope (ownP k own) = true
  hown : (ownP k own).map (·.2) = own
  htg : chkTg (blkK k scope) t tg = true
  hsl : (slotsOf t).all (fun i => decide (i ∈ own)) = true
  le : cs.length ≤ 1
  ts : cs.all tstB = true
  fi : chkL tb ifs (blkK k scope) cs = true
  el : chkE tb elt (blkK k scope) el = true
theorem comp_chk {tb : Tb} {k : Kx} {elt : C} {t : Tg} {kk : ItK} {args ifs : List C} {own : List Nat} {e : Expr} (h : chkE tb (.comp elt t kk args ifs own) k e = true) :
    ∃ el tg iter cs scope pos es, e = .ListComp el [⟨tg, iter, cs, 0⟩] scope pos ∧ CompChk tb k elt t kk args ifs own el tg iter cs scope es := by
  unfold chkE at h
  split at h
  · rename_i el tg iter cs scope pos
    simp only [Bool.and_eq_true, Bool.not_eq_true', decide_eq_true_eq] at h
    obtain ⟨⟨⟨⟨⟨⟨⟨⟨⟨h1, h2⟩, h3⟩, h4⟩, h5⟩, h6⟩, h7⟩, h8⟩, h9⟩, h10⟩ := h
    split at h2
    · rename_i es hf
      exact ⟨el, tg, iter, cs, scope, pos, es, rfl, h1, hf, h2, h3, h4, h5, h6, h7, h8, h9, h10⟩
    · cases h2
  · cases h
theorem CompChk.ok {tb : Tb} {T : Tab} {k : Kx} {elt : C} {t : Tg} {kk : ItK} {args ifs : List C} {own : List Nat} {el tg iter : Expr} {cs : List Expr} {scope : Scope} {es : List Expr} (c : CompChk tb k elt t kk args ifs own el tg iter cs scope es)
    (ha : SL T k args es) (hf : SL T (blkK k scope) ifs cs) (he : SE T elt (blkK k scope) el) {X : Cx} {E : EH} (cx : Ctx T X k E) : CompOk T X k E el tg iter cs scope t own (fun ρ m => itsOf kk (evL T.Φ args ρ m)) (evT T.Φ ifs) (ev T.Φ elt) :=
  ⟨it_sound cx c.fm (ha.pes cx), c.ok0, c.hown, c.htg, c.hsl, fun X' cx' => hf.tests c.le c.ts cx', fun X' cx' => he.pe X' _ cx', fs_no c.ns⟩
structure Comp2Chk (tb : Tb) (k : Kx) (elt : C) (t : Tg) (kk : ItK) (args ifs : List C) (t2 : Tg) (kk2 : ItK) (args2 ifs2 : List C) (own own2 : List Nat) (el tg iter : Expr) (cs : List Expr) (tg2 iter2 : Expr) (cs2 : List Expr) (scope : Scope) (es es2 : List Expr) : Prop where
  ns : isSetE iter = false
  ns2 : isSetE iter2 = false
  fm : itForm k kk tg iter = some es
  ar : chkL tb args k es = true
  fm2 : itForm (blkK k scope) kk2 tg2 iter2 = some es2
  ar2 : chkL tb args2 (blkK k scope) es2 = true
  ok0 : blkC k.N k.sc scope (ownP k own) = true
  hown : (ownP k own).map (·.2) = own
  htg : chkTg (blkK k scope) t tg = true
  htg2 : chkTg (blkK k scope) t2 tg2 = true
  hsl : (slotsOf t).all (fun i => decide (i ∈ own)) = true
  hsl2 : (slotsOf t2).all (fun i => decide (i ∈ own2)) = true
  hv : own2.all (fun i => decide (i ∈ own)) = true
  le : cs.length ≤ 1
  ts : cs.all tstB = true
  fi : chkL tb ifs (blkK k scope) cs = true
  le2 : cs2.length ≤ 1
  ts2 : cs2.all tstB = true
  fi2 : chkL tb ifs2 (blkK k scope) cs2 = true
  el : chkE tb elt (blkK k scope) el = true
theorem comp2_chk {tb : Tb} {k : Kx} {elt : C} {t : Tg} {kk : ItK} {args ifs : List C} {t2 : Tg} {kk2 : ItK} {args2 ifs2 : List C} {own own2 : List Nat} {e : Expr} (h : chkE tb (.comp2 elt t kk args ifs t2 kk2 args2 ifs2 own own2) k e = true) :
    ∃ el tg iter cs tg2 iter2 cs2 scope pos es es2, e = .ListComp el [⟨tg, iter, cs, 0⟩, ⟨tg2, iter2, cs2, 0⟩] scope pos ∧ Comp2Chk tb k elt t kk args ifs t2 kk2 args2 ifs2 own own2 el tg iter cs tg2 iter2 cs2 scope es es2 := by
  unfold chkE at h
  split at h
  · rename_i el tg iter cs tg2 iter2 cs2 scope pos
    simp only [Bool.and_eq_true, Bool.not_eq_true', decide_eq_true_eq] at h
    obtain ⟨⟨⟨⟨⟨⟨⟨⟨⟨⟨⟨⟨⟨⟨⟨⟨⟨h1, h1b⟩, h2⟩, h2b⟩, h3⟩, h4⟩, h5⟩, h5b⟩, h6⟩, h6b⟩, h6c⟩, h7⟩, h8⟩, h9⟩, h7b⟩, h8b⟩, h9b⟩, h10⟩ := h
    split at h2
    · rename_i es hf
      split at h2b
      · rename_i es2 hf2
        exact ⟨el, tg, iter, cs, tg2, iter2, cs2, scope, pos, es, es2, rfl, h1, h1b, hf, h2, hf2, h2b, h3, h4, h5, h5b, h6, h6b, h6c, h7, h8, h9, h7b, h8b, h9b, h10⟩
      · cases h2b
    · cases h2
  · cases h
theorem Comp2Chk.ok {tb : Tb} {T : Tab} {k : Kx} {elt : C} {t : Tg} {kk : ItK} {args ifs : List C} {t2 : Tg} {kk2 : ItK} {args2 ifs2 : List C} {own own2 : List Nat} {el tg iter : Expr} {cs : List Expr} {tg2 iter2 : Expr} {cs2 : List Expr} {scope : Scope} {es es2 : List Expr}
    (c : Comp2Chk tb k elt t kk args ifs t2 kk2 args2 ifs2 own own2 el tg iter cs tg2 iter2 cs2 scope es es2) (ha : SL T k args es) (hf : SL T (blkK k scope) ifs cs) (ha2 : SL T (blkK k scope) args2 es2) (hf2 : SL T (blkK k scope) ifs2 cs2) (he : SE T elt (blkK k scope) el) {X : Cx} {E : EH} (cx : Ctx T X k E) :
    Comp2Ok T X k E el tg iter cs tg2 iter2 cs2 scope t t2 own own2 (fun ρ m => itsOf kk (evL T.Φ args ρ m)) (evT T.Φ ifs) (fun ρ m => itsOf kk2 (evL T.Φ args2 ρ m)) (evT T.Φ ifs2) (ev T.Φ elt) :=
  ⟨it_sound cx c.fm (ha.pes cx), c.ok0, c.hown, c.htg, c.htg2, c.hsl, c.hsl2, c.hv, fun X' cx' => hf.tests c.le c.ts cx', fun X' cx' => it_sound cx' c.fm2 (ha2.pes cx'), fun X' cx' => hf2.tests c.le2 c.ts2 cx', fun X' cx' => he.pe X' _ cx', fs_no c.ns, fun env => fs_no c.ns2⟩
mutual
theorem soundE {tb : Tb} {T : Tab} (hT : TbOk tb T) : ∀ (c : C) (k : Kx) (e : Expr), chkE tb c k e = true → SE T c k e
  | .var i, k, e, h => by
    unfold chkE at h
    split at h
    · simp only [Bool.and_eq_true, decide_eq_true_eq] at h
      exact .plain (fun X E cx => s_var cx h.1.1 h.1.2 h.2) rfl
    · cases h
  | .int i, k, e, h => by
    unfold chkE at h
    split at h
    · rw [decide_eq_true_eq] at h
      subst h
      exact .plain (fun X E cx => s_const pe_int (fun _ _ => .int _) (fun _ _ => by rw [ev])) rfl
    · cases h
  | .bl b, k, e, h => by
    unfold chkE at h
    split at h
    · rw [decide_eq_true_eq] at h
      subst h
      exact .plain (fun X E cx => s_const pe_bl (fun _ _ => .bl _) (fun _ _ => by rw [ev])) rfl
    · cases h
  | .non, k, e, h => by
    unfold chkE at h
    split at h
    · exact .plain (fun X E cx => s_const pe_non (fun _ _ => .non) (fun _ _ => by rw [ev])) rfl
    · cases h
  | .str s, k, e, h => by
    unfold chkE at h
    split at h
    · rw [decide_eq_true_eq] at h
      subst h
      exact .plain (fun X E cx => s_const pe_str (fun _ _ => .str _) (fun _ _ => by rw [ev])) rfl
    · cases h
  | .tup cs, k, e, h => by
    unfold chkE at h
    split at h
    · have ih := soundL hT cs k _ h
      exact .no (fun X E cx => by rw [ev_tup]; exact s_tup (ih.pes cx).pa) rfl
    · cases h
  | .lst cs, k, e, h => by
    unfold chkE at h
    split at h
    · have ih := soundL hT cs k _ h
      exact .no (fun X E cx => by rw [ev_lst]; exact s_lst (ih.pes cx).pa) rfl
    · cases h
  | .ownL cs, k, e, h => by
    unfold chkE at h
    split at h
    · have ih := soundL hT cs k _ h
      exact .no (fun X E cx => by rw [ev_ownL]; exact s_lstOwn (ih.pes cx).pa) rfl
    · cases h
  | .ownC c, k, e, h => by
    unfold chkE at h
    split at h
    · simp only [Bool.and_eq_true, Bool.not_eq_true', decide_eq_true_eq] at h
      obtain ⟨⟨⟨rfl, h2⟩, h3⟩, h4⟩ := h
      have ih := soundE hT c k _ h4
      exact .plain (fun X E cx => by rw [ev_ownC]; exact s_listOwn cx (by simpa [glB] using h2) h3 (ih.pe X E cx)) rfl
    · cases h
  | .newk, k, e, h => by
    unfold chkE at h
    split at h
    · exact .no (fun X E cx => s_newk) rfl
    · cases h
  | .newkv i j, k, e, h => by
    unfold chkE at h
    split at h
    · simp only [Bool.and_eq_true, decide_eq_true_eq] at h
      obtain ⟨rfl, rfl⟩ := h
      exact .no (fun X E cx => s_newkv) rfl
    · cases h
  | .newt, k, e, h => by
    unfold chkE at h
    split at h
    · exact .no (fun X E cx => s_newt) rfl
    · cases h
  | .bin o a b, k, e, h => by
    unfold chkE at h
    split at h
    · simp only [Bool.and_eq_true, decide_eq_true_eq] at h
      obtain ⟨⟨rfl, h2⟩, h3⟩ := h
      have ia := soundE hT a k _ h2
      have ib := soundE hT b k _ h3
      exact .no (fun X E cx => by rw [ev_bin]; exact s_bin o (ia.pe X E cx) (ib.pe X E cx)) rfl
    · cases h
  | .neg a, k, e, h => by
    unfold chkE at h
    split at h
    · have ia := soundE hT a k _ h
      exact .no (fun X E cx => by rw [ev_neg]; exact s_neg (ia.pe X E cx)) rfl
    · cases h
  | .cmp o a b, k, e, h => by
    unfold chkE at h
    split at h
    · simp only [Bool.and_eq_true, Bool.not_eq_true', decide_eq_true_eq] at h
      obtain ⟨⟨⟨rfl, h1⟩, h2⟩, h3⟩ := h
      have ia := soundE hT a k _ h2
      have ib := soundE hT b k _ h3
      exact ⟨fun X E cx => by rw [ev_cmp]; exact s_cmp cx o h1 (ia.pe X E cx) (ib.pe X E cx), fun _ X E cx => by rw [ev_cmp]; exact s_cmpT cx o h1 (ia.pe X E cx) (ib.pe X E cx)⟩
    · cases h
  | .chain o p a b c, k, e, h => by
    unfold chkE at h
    split at h
    · simp only [Bool.and_eq_true, Bool.not_eq_true', decide_eq_true_eq] at h
      obtain ⟨⟨⟨⟨⟨rfl, rfl⟩, h1⟩, h2⟩, h3⟩, h4⟩ := h
      have ia := soundE hT a k _ h2
      have ib := soundE hT b k _ h3
      have ic := soundE hT c k _ h4
      exact ⟨fun X E cx => by rw [ev_chain]; exact s_chain cx o p h1 (ia.pe X E cx) (ib.pe X E cx) (ic.pe X E cx), fun _ X E cx => by rw [ev_chain]; exact s_chainT cx o p h1 (ia.pe X E cx) (ib.pe X E cx) (ic.pe X E cx)⟩
    · cases h
  | .bop isAnd cs, k, e, h => by
    unfold chkE at h
    split at h
    · simp only [Bool.and_eq_true, Bool.not_eq_true', decide_eq_true_eq] at h
      obtain ⟨⟨⟨rfl, h1⟩, h2⟩, h3⟩ := h
      have ih := soundL hT cs k _ h3
      have hne : cs ≠ [] := fun z => by rw [z] at h1; cases h1
      exact ⟨fun X E cx => by rw [ev_bop]; exact ih.bopE cx hne, fun _ X E cx => by rw [ev_bop]; exact (ih.bopT cx hne h2).pt⟩
    · cases h
  | .not1 a, k, e, h => by
    unfold chkE at h
    split at h
    · simp only [Bool.and_eq_true] at h
      have ia := soundE hT a k _ h.2
      exact ⟨fun X E cx => by rw [ev_not]; exact s_not (ia.pe X E cx), fun _ X E cx => by rw [ev_not]; exact s_notT (ia.pt h.1 X E cx)⟩
    · cases h
  | .ifx t a b, k, e, h => by
    unfold chkE at h
    split at h
    · simp only [Bool.and_eq_true] at h
      obtain ⟨⟨⟨h1, h2⟩, h3⟩, h4⟩ := h
      have it := soundE hT t k _ h2
      have ia := soundE hT a k _ h3
      have ib := soundE hT b k _ h4
      exact .no (fun X E cx => by rw [ev_ifx]; exact s_ifx (it.pt h1 X E cx) (ia.pe X E cx) (ib.pe X E cx)) rfl
    · cases h
  | .ix a i, k, e, h => by
    unfold chkE at h
    split at h
    · simp only [Bool.and_eq_true, Bool.not_eq_true'] at h
      have ia := soundE hT a k _ h.1.2
      have ib := soundE hT i k _ h.2
      exact .plain (fun X E cx => by rw [ev_ix]; exact s_ix cx h.1.1 (ia.pe X E cx) (ib.pe X E cx)) rfl
    · cases h
  | .sl a lo hi, k, e, h => by
    unfold chkE at h
    split at h
    · simp only [Bool.and_eq_true] at h
      have ia := soundE hT a k _ h.1.1
      have i1 := soundO hT lo k _ h.1.2
      have i2 := soundO hT hi k _ h.2
      exact .plain (fun X E cx => by rw [ev_sl]; exact s_sl (ia.pe X E cx) (i1 X E cx) (i2 X E cx)) rfl
    · cases h
  | .rev a, k, e, h => by
    unfold chkE at h
    split at h
    · have ia := soundE hT a k _ h
      exact .plain (fun X E cx => by rw [ev_rev]; exact s_rev (ia.pe X E cx)) rfl
    · cases h
  | .call f cs, k, e, h => by
    unfold chkE at h
    split at h
    · simp only [Bool.and_eq_true, Bool.not_eq_true', decide_eq_true_eq] at h
      obtain ⟨⟨⟨h1, h2⟩, h3⟩, h4⟩ := h
      have ih := soundL hT cs k _ h4
      obtain ⟨q1, q2⟩ := hT.f _ _ h1
      exact .plain (fun X E cx => by rw [ev_call]; exact s_call cx q1 q2.symm (by simpa [glB] using h2) h3 ih.star (ih.pes cx).pa) rfl
    · cases h
  | .blt b cs, k, e, h => by
    unfold chkE at h
    split at h
    · rename_i es hf
      have ih := soundL hT cs k _ h
      exact .plain (fun X E cx => by rw [ev_blt]; exact blt_sound cx hf (ih.pes cx)) (blt_plain hf)
    · cases h
  | .comp elt t kk args ifs own, k, e, h => by
    obtain ⟨el, tg, iter, cs, scope, pos, es, rfl, c⟩ := comp_chk h
    have ia := soundL hT args k _ c.ar
    have jf := soundL hT ifs _ _ c.fi
    have ie := soundE hT elt _ _ c.el
    exact .no (fun X E cx => by rw [ev_comp]; exact s_comp cx (c.ok ia jf ie cx)) rfl
  | .comp2 elt t kk args ifs t2 kk2 args2 ifs2 own own2, k, e, h => by
    obtain ⟨el, tg, iter, cs, tg2, iter2, cs2, scope, pos, es, es2, rfl, c⟩ := comp2_chk h
    have ia := soundL hT args k _ c.ar
    have jf := soundL hT ifs _ _ c.fi
    have ia2 := soundL hT args2 _ _ c.ar2
    have jf2 := soundL hT ifs2 _ _ c.fi2
    have ie := soundE hT elt _ _ c.el
    exact .no (fun X E cx => by rw [ev_comp2]; exact s_comp2 cx (c.ok ia jf ia2 jf2 ie cx)) rfl
  | .get a b c, k, e, h => by
    unfold chkE at h
    split at h
    · simp only [Bool.and_eq_true, Bool.not_eq_true', decide_eq_true_eq] at h
      obtain ⟨⟨⟨⟨⟨⟨⟨rfl, h1⟩, h2⟩, h3⟩, h4⟩, h5⟩, h6⟩, h7⟩ := h
      have ia := soundE hT a k _ h5
      have ib := soundE hT b k _ h6
      have ic := soundE hT c k _ h7
      exact .plain (fun X E cx => by rw [ev_get]; exact s_get cx h1 h2 h3 h4 (ia.pe X E cx) (ib.pe X E cx) (ic.pe X E cx)) rfl
    · cases h
  | .popAt a b, k, e, h => by
    unfold chkE at h
    split at h
    · simp only [Bool.and_eq_true, Bool.not_eq_true', decide_eq_true_eq] at h
      obtain ⟨⟨⟨⟨⟨rfl, h1⟩, h2⟩, h3⟩, h4⟩, h5⟩ := h
      have ia := soundE hT a k _ h4
      have ib := soundE hT b k _ h5
      exact .plain (fun X E cx => by rw [ev_popAt]; exact s_popAt cx h1 h2 h3 (ia.pe X E cx) (ib.pe X E cx)) rfl
    · cases h
theorem soundL {tb : Tb} {T : Tab} (hT : TbOk tb T) : ∀ (cs : List C) (k : Kx) (es : List Expr), chkL tb cs k es = true → SL T k cs es
  | [], k, es, h => by
    unfold chkL at h
    cases es with
    | nil => exact .nil
    | cons _ _ => cases h
  | c :: cs, k, es, h => by
    obtain ⟨e, es', rfl, h1, h2, h3⟩ := chkL_cons h
    exact .cons h1 (soundE hT c k e h2) (soundL hT cs k es' h3)
theorem soundO {tb : Tb} {T : Tab} (hT : TbOk tb T) : ∀ (c : Option C) (k : Kx) (e : Option Expr), chkO tb c k e = true → SO T c k e
  | none, k, e, h => by
    rw [chkO] at h
    cases e with
    | none => exact fun X E cx => s_none
    | some _ => cases h
  | some c, k, e, h => by
    unfold chkO at h
    cases e with
    | none => cases h
    | some e => exact fun X E cx => s_some ((soundE hT c k e h).pe X E cx)
end
end HD
end

section
set_option Elab.async false
set_option linter.all false
set_option maxRecDepth 100000
set_option maxHeartbeats 8000000
/-! A19: the check of statements. -/
namespace HD
open PySem PySem.Spec PyProof.Rows L2
def isCompC : C → Bool
  | .comp .. => true
  | _ => false
def ssNo (k : Kx) (es : List Expr) (e : Expr) : Bool := match e with
  | .Tuple vs _ _ => decide (ssF k.sc es vs = some none)
  | _ => true
def locL (k : Kx) (n : Str) : Bool := decide (k.sc.names.lookup n = some .local)
/-- a name that is gone over as a dict -/
def varN (k : Kx) (args : List C) (e : Expr) : Bool := match args with
  | [.var i] => match e with
    | .Name x _ => decide (k.N[i]? = some x) && visB k.sc x && nmB x
    | _ => false
  | _ => false
mutual
def chkS (tb : Tb) : S → Kx → Stmt → Bool
  | .set i c, k, st => match st with
    | .Assign [.Name n _] e _ => decide (k.N[i]? = some n) && locB k n && (!isComp e || isCompC c) && chkE tb c k e
    | _ => false
  | .par i j a b, k, st => match st with
    | .Assign [.Tuple [.Name n px, .Name m py] _ _] (.Tuple [x, y] _ _) _ => decide (k.N[i]? = some n) && decide (k.N[j]? = some m) && !decide (i = j) && locL k n && locL k m && decide (ssF k.sc [.Name n px, .Name m py] [x, y] = some (some [n, m])) &&
      !PySem.W.isStarred x && !PySem.W.isStarred y && chkE tb a k x && chkE tb b k y
    | _ => false
  | .par3 i j l a b c, k, st => match st with
    | .Assign [.Tuple [.Name n px, .Name m py, .Name o pz] _ _] (.Tuple [x, y, z] _ _) _ => decide (k.N[i]? = some n) && decide (k.N[j]? = some m) && decide (k.N[l]? = some o) && !decide (i = j) && !decide (i = l) && !decide (j = l) && locL k n && locL k m && locL k o &&
      decide (ssF k.sc [.Name n px, .Name m py, .Name o pz] [x, y, z] = some (some [n, m, o])) && !PySem.W.isStarred x && !PySem.W.isStarred y && !PySem.W.isStarred z && chkE tb a k x && chkE tb b k y && chkE tb c k z
    | _ => false
  | .unp is c, k, st => match st with
    | .Assign [.Tuple es _ _] e _ => chkNs k is es && ssNo k es e && chkE tb c k e
    | _ => false
  | .put d i v, k, st => match st with
    | .Assign [.Subscript x y _] z _ => !isSliceB y && chkE tb d k x && chkE tb i k y && chkE tb v k z
    | _ => false
  | .app l c, k, st => match st with
    | .Expr (.Call (.Attribute x n p) [y] [] cpos) _ => decide (n = ("append" : Str)) && isNm x && !PySem.W.isStarred y && (p.endLine == cpos.line) && chkE tb l k x && chkE tb c k y
    | _ => false
  | .rem l c, k, st => match st with
    | .Expr (.Call (.Attribute x n p) [y] [] cpos) _ => decide (n = ("remove" : Str)) && isNm x && !PySem.W.isStarred y && (p.endLine == cpos.line) && chkE tb l k x && chkE tb c k y
    | _ => false
  | .drop c, k, st => match st with
    | .Expr x _ => !isComp x && chkE tb c k x
    | _ => false
  | .ite t a b, k, st => match st with
    | .If c p q _ => tstB c && chkE tb t k c && chkSs tb a k p && chkSs tb b k q
    | _ => false
  | .for t kk args body, k, st => match st with
    | .For tg iter bd [] _ => !isSetE iter && (if kk = .keys then varN k args iter else match itForm k kk tg iter with
        | some es => chkL tb args k es
        | none => false) && chkTg k t tg && chkSs tb body k bd
    | _ => false
  | .whl _ t body, k, st => match st with
    | .While c bd [] _ => tstB c && chkE tb t k c && chkSs tb body k bd
    | _ => false
  | .ret c, k, st => match st with
    | .Return (some x) _ => chkE tb c k x
    | _ => false
  | .raise c, k, st => match st with
    | .Raise (some (.Call (.Name n _) [.Constant (.str _) _ _] [] _)) none _ => decide (tb.xs c = some n) && glB k n && !(n == ("__debug__" : Str))
    | _ => false
  | .frz _, _, _ => false
def chkSs (tb : Tb) : List S → Kx → List Stmt → Bool
  | [], _, sts => sts.isEmpty
  | .frz _ :: ss, k, sts => chkSs tb ss k sts
  | s :: ss, k, sts => match sts with
    | st :: sts => chkS tb s k st && chkSs tb ss k sts
    | [] => false
end
theorem chkSs_cons {tb : Tb} {s : S} {ss : List S} {k : Kx} {sts : List Stmt} (hf : ¬ ∃ i, s = .frz i) (h : chkSs tb (s :: ss) k sts = true) : ∃ st sts', sts = st :: sts' ∧ chkS tb s k st = true ∧ chkSs tb ss k sts' = true := by
  cases sts with
  | nil => cases s <;> first | exact absurd ⟨_, rfl⟩ hf | (unfold chkSs at h; cases h)
  | cons st sts' => cases s <;> first | exact absurd ⟨_, rfl⟩ hf | (unfold chkSs at h; simp only [Bool.and_eq_true] at h; exact ⟨_, _, rfl, h.1, h.2⟩)
def SS (T : Tab) (s : S) (k : Kx) (st : Stmt) : Prop := ∀ (X : Cx) (E : EH), CtxS T X k E → PS X st (denS X.K E (evS T.Φ s))
def SSs (T : Tab) (ss : List S) (k : Kx) (sts : List Stmt) : Prop := ∀ (X : Cx) (E : EH), CtxS T X k E → PSs X sts (denS X.K E (evSs T.Φ ss))
section
variable (Φ : Phi)
theorem evS_set (i : Nat) (e : C) : evS Φ (.set i e) = fun ρ m => (ev Φ e ρ m).toS fun d m1 => .nx (ρ.set i (some d)) m1 := by funext ρ m; rw [evS]
theorem evS_par (i j : Nat) (a b : C) : evS Φ (.par i j a b) = fun ρ m => (ev Φ a ρ m).toS fun x m1 => (ev Φ b ρ m1).toS fun y m2 => .nx ((ρ.set i (some x)).set j (some y)) m2 := by funext ρ m; rw [evS]
theorem evS_par3 (i j k : Nat) (a b c : C) : evS Φ (.par3 i j k a b c) = fun ρ m => (ev Φ a ρ m).toS fun x m1 => (ev Φ b ρ m1).toS fun y m2 => (ev Φ c ρ m2).toS fun z m3 => .nx (((ρ.set i (some x)).set j (some y)).set k (some z)) m3 := by funext ρ m; rw [evS]
theorem evS_unp (is : List Nat) (e : C) : evS Φ (.unp is e) = fun ρ m => (ev Φ e ρ m).toS fun d m1 => okE (bindTg (.tp is) d ρ) m1 := by funext ρ m; rw [evS]
theorem evS_put (d i v : C) : evS Φ (.put d i v) = fun ρ m => (ev Φ v ρ m).toS fun x m1 => (ev Φ d ρ m1).toS fun a m2 => (ev Φ i ρ m2).toS fun k m3 => okM (putop a k x m3) ρ := by funext ρ m; rw [evS]
theorem evS_app (l e : C) : evS Φ (.app l e) = fun ρ m => (ev Φ l ρ m).toS fun a m1 => if isLst m1 a then (ev Φ e ρ m1).toS fun x m2 => okM (appop a x m2) ρ else .stk := by funext ρ m; rw [evS]
theorem evS_rem (l e : C) : evS Φ (.rem l e) = fun ρ m => (ev Φ l ρ m).toS fun a m1 => if isLst m1 a then (ev Φ e ρ m1).toS fun x m2 => okM (remop a x m2) ρ else .stk := by funext ρ m; rw [evS]
theorem evS_drop (e : C) : evS Φ (.drop e) = fun ρ m => (ev Φ e ρ m).toS fun _ m1 => .nx ρ m1 := by funext ρ m; rw [evS]
theorem evS_ite (t : C) (a b : List S) : evS Φ (.ite t a b) = fun ρ m => (ev Φ t ρ m).toS fun x m1 => (blOf x m1).toS fun k m1 => if k = true then evSs Φ a ρ m1 else evSs Φ b ρ m1 := by funext ρ m; rw [evS]
theorem evS_for (t : Tg) (k : ItK) (args : List C) (body : List S) : evS Φ (.for t k args body) = fun ρ m => (itsOf k (evL Φ args ρ m)).toS fun its m1 => forL (evSs Φ body) t its ρ m1 := by funext ρ m; rw [evS]
theorem evS_whl (n : Nat) (t : C) (body : List S) : evS Φ (.whl n t body) = fun ρ m => whlL (ev Φ t) (evSs Φ body) n ρ m := by funext ρ m; rw [evS]
theorem evS_ret (e : C) : evS Φ (.ret e) = fun ρ m => (ev Φ e ρ m).toS fun d m1 => .rt d m1 := by funext ρ m; rw [evS]
theorem evS_raise (c : Nat) : evS Φ (.raise c) = fun ρ m => .ex c m := by funext ρ m; rw [evS]
theorem evS_frz (i : Nat) : evS Φ (.frz i) = frzop i := by funext ρ m; rw [evS]
theorem evSs_nil : evSs Φ [] = fun ρ m => .nx ρ m := by funext ρ m; rw [evSs]
theorem evSs_cons (s : S) (ss : List S) : evSs Φ (s :: ss) = fun ρ m => (evS Φ s ρ m).bind (evSs Φ ss) := by funext ρ m; rw [evSs]
end
mutual
theorem soundS {tb : Tb} {T : Tab} (hT : TbOk tb T) : ∀ (s : S) (k : Kx) (st : Stmt), chkS tb s k st = true → SS T s k st
  | .set i c, k, st, h => by
    unfold chkS at h
    split at h
    · rename_i n p e pos
      simp only [Bool.and_eq_true, decide_eq_true_eq] at h
      obtain ⟨⟨⟨h1, h2⟩, h3⟩, h4⟩ := h
      intro X E cx
      rw [evS_set]
      cases hc : isComp e with
      | false => exact t_set cx.toCtx h1 h2 ((soundE hT c k e h4).pe X E cx.toCtx) (sw_no hc)
      | true =>
        rw [hc] at h3
        cases c with
        | comp elt t kk args ifs own =>
          obtain ⟨el, tg, iter, cs, scope, pos, es, rfl, q⟩ := comp_chk h4
          have ia := soundL hT args k _ q.ar
          have jf := soundL hT ifs _ _ q.fi
          have ie := soundE hT elt _ _ q.el
          rw [ev_comp]
          exact t_setC cx.toCtx h1 h2 (q.ok ia jf ie cx.toCtx)
        | _ => cases h3
    · cases h
  | .par i j a b, k, st, h => by
    unfold chkS at h
    split at h
    · simp only [Bool.and_eq_true, Bool.not_eq_true', decide_eq_true_eq, decide_eq_false_iff_not] at h
      obtain ⟨⟨⟨⟨⟨⟨⟨⟨⟨h1, h2⟩, h3⟩, h4⟩, h5⟩, h6⟩, h7⟩, h8⟩, h9⟩, h10⟩ := h
      intro X E cx
      rw [evS_par]
      exact t_par cx.toCtx h1 h2 h3 (by simpa [locL] using h4) (by simpa [locL] using h5) h6 h7 h8 ((soundE hT a k _ h9).pe X E cx.toCtx) ((soundE hT b k _ h10).pe X E cx.toCtx)
    · cases h
  | .par3 i j l a b c, k, st, h => by
    unfold chkS at h
    split at h
    · simp only [Bool.and_eq_true, Bool.not_eq_true', decide_eq_true_eq, decide_eq_false_iff_not] at h
      obtain ⟨⟨⟨⟨⟨⟨⟨⟨⟨⟨⟨⟨⟨⟨⟨h1, h2⟩, h3⟩, h4⟩, h5⟩, h6⟩, h7⟩, h8⟩, h9⟩, h10⟩, h11⟩, h12⟩, h13⟩, h14⟩, h15⟩, h16⟩ := h
      intro X E cx
      rw [evS_par3]
      exact t_par3 cx.toCtx h1 h2 h3 h4 h5 h6 (by simpa [locL] using h7) (by simpa [locL] using h8) (by simpa [locL] using h9) h10 h11 h12 h13 ((soundE hT a k _ h14).pe X E cx.toCtx) ((soundE hT b k _ h15).pe X E cx.toCtx) ((soundE hT c k _ h16).pe X E cx.toCtx)
    · cases h
  | .unp is c, k, st, h => by
    unfold chkS at h
    split at h
    · rename_i es n p e pos
      simp only [Bool.and_eq_true] at h
      obtain ⟨⟨h1, h2⟩, h3⟩ := h
      intro X E cx
      rw [evS_unp]
      refine t_unp cx.toCtx h1 ((soundE hT c k _ h3).pe X E cx.toCtx) ?_
      unfold ssNo at h2
      split at h2
      · rw [decide_eq_true_eq] at h2
        exact ss_of (by rw [cx.sc]; exact h2)
      · rename_i hn
        exact ss_no hn
    · cases h
  | .put d i v, k, st, h => by
    unfold chkS at h
    split at h
    · simp only [Bool.and_eq_true, Bool.not_eq_true'] at h
      obtain ⟨⟨⟨h1, h2⟩, h3⟩, h4⟩ := h
      intro X E cx
      rw [evS_put]
      exact t_put cx.toCtx h1 ((soundE hT d k _ h2).pe X E cx.toCtx) ((soundE hT i k _ h3).pe X E cx.toCtx) ((soundE hT v k _ h4).pe X E cx.toCtx)
    · cases h
  | .app l c, k, st, h => by
    unfold chkS at h
    split at h
    · simp only [Bool.and_eq_true, Bool.not_eq_true', decide_eq_true_eq] at h
      obtain ⟨⟨⟨⟨⟨rfl, h1⟩, h2⟩, h3⟩, h4⟩, h5⟩ := h
      intro X E cx
      rw [evS_app]
      exact t_app cx.toCtx h1 h2 h3 ((soundE hT l k _ h4).pe X E cx.toCtx) ((soundE hT c k _ h5).pe X E cx.toCtx)
    · cases h
  | .rem l c, k, st, h => by
    unfold chkS at h
    split at h
    · simp only [Bool.and_eq_true, Bool.not_eq_true', decide_eq_true_eq] at h
      obtain ⟨⟨⟨⟨⟨rfl, h1⟩, h2⟩, h3⟩, h4⟩, h5⟩ := h
      intro X E cx
      rw [evS_rem]
      exact t_rem cx.toCtx h1 h2 h3 ((soundE hT l k _ h4).pe X E cx.toCtx) ((soundE hT c k _ h5).pe X E cx.toCtx)
    · cases h
  | .drop c, k, st, h => by
    unfold chkS at h
    split at h
    · simp only [Bool.and_eq_true, Bool.not_eq_true'] at h
      intro X E cx
      rw [evS_drop]
      exact t_drop ((soundE hT c k _ h.2).pe X E cx.toCtx) h.1
    · cases h
  | .ite t a b, k, st, h => by
    unfold chkS at h
    split at h
    · simp only [Bool.and_eq_true] at h
      obtain ⟨⟨⟨h1, h2⟩, h3⟩, h4⟩ := h
      have ia := soundSs hT a k _ h3
      have ib := soundSs hT b k _ h4
      intro X E cx
      rw [evS_ite]
      exact t_if ((soundE hT t k _ h2).pt h1 X E cx.toCtx) (ia X E cx) (ib X E cx)
    · cases h
  | .for t kk args body, k, st, h => by
    unfold chkS at h
    split at h
    · simp only [Bool.and_eq_true, Bool.not_eq_true'] at h
      obtain ⟨⟨⟨h1, h2⟩, h3⟩, h4⟩ := h
      split at h2
      · rename_i hkk
        subst hkk
        have ib := soundSs hT body k _ h4
        unfold varN at h2
        split at h2
        · split at h2
          · simp only [Bool.and_eq_true, decide_eq_true_eq] at h2
            intro X E cx
            rw [evS_for]
            exact t_forK cx.toCtx h2.1.1 h2.1.2 h2.2 h3 (ib X E cx)
          · cases h2
        · cases h2
      split at h2
      · rename_i es hf
        have ib := soundSs hT body k _ h4
        intro X E cx
        rw [evS_for]
        exact t_for cx.toCtx (it_sound cx.toCtx hf ((soundL hT args k _ h2).pes cx.toCtx)) h3 (ib X E cx) (fs_no h1)
      · cases h2
    · cases h
  | .whl n t body, k, st, h => by
    unfold chkS at h
    split at h
    · simp only [Bool.and_eq_true] at h
      obtain ⟨⟨h1, h2⟩, h3⟩ := h
      have ib := soundSs hT body k _ h3
      intro X E cx
      rw [evS_whl]
      exact t_whl cx.toCtx ((soundE hT t k _ h2).pt h1 X E cx.toCtx) (ib X E cx)
    · cases h
  | .ret c, k, st, h => by
    unfold chkS at h
    split at h
    · intro X E cx
      rw [evS_ret]
      exact t_ret ((soundE hT c k _ h).pe X E cx.toCtx)
    · cases h
  | .raise c, k, st, h => by
    unfold chkS at h
    split at h
    · simp only [Bool.and_eq_true, Bool.not_eq_true', decide_eq_true_eq] at h
      obtain ⟨⟨h1, h2⟩, h3⟩ := h
      obtain ⟨q1, q2⟩ := hT.x _ _ h1
      intro X E cx
      rw [evS_raise]
      exact t_raise cx q1 q2.symm (by simpa [glB] using h2) h3
    · cases h
  | .frz i, k, st, h => by unfold chkS at h; cases h
theorem soundSs {tb : Tb} {T : Tab} (hT : TbOk tb T) : ∀ (ss : List S) (k : Kx) (sts : List Stmt), chkSs tb ss k sts = true → SSs T ss k sts
  | [], k, sts, h => by
    unfold chkSs at h
    cases sts with
    | nil => intro X E cx; rw [evSs_nil]; exact t_nil
    | cons _ _ => cases h
  | s :: ss, k, sts, h => by
    by_cases hf : ∃ i, s = .frz i
    · obtain ⟨i, rfl⟩ := hf
      have h : chkSs tb ss k sts = true := by rw [chkSs] at h; exact h
      have ih := soundSs hT ss k sts h
      intro X E cx
      rw [evSs_cons, evS_frz]
      exact t_frz (ih X E cx)
    · obtain ⟨st, sts', rfl, h1, h2⟩ := chkSs_cons hf h
      have ih := soundSs hT ss k _ h2
      have i1 := soundS hT s k _ h1
      intro X E cx
      rw [evSs_cons]
      exact t_cons (i1 X E cx) (ih X E cx)
end
end HD
end

section
set_option Elab.async false
set_option linter.all false
set_option maxRecDepth 100000
set_option maxHeartbeats 8000000
/-! A20: a def by its checked body. -/
namespace HD
open PySem PySem.Spec PyProof.Rows L2
section
variable {K : PySem.W.Frag} {W W' : Wd} {n : Nat}
def Wd.cut (W : Wd) (n : Nat) : Wd := { W with ads := W.ads.take n, M := W.M.take n }
theorem cut_pub {a : Addr} (h : W.pub a) : (W.cut n).pub a := ⟨h.1, fun i o e1 e2 => by
  have e1' : (W.ads.take n)[i]? = some a := e1
  have e2' : (W.M.take n)[i]? = some o := e2
  have hi : i < n := by
    have := (List.getElem?_eq_some_iff.mp e1').1
    simp at this; omega
  rw [List.getElem?_take_of_lt hi] at e1' e2'
  exact h.2 i o e1' e2'⟩
theorem cut_rd {a : Addr} {u : HO} (h : W.rd a u) : (W.cut n).rd a u := ⟨h.1, cut_pub h.2⟩
mutual
theorem Rep.cut : ∀ (d : D) (v : V), closedD n d = true → Rep K W v d → Rep K (W.cut n) v d
  | .non, _, _, h => by cases h; exact .non
  | .bl b, _, _, h => by cases h; exact .bl b
  | .int i, _, _, h => by cases h; exact .int i
  | .str x, _, _, h => by cases h; exact .str x
  | .tup ds, _, c, h => by
    cases h with
    | tup h1 h2 => exact .tup h1 (RepL.cut' ds _ (by simpa [closedD] using c) h2)
  | .lst ds, _, c, h => by
    cases h with
    | lst h1 h2 => exact .lst (cut_rd h1) (RepL.cut' ds _ (by simpa [closedD] using c) h2)
  | .dk ds, _, c, h => by
    cases h with
    | dk h1 h2 => exact .dk (cut_rd h1) (RepK.cut ds _ (by simpa [closedD] using c) h2)
  | .dt ds, _, c, h => by
    cases h with
    | dt h1 h2 => exact .dt (cut_rd h1) (RepT.cut ds _ (by simpa [closedD] using c) h2)
  | .ref k, _, c, h => by
    cases h with
    | ref h1 =>
      have hk : k < n := by simpa [closedD] using c
      refine .ref ?_
      show (W.ads.take n)[k]? = _
      rw [List.getElem?_take_of_lt hk]; exact h1
  | .scr l, _, _, h => by
    cases h with
    | scr h1 => exact .scr h1
theorem RepL.cut' : ∀ (ds : List D) (vs : List V), closedL n ds = true → RepL K W vs ds → RepL K (W.cut n) vs ds
  | [], _, _, h => by cases h; exact .nil
  | d :: ds, _, c, h => by
    cases h with
    | cons h1 h2 =>
      simp only [closedL, Bool.and_eq_true] at c
      exact .cons (Rep.cut d _ c.1 h1) (RepL.cut' ds _ c.2 h2)
theorem RepK.cut : ∀ (ds : List (Key × D)) (vs : List (Key × V)), closedK n ds = true → RepK K W vs ds → RepK K (W.cut n) vs ds
  | [], _, _, h => by cases h; exact .nil
  | (k, d) :: ds, _, c, h => by
    cases h with
    | cons h1 h2 =>
      simp only [closedK, Bool.and_eq_true] at c
      exact .cons (Rep.cut d _ c.1 h1) (RepK.cut ds _ c.2 h2)
theorem RepT.cut : ∀ (ds : List (List Key × D)) (vs : List (List Key × V)), closedK2 n ds = true → RepT K W vs ds → RepT K (W.cut n) vs ds
  | [], _, _, h => by cases h; exact .nil
  | (k, d) :: ds, _, c, h => by
    cases h with
    | cons h1 h2 =>
      simp only [closedK2, Bool.and_eq_true] at c
      exact .cons (Rep.cut d _ c.1 h1) (RepT.cut ds _ c.2 h2)
end
theorem cut_ok (ok : W.Ok K) (c : (W.M.take n).all (closedM n) = true) : (W.cut n).Ok K where
  len := by show (W.ads.take n).length = (W.M.take n).length; simp [ok.len]
  nd := ok.nd.sublist (List.take_sublist _ _)
  there a ha := ok.there a (List.mem_of_mem_take ha)
  hid a ha := ⟨(ok.hid a ha).1, fun z => (ok.hid a ha).2 (List.mem_of_mem_take z)⟩
  obj i o e := by
    have e' : (W.M.take n)[i]? = some o := e
    have hi : i < n := by
      have := (List.getElem?_eq_some_iff.mp e').1
      simp at this; omega
    have co : closedM n o = true := List.all_eq_true.mp c o (List.mem_of_getElem? e')
    rw [List.getElem?_take_of_lt hi] at e'
    have ad : ∀ a, W.ads[i]? = some a → (W.cut n).ads[i]? = some a := fun a h => by
      show (W.ads.take n)[i]? = some a
      rw [List.getElem?_take_of_lt hi]; exact h
    cases ok.obj i o e' with
    | lst h1 h2 h3 => exact .lst (ad _ h1) h2 (RepL.cut' _ _ (by simpa [closedM] using co) h3)
    | dk h1 h2 h3 => exact .dk (ad _ h1) h2 (RepK.cut _ _ (by simpa [closedM] using co) h3)
    | dt h1 h2 h3 => exact .dt (ad _ h1) h2 (RepT.cut _ _ (by simpa [closedM] using co) h3)
    | dead => exact .dead
theorem cut_le (q : W.le W') (ok : W.Ok K) : W.le (W'.cut W.M.length) where
  ads i a h := by
    have hi : i < W.M.length := by rw [← ok.len]; exact (List.getElem?_eq_some_iff.mp h).1
    show (W'.ads.take W.M.length)[i]? = some a
    rw [List.getElem?_take_of_lt hi]; exact q.ads i a h
  hid := q.hid
  hidH := q.hidH
  rd a u h := cut_rd (q.rd a u h)
  tup := q.tup
  frz := q.frz
  any := q.any
theorem shut_post {r : Res D} {E : EH} {Q : VK} (ok : W.Ok K) (h : Post (Rep K) K W (shut W.M.length r) E Q) : Post (Rep K) K W r E Q := by
  unfold shut at h
  split at h
  · rename_i d m
    split at h
    · rename_i c
      rw [Bool.and_eq_true] at c
      intro v W' q1 q2 q3 q4
      subst q3
      exact h v (W'.cut W.M.length) (cut_le q1 ok) (cut_ok q2 c.2) rfl (Rep.cut d v c.1 q4)
    · exact h
  · rename_i e m
    split at h
    · rename_i c
      intro W' q1 q2 q3
      subst q3
      exact h (W'.cut W.M.length) (cut_le q1 ok) (cut_ok q2 c) rfl
    · exact h
  · exact h
end
theorem post_out {K : PySem.W.Frag} {W : Wd} {r : SRes} {E : EH} {Q : VK} (h : Post (Rep K) K W r.out E Q) : PostS K E W r { nx := fun _ H => Q .non H, rt := Q } := by
  cases r with
  | nx ρ m => exact fun σ W' q1 q2 q3 _ => h .non W' q1 q2 q3 .non
  | rt d m => exact h
  | ex c m => exact h
  | stk => exact h
theorem start_rep {K : PySem.W.Frag} {W : Wd} {N : List Str} {vs : List V} {ds : List D} (r : RepL K W vs ds) : ERep K W (L2.start N vs) (ds.map some ++ List.replicate (N.length - ds.length) none) := by
  unfold L2.start
  have hl := r.length
  refine ⟨by simp [hl], fun i d e => ?_⟩
  by_cases hi : i < ds.length
  · rw [List.getElem?_append_left (by simpa using hi), List.getElem?_map] at e
    obtain ⟨d', e1, e2⟩ := Option.map_eq_some_iff.mp e
    cases e2
    obtain ⟨v, e3, rv⟩ := r.get e1
    exact ⟨v, by rw [List.getElem?_append_left (by simp; omega), List.getElem?_map, e3]; rfl, rv⟩
  · rw [List.getElem?_append_right (by simpa using Nat.le_of_not_lt hi), List.getElem?_replicate] at e
    split at e
    · cases e
    · cases e
theorem ctx_of {P : Program} {w : World} {K : PySem.W.Frag} {mg : Str → Option Value} {base : Heap} {T : Tab} (ht : TabOk P w K mg base T) {N : List Str} {qual : Str} {scope : Scope} {f : Addr} {cd : Value} {A : Around} {outer : List PySem.Env} {s : Shared} {H : Hp} {E : XK}
    (hN : N.Nodup) (hr : Room T.k (A.deeper (envOfC qual scope s.heap.objs.size f cd))) :
    CtxS T (cxOf (L2.CX P w) P w K mg base N qual scope f cd A outer s H E) ⟨scope, N, fun _ => true⟩ (fun c H' => E (T.cls c) none H') := by
  have tk : Takes (cxOf (L2.CX P w) P w K mg base N qual scope f cd A outer s H E) (fun cls d _ H => E cls d H) := takes_of rfl rfl rfl rfl
  have tk2 : Takes (cxOf (L2.CX P w) P w K mg base N qual scope f cd A outer s H E) (fun cls d _ H => exK T.cls (fun c H' => E (T.cls c) none H') cls d H) := tk.imp fun cls d σ H ⟨e1, n, e2, e3⟩ => by
    subst e1 e2; exact e3
  exact { tab := ht, sc := rfl, N := rfl, fn := rfl, nd := hN, calm := rfl, room := hr, own := passes_of rfl, pass := fun σ => passAt tk2 σ, takes := tk2 }
/-- a def, by its checked body -/
theorem def_ok {P : Program} {w : World} {K : PySem.W.Frag} {mg : Str → Option Value} {base : Heap} {T : Tab} {tb : Tb} (ht : TabOk P w K mg base T) (hb : TbOk tb T) {x qual : Str} {params : Arguments} {body : List Stmt} {scope : Scope} {dvs : List V} {kws : List (Str × V)} {f : Addr} {fd : FuncData}
    (F : FunD K x qual params body scope dvs kws f fd) {N ps : List Str} (S : FnScope N ps scope) (fn : Fn) (har : fn.arity = ps.length) (hsl : fn.slots = N.length) (hc : chkSs tb fn.body ⟨scope, N, fun _ => true⟩ body = true) :
    FnOk P w K mg base (L2.CX P w) (T.k + 1) f fd ps (spD K T.cls (run T.Φ fn)) := by
  refine F.ok S (fun vs H Q E hsp => ?_) fun cdv A outer s H vs Q E hr hsp => ?_
  · obtain ⟨W, ds, rfl, ok, r, h⟩ := hsp
    unfold run at h
    split at h
    · rename_i e; rw [r.length, e, har]
    · exact h.elim
  · refine ⟨_, soundSs hb fn.body _ body hc _ _ (ctx_of ht S.nd hr), ?_⟩
    obtain ⟨W, ds, rfl, ok, r, h⟩ := hsp
    unfold run at h
    split at h
    · rename_i e
      have er := start_rep (N := N) r
      rw [← hsl] at er
      exact ⟨W, _, rfl, ok, er, post_out (shut_post ok h)⟩
    · exact h.elim
end HD
end

section
set_option Elab.async false
set_option linter.all false
set_option maxRecDepth 100000
set_option maxHeartbeats 4000000
/-! A21: what a term says hangs on the defs that it names, no others. -/
namespace HD
mutual
def usesE (p : Nat → Bool) : C → Bool
  | .tup es => usesL p es
  | .lst es => usesL p es
  | .ownL es => usesL p es
  | .ownC e => usesE p e
  | .bin _ a b => usesE p a && usesE p b
  | .neg a => usesE p a
  | .cmp _ a b => usesE p a && usesE p b
  | .chain _ _ a b c => usesE p a && usesE p b && usesE p c
  | .bop _ es => usesL p es
  | .not1 a => usesE p a
  | .ifx t a b => usesE p t && usesE p a && usesE p b
  | .ix a i => usesE p a && usesE p i
  | .sl a lo hi => usesE p a && usesO p lo && usesO p hi
  | .rev a => usesE p a
  | .call f es => p f && usesL p es
  | .blt _ es => usesL p es
  | .comp elt _ _ args ifs _ => usesE p elt && usesL p args && usesL p ifs
  | .comp2 elt _ _ args ifs _ _ args2 ifs2 _ _ => usesE p elt && usesL p args && usesL p ifs && usesL p args2 && usesL p ifs2
  | .get d k x => usesE p d && usesE p k && usesE p x
  | .popAt l i => usesE p l && usesE p i
  | .var _ => true
  | .int _ => true
  | .bl _ => true
  | .non => true
  | .str _ => true
  | .newk => true
  | .newkv _ _ => true
  | .newt => true
def usesL (p : Nat → Bool) : List C → Bool
  | [] => true
  | e :: es => usesE p e && usesL p es
def usesO (p : Nat → Bool) : Option C → Bool
  | none => true
  | some e => usesE p e
end
mutual
def usesS (p : Nat → Bool) : S → Bool
  | .set _ e => usesE p e
  | .par _ _ a b => usesE p a && usesE p b
  | .par3 _ _ _ a b c => usesE p a && usesE p b && usesE p c
  | .unp _ e => usesE p e
  | .put d i v => usesE p d && usesE p i && usesE p v
  | .app l e => usesE p l && usesE p e
  | .rem l e => usesE p l && usesE p e
  | .drop e => usesE p e
  | .ite t a b => usesE p t && usesSs p a && usesSs p b
  | .for _ _ args body => usesL p args && usesSs p body
  | .whl _ t body => usesE p t && usesSs p body
  | .ret e => usesE p e
  | .raise _ => true
  | .frz _ => true
def usesSs (p : Nat → Bool) : List S → Bool
  | [] => true
  | s :: ss => usesS p s && usesSs p ss
end
section
variable {p : Nat → Bool} {Φ Ψ : Phi}
mutual
theorem same_E (h : ∀ f, p f = true → Φ f = Ψ f) : ∀ c : C, usesE p c = true → ev Φ c = ev Ψ c
  | .tup es, u => by funext ρ m; rw [ev, ev, same_L h es (by simpa [usesE] using u)]
  | .lst es, u => by funext ρ m; rw [ev, ev, same_L h es (by simpa [usesE] using u)]
  | .ownL es, u => by funext ρ m; rw [ev, ev, same_L h es (by simpa [usesE] using u)]
  | .ownC e, u => by funext ρ m; rw [ev, ev, same_E h e (by simpa [usesE] using u)]
  | .bin o a b, u => by
    simp only [usesE, Bool.and_eq_true] at u
    funext ρ m; rw [ev, ev, same_E h a u.1, same_E h b u.2]
  | .neg a, u => by funext ρ m; rw [ev, ev, same_E h a (by simpa [usesE] using u)]
  | .cmp o a b, u => by
    simp only [usesE, Bool.and_eq_true] at u
    funext ρ m; rw [ev, ev, same_E h a u.1, same_E h b u.2]
  | .chain o q a b c, u => by
    simp only [usesE, Bool.and_eq_true] at u
    funext ρ m; rw [ev, ev, same_E h a u.1.1, same_E h b u.1.2, same_E h c u.2]
  | .bop k es, u => by funext ρ m; rw [ev, ev, same_B h k es (by simpa [usesE] using u)]
  | .not1 a, u => by funext ρ m; rw [ev, ev, same_E h a (by simpa [usesE] using u)]
  | .ifx t a b, u => by
    simp only [usesE, Bool.and_eq_true] at u
    funext ρ m; rw [ev, ev, same_E h t u.1.1, same_E h a u.1.2, same_E h b u.2]
  | .ix a i, u => by
    simp only [usesE, Bool.and_eq_true] at u
    funext ρ m; rw [ev, ev, same_E h a u.1, same_E h i u.2]
  | .sl a lo hi, u => by
    simp only [usesE, Bool.and_eq_true] at u
    funext ρ m; rw [ev, ev, same_E h a u.1.1, same_O h lo u.1.2, same_O h hi u.2]
  | .rev a, u => by funext ρ m; rw [ev, ev, same_E h a (by simpa [usesE] using u)]
  | .call f es, u => by
    simp only [usesE, Bool.and_eq_true] at u
    funext ρ m; rw [ev, ev, same_L h es u.2, h f u.1]
  | .blt b es, u => by funext ρ m; rw [ev, ev, same_L h es (by simpa [usesE] using u)]
  | .comp elt t k args ifs own, u => by
    simp only [usesE, Bool.and_eq_true] at u
    funext ρ m; rw [ev, ev, same_L h args u.1.2, same_T h ifs u.2, same_E h elt u.1.1]
  | .comp2 elt t k args ifs t2 k2 args2 ifs2 own own2, u => by
    simp only [usesE, Bool.and_eq_true] at u
    funext ρ m; rw [ev, ev, same_L h args u.1.1.1.2, same_T h ifs u.1.1.2, same_E h elt u.1.1.1.1, same_L h args2 u.1.2, same_T h ifs2 u.2]
  | .get d k x, u => by
    simp only [usesE, Bool.and_eq_true] at u
    funext ρ m; rw [ev, ev, same_E h d u.1.1, same_E h k u.1.2, same_E h x u.2]
  | .popAt l i, u => by
    simp only [usesE, Bool.and_eq_true] at u
    funext ρ m; rw [ev, ev, same_E h l u.1, same_E h i u.2]
  | .var _, _ => by funext ρ m; rw [ev, ev]
  | .int _, _ => by funext ρ m; rw [ev, ev]
  | .bl _, _ => by funext ρ m; rw [ev, ev]
  | .non, _ => by funext ρ m; rw [ev, ev]
  | .str _, _ => by funext ρ m; rw [ev, ev]
  | .newk, _ => by funext ρ m; rw [ev, ev]
  | .newkv _ _, _ => by funext ρ m; rw [ev, ev]
  | .newt, _ => by funext ρ m; rw [ev, ev]
theorem same_L (h : ∀ f, p f = true → Φ f = Ψ f) : ∀ es : List C, usesL p es = true → evL Φ es = evL Ψ es
  | [], _ => by funext ρ m; rw [evL, evL]
  | e :: es, u => by
    simp only [usesL, Bool.and_eq_true] at u
    funext ρ m; rw [evL, evL, same_E h e u.1, same_L h es u.2]
theorem same_O (h : ∀ f, p f = true → Φ f = Ψ f) : ∀ e : Option C, usesO p e = true → evO Φ e = evO Ψ e
  | none, _ => by funext ρ m; rw [evO, evO]
  | some e, u => by funext ρ m; rw [evO, evO, same_E h e (by simpa [usesO] using u)]
theorem same_B (h : ∀ f, p f = true → Φ f = Ψ f) (k : Bool) : ∀ es : List C, usesL p es = true → evB Φ k es = evB Ψ k es
  | [], _ => by funext ρ m; rw [evB, evB]
  | [e], u => by
    simp only [usesL, Bool.and_eq_true] at u
    funext ρ m; rw [evB, evB, same_E h e u.1]
  | e :: e2 :: es, u => by
    have u' : usesE p e = true ∧ usesL p (e2 :: es) = true := by simpa [usesL] using u
    have ih := same_B h k (e2 :: es) u'.2
    funext ρ m
    unfold evB
    rw [same_E h e u'.1, ih]
theorem same_T (h : ∀ f, p f = true → Φ f = Ψ f) : ∀ es : List C, usesL p es = true → evT Φ es = evT Ψ es
  | [], _ => by funext ρ m; rw [evT, evT]
  | e :: es, u => by
    simp only [usesL, Bool.and_eq_true] at u
    funext ρ m; rw [evT, evT, same_E h e u.1, same_T h es u.2]
end
mutual
theorem same_S (h : ∀ f, p f = true → Φ f = Ψ f) : ∀ s : S, usesS p s = true → evS Φ s = evS Ψ s
  | .set i e, u => by funext ρ m; rw [evS, evS, same_E h e (by simpa [usesS] using u)]
  | .par i j a b, u => by
    simp only [usesS, Bool.and_eq_true] at u
    funext ρ m; rw [evS, evS, same_E h a u.1, same_E h b u.2]
  | .par3 i j k a b c, u => by
    simp only [usesS, Bool.and_eq_true] at u
    funext ρ m; rw [evS, evS, same_E h a u.1.1, same_E h b u.1.2, same_E h c u.2]
  | .unp is e, u => by funext ρ m; rw [evS, evS, same_E h e (by simpa [usesS] using u)]
  | .put d i v, u => by
    simp only [usesS, Bool.and_eq_true] at u
    funext ρ m; rw [evS, evS, same_E h d u.1.1, same_E h i u.1.2, same_E h v u.2]
  | .app l e, u => by
    simp only [usesS, Bool.and_eq_true] at u
    funext ρ m; rw [evS, evS, same_E h l u.1, same_E h e u.2]
  | .rem l e, u => by
    simp only [usesS, Bool.and_eq_true] at u
    funext ρ m; rw [evS, evS, same_E h l u.1, same_E h e u.2]
  | .drop e, u => by funext ρ m; rw [evS, evS, same_E h e (by simpa [usesS] using u)]
  | .ite t a b, u => by
    simp only [usesS, Bool.and_eq_true] at u
    funext ρ m; rw [evS, evS, same_E h t u.1.1, same_Ss h a u.1.2, same_Ss h b u.2]
  | .for t k args body, u => by
    simp only [usesS, Bool.and_eq_true] at u
    funext ρ m; rw [evS, evS, same_L h args u.1, same_Ss h body u.2]
  | .whl n t body, u => by
    simp only [usesS, Bool.and_eq_true] at u
    funext ρ m; rw [evS, evS, same_E h t u.1, same_Ss h body u.2]
  | .ret e, u => by funext ρ m; rw [evS, evS, same_E h e (by simpa [usesS] using u)]
  | .raise _, _ => by funext ρ m; rw [evS, evS]
  | .frz _, _ => by funext ρ m; rw [evS, evS]
theorem same_Ss (h : ∀ f, p f = true → Φ f = Ψ f) : ∀ ss : List S, usesSs p ss = true → evSs Φ ss = evSs Ψ ss
  | [], _ => by funext ρ m; rw [evSs, evSs]
  | s :: ss, u => by
    simp only [usesSs, Bool.and_eq_true] at u
    funext ρ m; rw [evSs, evSs, same_S h s u.1, same_Ss h ss u.2]
end
theorem same_run (h : ∀ f, p f = true → Φ f = Ψ f) (fn : Fn) (u : usesSs p fn.body = true) : run Φ fn = run Ψ fn := by
  funext ds m
  unfold run
  rw [same_Ss h fn.body u]
end
/-! ### all defs together -/
/-- a def's number, its term, its defaults -/
structure Ent where
  id : Nat
  fn : Fn
  dds : List D
/-- the latest first -/
def tower : List Ent → Phi
  | [] => fun _ _ _ => .stk
  | e :: es => fun f ds m => if f = e.id then run (tower es) e.fn (ds ++ e.dds) m else tower es f ds m
def hasId (es : List Ent) (f : Nat) : Bool := es.any fun e => decide (e.id = f)
def okTower : List Ent → Bool
  | [] => true
  | e :: es => !hasId es e.id && usesSs (hasId es) e.fn.body && okTower es
theorem tower_old {e : Ent} {es : List Ent} {f : Nat} (h : hasId es f = true) (hn : hasId es e.id = false) : tower (e :: es) f = tower es f := by
  funext ds m
  show (if f = e.id then _ else _) = _
  rw [if_neg]
  intro z
  rw [z, hn] at h
  cases h
theorem tower_suf {f : Nat} {sfx : List Ent} (hf : hasId sfx f = true) : ∀ {pre : List Ent}, okTower (pre ++ sfx) = true → tower (pre ++ sfx) f = tower sfx f
  | [], _ => rfl
  | a :: pre, h => by
    simp only [List.cons_append, okTower, Bool.and_eq_true, Bool.not_eq_true'] at h
    have h2 : hasId (pre ++ sfx) f = true := by
      unfold hasId at hf ⊢
      rw [List.any_append, hf, Bool.or_true]
    rw [List.cons_append, tower_old h2 h.1.1]
    exact tower_suf hf h.2
theorem okTower_suf {sfx : List Ent} : ∀ {pre : List Ent}, okTower (pre ++ sfx) = true → okTower sfx = true
  | [], h => h
  | a :: pre, h => by
    simp only [List.cons_append, okTower, Bool.and_eq_true, Bool.not_eq_true'] at h
    exact okTower_suf h.2
theorem tower_eq {es : List Ent} (h : okTower es = true) {e : Ent} (he : e ∈ es) (ds : List D) (m : Mem) : tower es e.id ds m = run (tower es) e.fn (ds ++ e.dds) m := by
  obtain ⟨pre, sfx, rfl⟩ := List.append_of_mem he
  have h' := okTower_suf h
  simp only [okTower, Bool.and_eq_true, Bool.not_eq_true'] at h'
  rw [tower_suf (by simp [hasId]) h]
  show (if e.id = e.id then _ else _) = _
  rw [if_pos rfl]
  have e1 : run (tower sfx) e.fn = run (tower (pre ++ e :: sfx)) e.fn := same_run (p := hasId sfx) (fun f hf => by
    have h2 : hasId (e :: sfx) f = true := by
      unfold hasId at hf ⊢
      rw [List.any_cons, hf, Bool.or_true]
    rw [tower_suf h2 h, tower_old hf h'.1.1]) e.fn h'.1.2
  rw [e1]
end HD
end

section
set_option Elab.async false
set_option linter.all false
set_option maxRecDepth 100000
set_option maxHeartbeats 4000000
/-! A22: all defs of a law's program. -/
namespace HD
open PySem PySem.Spec PyProof.Rows L2
theorem zip_look : ∀ {ps : List Str} {us : List Value} {p : Str}, ps.length ≤ us.length → p ∈ ps → ((ps.zip us).lookup p).isSome = true
  | [], _, _, _, h => by cases h
  | q :: ps, [], _, h, _ => by simp at h
  | q :: ps, u :: us, p, h, hm => by
    rw [List.zip_cons_cons, List.lookup_cons]
    by_cases e : p = q
    · subst e; simp
    · have : (p == q) = false := by simpa using e
      rw [this]
      exact zip_look (by simpa using h) ((List.mem_cons.mp hm).resolve_left e)
theorem fm_congr {α β : Type} {f g : α → Option β} : ∀ {l : List α}, (∀ x ∈ l, f x = g x) → l.filterMap f = l.filterMap g
  | [], _ => rfl
  | x :: l, h => by
    rw [List.filterMap_cons, List.filterMap_cons, h x List.mem_cons_self, fm_congr fun y hy => h y (List.mem_cons_of_mem _ hy)]
theorem zip_binds : ∀ {ps : List Str} {us : List Value}, ps.Nodup → us.length = ps.length → ps.filterMap (fun n => ((ps.zip us).lookup n).map fun v => (n, v)) = ps.zip us
  | [], us, _, _ => by simp
  | q :: ps, [], _, h => by simp at h
  | q :: ps, u :: us, nd, h => by
    rw [List.nodup_cons] at nd
    have ih := zip_binds (us := us) nd.2 (by simpa using h)
    rw [List.zip_cons_cons, List.filterMap_cons]
    simp only [List.lookup_cons, beq_self_eq_true, Option.map_some]
    congr 1
    refine (fm_congr fun n hn => ?_).trans ih
    have e : ¬ n = q := fun z => nd.1 (by rw [← z]; exact hn)
    have : (n == q) = false := by simpa using e
    rw [this]
def argsPlain (a : Arguments) (ps : List Str) : Bool := a.posonlyargs.isEmpty && a.vararg.isNone && a.kwonlyargs.isEmpty && a.kwarg.isNone && decide (a.args.map (·.arg) = ps) && a.kw_defaults.isEmpty
theorem bind_plain {x qual : Str} {a : Arguments} {body : List Stmt} {scope : Scope} {ps : List Str} (h : argsPlain a ps = true) (nd : ps.Nodup) (kV doc pm : Value) (an : Option Addr) (cdv ct : Value) (us : List Value) (hl : us.length = ps.length) :
    bindArgs (PySem.W.fnOf x qual a body scope .none kV doc pm an cdv ct) ⟨us, []⟩ = pure (ps.zip us) := by
  obtain ⟨po, ar, va, ko, kd, kw, df⟩ := a
  simp only [argsPlain, Bool.and_eq_true, decide_eq_true_eq, List.isEmpty_iff, Option.isNone_iff_eq_none] at h
  obtain ⟨⟨⟨⟨⟨rfl, rfl⟩, rfl⟩, rfl⟩, rfl⟩, rfl⟩ := h
  have e1 : ((ar.map (·.arg)).take ((ar.map (·.arg)).length - ([] : List Value).length)).filter (fun n => (((ar.map (·.arg)).zip us).lookup n).isNone) = [] := by
    rw [List.filter_eq_nil_iff]
    intro p hp
    have := zip_look (us := us) (by omega) (List.mem_of_mem_take hp)
    cases q : ((ar.map (·.arg)).zip us).lookup p with
    | none => rw [q] at this; cases this
    | some _ => simp
  unfold bindArgs PySem.W.fnOf
  simp only [List.map_nil, List.nil_append, List.append_nil]
  have e0 : seqItems? Value.none = (pure none : Sem (Option (Array Value))) := rfl
  have e2 : (decide (us.length > (ar.map (·.arg)).length) && (none : Option Arg).isNone) = false := by rw [hl]; simp
  simp only [List.forIn_nil, pure_bind, e0, e2, Bool.false_eq_true, if_false, Option.getD_none, Array.toList_empty, List.length_nil, Nat.sub_zero, Nat.zero_sub, List.drop_nil, List.zip_nil_right] at e1 ⊢
  simp only [e1, List.isEmpty_nil, Bool.not_true, Bool.false_eq_true, if_false, zip_binds nd hl]
/-- one default, the second of two parameters -/
def argsTwo (a : Arguments) : Bool := match a with
  | ⟨[], [⟨p, none, _⟩, ⟨q, none, _⟩], none, [], [], none, [_]⟩ => decide (p = ("value" : Str)) && decide (q = ("most" : Str))
  | _ => false
theorem argsTwo_of {a : Arguments} (h : argsTwo a = true) : ∃ p1 p2 e, a = ⟨[], [⟨"value", none, p1⟩, ⟨"most", none, p2⟩], none, [], [], none, [e]⟩ := by
  unfold argsTwo at h
  split at h
  · simp only [Bool.and_eq_true, decide_eq_true_eq] at h
    obtain ⟨rfl, rfl⟩ := h
    exact ⟨_, _, _, rfl⟩
  · cases h
def scB (N P : List Str) (sc : Scope) : Bool :=
  decide (sc.kind = .function) && !sc.isCoroutine && !sc.isGenerator && decide N.Nodup && decide (N.take P.length = P) && P.all (fun x => decide (sc.names.lookup x = some .local) || decide (sc.names.lookup x = some .cell)) && sc.names.all (fun y => !decide (y.2 = .free))
theorem scB_of {N P : List Str} {sc : Scope} (h : scB N P sc = true) : FnScope N P sc := by
  unfold scB at h
  simp only [Bool.and_eq_true, Bool.not_eq_true', decide_eq_true_eq, List.all_eq_true, Bool.or_eq_true, decide_eq_false_iff_not] at h
  obtain ⟨⟨⟨⟨⟨⟨h1, h2⟩, h3⟩, h4⟩, h5⟩, h6⟩, h7⟩ := h
  exact ⟨h1, h2, h3, h4, h5, h6, h7⟩
structure Row where
  id : Nat
  name : Str
  ps : List Str
  N : List Str
  fn : Fn
  dd : List D
  kd : Nat
def Row.ent (r : Row) : Ent := ⟨r.id, r.fn, r.dd⟩
def rowD (ds : List He.DefD) (n : Str) : Option He.DefD := ds.find? fun d => decide (d.name = n)
def bindB (r : Row) (d : He.DefD) : Bool := match r.kd, d.dfl, r.dd with
  | 0, [], [] => argsPlain d.params r.ps
  | 1, [.int i], [.int j] => argsTwo d.params && decide (i = j) && decide (r.ps = [("value" : Str), ("most" : Str)])
  | 2, [.int _], [] => argsTwo d.params && decide (r.ps = [("value" : Str), ("most" : Str)])
  | _, _, _ => false
def chkRow (tb : Tb) (ds : List He.DefD) (r : Row) : Bool := match rowD ds r.name with
  | none => false
  | some d => decide (d.at_ = (d.name, none)) && scB r.N r.ps d.scope && chkSs tb r.fn.body ⟨d.scope, r.N, fun _ => true⟩ d.body && decide (r.fn.arity = r.ps.length) && decide (r.fn.slots = r.N.length) && d.kwd.isEmpty && bindB r d && decide r.ps.Nodup
theorem bind_row {K : PySem.W.Frag} {r : Row} {d : He.DefD} {f : Addr} {fd : FuncData} (F : FunD K d.name d.qual d.params d.body d.scope (d.dvs K) (d.kws K) f fd) (hk : d.kwd = []) (h : bindB r d = true) (nd : r.ps.Nodup) :
    ∃ dvs ds, Binds K fd r.ps ds ∧ Vals dvs ds ∧ ∀ W, RepL K W dvs r.dd := by
  obtain ⟨at_, name, qual, params, body, scope, dfl, kwd⟩ := d
  dsimp only at hk
  subst hk
  obtain ⟨id, rn, ps, N, fn, dd, kd⟩ := r
  unfold bindB at h
  dsimp only at h nd ⊢ F
  split at h
  · exact ⟨[], [], F.bindsN fun kV doc pm an cdv ct us hl => bind_plain h nd kV doc pm an cdv ct us hl, .nil, fun W => .nil⟩
  · rename_i i j
    simp only [Bool.and_eq_true, decide_eq_true_eq] at h
    obtain ⟨⟨h1, rfl⟩, rfl⟩ := h
    obtain ⟨p1, p2, e, rfl⟩ := argsTwo_of h1
    obtain ⟨ds, v, b⟩ := F.binds1 (ps := ["value", "most"]) 1 0 (by simp [He.DefD.dvs]) rfl fun T kV doc pm an cdv ct us its h1 h2 => match us, its, h1, h2 with
      | [u], [d], _, _ => ⟨_, rfl, rfl⟩
    exact ⟨_, ds, b, v, fun W => .cons (.int _) .nil⟩
  · rename_i i
    simp only [Bool.and_eq_true, decide_eq_true_eq] at h
    obtain ⟨h1, rfl⟩ := h
    obtain ⟨p1, p2, e, rfl⟩ := argsTwo_of h1
    obtain ⟨ds, v, b⟩ := F.binds1 (ps := ["value", "most"]) 2 1 (by simp [He.DefD.dvs]) rfl fun T kV doc pm an cdv ct us its h1 h2 => match us, its, h1, h2 with
      | [u, v], [d], _, _ => ⟨_, rfl, rfl⟩
    exact ⟨_, ds, b, v, fun W => .nil⟩
  · cases h
/-! ### all together -/
def nameOf (all : List Row) (i : Nat) : Str := ((all.find? fun r => decide (r.id = i)).map (·.name)).getD ""
def xName (xs : List (Nat × Str)) (i : Nat) : Str := ((xs.find? fun x => decide (x.1 = i)).map (·.2)).getD ""
def tbOf (all done : List Row) (xs : List (Nat × Str)) : Tb where
  fs i := if done.any (fun r => decide (r.id = i)) then some (nameOf all i) else none
  xs i := if xs.any (fun x => decide (x.1 = i)) then some (xName xs i) else none
def chkRows (all : List Row) (xs : List (Nat × Str)) (ds : List He.DefD) : List Row → List Row → Bool
  | _, [] => true
  | done, r :: rs => decide (nameOf all r.id = r.name) && chkRow (tbOf all done xs) ds r && chkRows all xs ds (done ++ [r]) rs
def tabOf (K : PySem.W.Frag) (Φ : Phi) (all done : List Row) (xs : List (Nat × Str)) : Tab where
  k := done.length
  cls i := .ref (He.ga K (xName xs i))
  fname i := nameOf all i
  has i := done.any fun r => decide (r.id = i)
  Φ := Φ
  cname i := xName xs i
  chas i := xs.any fun x => decide (x.1 = i)
theorem tbOk (K : PySem.W.Frag) (Φ : Phi) (all done : List Row) (xs : List (Nat × Str)) : TbOk (tbOf all done xs) (tabOf K Φ all done xs) where
  f i n h := by
    unfold tbOf at h
    dsimp only at h
    split at h
    · rename_i e; cases h; exact ⟨e, rfl⟩
    · cases h
  x i n h := by
    unfold tbOf at h
    dsimp only at h
    split at h
    · rename_i e; cases h; exact ⟨e, rfl⟩
    · cases h
/-- what is asked of the facts -/
def faOk (fa : List He.Fa) (all : List Row) (xs : List (Nat × Str)) : Prop := (∀ r ∈ all, He.Fa.glo r.name ∈ fa) ∧ (∀ x ∈ bltNames, He.Fa.free x ∈ fa) ∧ ∀ i, xs.any (fun x => decide (x.1 = i)) = true → He.Fa.glo (xName xs i) ∈ fa ∧ He.Fa.exc (xName xs i) ∈ fa
section
variable {P : Program} {w : World} {K : PySem.W.Frag} {h : Heap} {mg : Str → Option Value} {base : Heap} {fa : List He.Fa} {ds : List He.DefD} {all : List Row} {xs : List (Nat × Str)} {Φ : Phi}
/-- a row's def -/
theorem row_ok (X : K.In h) (G : h.Ns mainGlobals mg) (c : He.SaysD fa ds K) (hf : faOk fa all xs) {done : List Row} (ht : TabOk P w K mg base (tabOf K Φ all done xs)) {r : Row} (hr : r ∈ all) (hn : nameOf all r.id = r.name) (hc : chkRow (tbOf all done xs) ds r = true)
    (hΦ : ∀ ds m, Φ r.id ds m = run Φ r.fn (ds ++ r.dd) m) {T' : Tab} (h1 : T'.fname r.id = r.name) (h2 : T'.Φ = Φ) (h3 : T'.cls = (tabOf K Φ all done xs).cls) (h4 : done.length + 1 ≤ T'.k) :
    ∃ fd k dvs dsv, FnAt P w K mg base T' r.id (He.ga K r.name) fd r.ps k dvs dsv r.dd (run Φ r.fn) := by
  unfold chkRow at hc
  split at hc
  · cases hc
  · rename_i d hd
    simp only [Bool.and_eq_true, decide_eq_true_eq, List.isEmpty_iff] at hc
    obtain ⟨⟨⟨⟨⟨⟨⟨c1, c2⟩, c3⟩, c4⟩, c5⟩, c6⟩, c7⟩, c8⟩ := hc
    have hm := List.mem_of_find?_eq_some hd
    have he : d.name = r.name := by simpa using List.find?_some hd
    obtain ⟨fd, F⟩ := c.defs hm
    obtain ⟨dvs, dsv, b, v, rd⟩ := bind_row F c6 c7 c8
    have ea : He.fAd K d.at_ = He.ga K r.name := by rw [c1, ← he]; rfl
    rw [ea] at F
    have ok := def_ok ht (tbOk K Φ all done xs) F (scB_of c2) r.fn c4 c5 c3
    refine ⟨fd, _, dvs, dsv, ⟨?_, F.kp, b, v, rd, h4, ?_, fun l m _ => ?_⟩⟩
    · rw [h1]; exact He.glo_ok X G (c.facts (hf.1 r hr))
    · rw [h3]; exact ok
    · rw [h2, hΦ]
theorem tab_step (X : K.In h) (G : h.Ns mainGlobals mg) (c : He.SaysD fa ds K) (hf : faOk fa all xs) {done : List Row} (ht : TabOk P w K mg base (tabOf K Φ all done xs)) {r : Row} (hr : r ∈ all) (hn : nameOf all r.id = r.name) (hc : chkRow (tbOf all done xs) ds r = true)
    (hΦ : ∀ ds m, Φ r.id ds m = run Φ r.fn (ds ++ r.dd) m) : TabOk P w K mg base (tabOf K Φ all (done ++ [r]) xs) where
  blt := ht.blt
  fn f hf' := by
    have hf2 : (done ++ [r]).any (fun r => decide (r.id = f)) = true := hf'
    rw [List.any_append, Bool.or_eq_true] at hf2
    rcases hf2 with z | z
    · obtain ⟨a, fd, ps, k, dvs, dsv, dds, φ, F⟩ := ht.fn f z
      refine ⟨a, fd, ps, k, dvs, dsv, dds, φ, ⟨F.gl, F.kp, F.b, F.dv, F.dd, ?_, F.ok, F.eq⟩⟩
      have := F.kk
      show k ≤ (done ++ [r]).length
      have e : (tabOf K Φ all done xs).k = done.length := rfl
      rw [e] at this
      simp; omega
    · have e : r.id = f := by simpa using z
      subst e
      obtain ⟨fd, k, dvs, dsv, F⟩ := row_ok X G c hf ht hr hn hc hΦ (T' := tabOf K Φ all (done ++ [r]) xs) hn rfl rfl (by show done.length + 1 ≤ (done ++ [r]).length; simp)
      exact ⟨_, _, _, _, _, _, _, _, F⟩
  exc := ht.exc
theorem tab_nil (X : K.In h) (G : h.Ns mainGlobals mg) (c : He.SaysD fa ds K) (hf : faOk fa all xs) : TabOk P w K mg base (tabOf K Φ all [] xs) where
  blt x hx := He.free_ok X G (c.facts (hf.2.1 x hx))
  fn f hf' := by cases hf'
  exc i hi := by
    obtain ⟨f1, f2⟩ := hf.2.2 i hi
    obtain ⟨q1, q2, q3, q4⟩ := He.exc_ok (c.facts f2)
    exact ⟨_, rfl, He.glo_ok X G (c.facts f1), q2, q1, q3, q4⟩
theorem tab_rows (X : K.In h) (G : h.Ns mainGlobals mg) (c : He.SaysD fa ds K) (hf : faOk fa all xs) (hΦ : ∀ r ∈ all, ∀ ds m, Φ r.id ds m = run Φ r.fn (ds ++ r.dd) m) :
    ∀ (todo done : List Row), (∀ r ∈ todo, r ∈ all) → TabOk P w K mg base (tabOf K Φ all done xs) → chkRows all xs ds done todo = true → TabOk P w K mg base (tabOf K Φ all (done ++ todo) xs)
  | [], done, _, ht, _ => by rw [List.append_nil]; exact ht
  | r :: rs, done, hs, ht, hc => by
    simp only [chkRows, Bool.and_eq_true, decide_eq_true_eq] at hc
    have hr := hs r List.mem_cons_self
    have := tab_rows X G c hf hΦ rs (done ++ [r]) (fun q hq => hs q (List.mem_cons_of_mem _ hq)) (tab_step X G c hf ht hr hc.1.1 hc.1.2 (hΦ r hr)) hc.2
    rw [List.append_assoc] at this
    exact this
end
/-! ### the law's end -/
theorem start_ok {K : PySem.W.Frag} (H : Hp) : (Wd.mk H [] [] []).Ok K where
  len := rfl
  nd := List.nodup_nil
  there a ha := by cases ha
  hid a ha := by cases ha
  obj n o e := by simp at e
theorem start_scr {K : PySem.W.Frag} {H : Hp} {a : Addr} {ns : List Int} (hO : Only H) (hS : SqL K H a (ns.map V.int)) : Rep K (Wd.mk H [] [] []) (.ref a) (.scr ns) := by
  refine .scr ?_
  rcases hS with (h | ⟨o, h⟩) | h
  · rcases hO a with z | ⟨o, xs, z⟩ <;> rw [h] at z <;> cases z
  · exact .inl ⟨o, h⟩
  · exact .inr (.inr h)
end HD
end

section
set_option Elab.async false
set_option linter.all false
set_option maxRecDepth 100000
set_option maxHeartbeats 4000000
/-! A23: a law's end. -/
namespace HD
open PySem PySem.Spec PyProof.Rows L2
theorem walkX {l : PySem.W.OpenLaw} {n k : Nat} {q : Program} {loose : List Str} {XP : (Str → Option Value) → Heap → Prop} {YP : World → Heap → Prop} {d : DefRec} {CX : World → CXT} {x : Str}
    (hn : l.most = some n) (hn2 : n ≤ sizeLine) (hdf : d.params.defaults = []) (hr : Room k callerA)
    (F : ∀ (w : World) (mg : Str → Option Value) (fa : Addr) (h : Heap), YP w h → h.Ns mainGlobals mg → mg d.name = some (.ref fa) →
      ∃ (K : PySem.W.Frag) (fd : FuncData) (sp : Sp), K.In h ∧ (∀ (s : Shared) (u : Value), BindsTo s fd ⟨[u], []⟩ [(x, u)]) ∧
        (∀ (H : Hp) (a : Addr) (ns : List Int), ns.length ≤ n → Only H → SqL K H a (ns.map V.int) → sp [.ref a] H (fun v _ => v = .bl true) fun _ _ _ => False) ∧
        ∀ base : Heap, K.In base → base.Ns mainGlobals mg → FnOk l.prog w K mg base (CX w) k fa fd [x] sp)
    (hCX : ∀ (w : World) (H : Hp) (s : Shared) (e : Value) (s' : Shared), CX w [] H s (fun _ _ _ => False) e s' → False) :
    PySem.W.WalkO q loose XP YP l.row.toRowW d [] (fun f vs => PySem.call f vs) := by
  refine Att.attach_call hn hdf fun w s₀ s₁ mg mb fa o pm cd doc a vs ns G Y ho hd hcd hmg hobj hints hlen hg => ?_
  obtain ⟨K, fd, sp, KX, hb, hsp, hF⟩ := F w mg fa _ Y G.T.g hmg
  exact law_call KX G.T.g G.T.b G.T.builtins G.T.nolimit hg hobj hints (Nat.le_trans hlen hn2) hr hF hb (fun H hO hS => hsp H a ns hlen hO hS) fun H e s' => hCX w H s₁ e s'
theorem noCX {P : Program} {w : World} {l : List PySem.Env} {H : Hp} {s : Shared} {e : Value} {s' : Shared} (h : L2.CX P w l H s (fun _ _ _ => False) e s') : False := by
  obtain ⟨_, _, _, _, _, _, _, _, _, _, _, _, z⟩ := h
  exact z
section
variable {P : Program} {fa : List He.Fa} {ds : List He.DefD} {xs : List (Nat × Str)}
theorem law_F {init : List Row} {rl : Row} (tw : List Ent) (htw : okTower tw = true) (hmem : ∀ r ∈ init ++ [rl], r.ent ∈ tw) (hf : faOk fa (init ++ [rl]) xs) (hc : chkRows (init ++ [rl]) xs ds [] (init ++ [rl]) = true)
    (hn : rl.name = "law") (hps : rl.ps = [("script" : Str)]) (hk : rl.kd = 0) (pure : ∀ ns : List Int, ns.length ≤ 63 → ∃ m, tower tw rl.id [.scr ns] [] = .ok (.bl true) m)
    (w : World) (mg : Str → Option Value) (fA : Addr) (h : Heap) (Y : ∃ K : PySem.W.Frag, K.In h ∧ He.SaysD fa ds K) (G : h.Ns mainGlobals mg) (hmg : mg "law" = some (.ref fA)) :
    ∃ (K : PySem.W.Frag) (fd : FuncData) (sp : Sp), K.In h ∧ (∀ (s : Shared) (u : Value), BindsTo s fd ⟨[u], []⟩ [("script", u)]) ∧
        (∀ (H : Hp) (a : Addr) (ns : List Int), ns.length ≤ 63 → Only H → SqL K H a (ns.map V.int) → sp [.ref a] H (fun v _ => v = .bl true) fun _ _ _ => False) ∧
        ∀ base : Heap, K.In base → base.Ns mainGlobals mg → FnOk P w K mg base (L2.CX P w) (init.length + 1) fA fd ["script"] sp := by
  obtain ⟨K, KX, c⟩ := Y
  have hΦ : ∀ r ∈ init ++ [rl], ∀ d m, tower tw r.id d m = run (tower tw) r.fn (d ++ r.dd) m := fun r hr d m => tower_eq htw (hmem r hr) d m
  have hrl : rl ∈ init ++ [rl] := by simp
  -- the check, taken apart
  have hsplit : ∀ (todo done : List Row), chkRows (init ++ [rl]) xs ds done (todo ++ [rl]) = true → chkRows (init ++ [rl]) xs ds done todo = true ∧ nameOf (init ++ [rl]) rl.id = rl.name ∧ chkRow (tbOf (init ++ [rl]) (done ++ todo) xs) ds rl = true := by
    intro todo
    induction todo with
    | nil =>
      intro done h
      simp only [List.nil_append, chkRows, Bool.and_eq_true, decide_eq_true_eq] at h
      exact ⟨rfl, h.1.1, by rw [List.append_nil]; exact h.1.2⟩
    | cons r rs ih =>
      intro done h
      simp only [List.cons_append, chkRows, Bool.and_eq_true, decide_eq_true_eq] at h
      obtain ⟨h1, h2, h3⟩ := ih (done ++ [r]) h.2
      refine ⟨?_, h2, by rw [List.append_assoc] at h3; exact h3⟩
      simp only [chkRows, Bool.and_eq_true, decide_eq_true_eq]
      exact ⟨h.1, h1⟩
  obtain ⟨c1, c2, c3⟩ := hsplit init [] hc
  rw [List.nil_append] at c3
  have c3' := c3
  unfold chkRow at c3'
  split at c3'
  · cases c3'
  · rename_i d hd
    simp only [Bool.and_eq_true, decide_eq_true_eq, List.isEmpty_iff] at c3'
    obtain ⟨⟨⟨⟨⟨⟨⟨k1, k2⟩, k3⟩, k4⟩, k5⟩, k6⟩, k7⟩, k8⟩ := c3'
    have hm := List.mem_of_find?_eq_some hd
    have he : d.name = rl.name := by simpa using List.find?_some hd
    obtain ⟨fd, F⟩ := c.defs hm
    have ea : He.fAd K d.at_ = He.ga K rl.name := by rw [k1, ← he]; rfl
    rw [ea] at F
    have gl := He.glo_ok KX G (c.facts (hf.1 rl hrl))
    rw [hn] at gl F
    rw [hmg] at gl
    cases gl
    refine ⟨K, fd, spD K (tabOf K (tower tw) (init ++ [rl]) init xs).cls (run (tower tw) rl.fn), KX, fun s u => ?_, fun H a ns hl hO hS => ?_, fun base KB GB => ?_⟩
    · obtain ⟨at_, name, qual, params, body, scope, dfl, kwd⟩ := d
      dsimp only at F k6 k7
      subst k6
      unfold bindB at k7
      rw [hk] at k7
      split at k7
      · rename_i e1 e2 e3
        dsimp only at e2 k7
        subst e2
        rw [hps] at k7
        exact F.bindsA (ps := ["script"]) (fun kV doc pm an cdv ct us hl => bind_plain k7 (by decide) kV doc pm an cdv ct us hl) s [u] rfl
      · rename_i e _ _; cases e
      · rename_i e _ _; cases e
      · cases k7
    · obtain ⟨m, e⟩ := pure ns hl
      rw [hΦ rl hrl] at e
      have hdd : rl.dd = [] := by
        unfold bindB at k7
        rw [hk] at k7
        split at k7
        · rename_i e; exact e
        · rename_i e _ _; cases e
        · rename_i e _ _; cases e
        · cases k7
      rw [hdd, List.append_nil] at e
      refine ⟨⟨H, [], [], []⟩, [.scr ns], rfl, start_ok H, .cons (start_scr hO hS) .nil, ?_⟩
      show Post (Rep K) K _ (run (tower tw) rl.fn [.scr ns] []) _ _
      rw [e]
      intro v W' _ _ _ r
      cases r
      rfl
    · have ht : TabOk P w K mg base (tabOf K (tower tw) (init ++ [rl]) init xs) := by
        have := tab_rows (P := P) (w := w) (base := base) KX G c hf hΦ init [] (fun r hr => List.mem_append_left _ hr) (tab_nil KX G c hf) c1
        rw [List.nil_append] at this
        exact this
      have ok := def_ok ht (tbOk K (tower tw) _ _ xs) F (scB_of k2) rl.fn k4 k5 k3
      rw [hps] at ok
      exact ok
end
end HD
end

section
set_option linter.all false
set_option maxRecDepth 100000
/-! F: the defs of the texts as terms of the small language (printed by gen/emit.py). -/
namespace HD
def f_is_integer : Fn := ⟨3, 3,
 [.ret (.bop true [.blt .isInt [.var 0], .not1 (.blt .isBool [.var 0]), .chain .le .le (.var 1) (.var 0) (.var 2)])]⟩
def f_is_rule : Fn := ⟨1, 1,
 [.ite (.bop false [.not1 (.blt .isTuple [.var 0]), .cmp .ne (.blt .len [.var 0]) (.int 4)]) [.ret (.bl false)] [],
 .ite (.bop false [.not1 (.call 0 [.ix (.var 0) (.int 0), .int 1, .int 100]), .not1 (.call 0 [.ix (.var 0) (.int 1), .int 1, .int 100]), .not1 (.call 0 [.ix (.var 0) (.int 2), .int 1, .ix (.var 0) (.int 1)])]) [.ret (.bl false)] [],
 .ret (.call 0 [.ix (.var 0) (.int 3), .int 0, .bin .mul (.ix (.var 0) (.int 0)) (.bin .sub (.ix (.var 0) (.int 1)) (.ix (.var 0) (.int 2)))])]⟩
def f_is_rising_c1 : C := .comp (.call 0 [.var 3, .var 1, .var 2]) (.nm 3) .seq [.var 0] [] [3]
def f_is_rising_c2 : C := .comp (.cmp .lt (.var 3) (.var 4)) (.tp [3, 4]) .zip [.var 0, .sl (.var 0) (some (.int 1)) none] [] [3, 4]
def f_is_rising : Fn := ⟨3, 5,
 [.ite (.bop false [.not1 (.blt .isTuple [.var 0]), .not1 (.blt .alll [f_is_rising_c1])]) [.ret (.bl false)] [],
 .ret (.blt .alll [f_is_rising_c2])]⟩
def f_need_rule : Fn := ⟨2, 2,
 [.ite (.bop false [.not1 (.call 1 [.var 0]), .cmp .gt (.bin .mul (.ix (.var 0) (.int 0)) (.ix (.var 0) (.int 1))) (.var 1)]) [.raise 1] []]⟩
def f_draw_fits_c1 : C := .comp (.bop true [.call 2 [.var 2, .int 1, .bin .mul (.ix (.var 0) (.int 0)) (.ix (.var 0) (.int 1))], .cmp .eq (.blt .len [.var 2]) (.ix (.var 0) (.int 1))]) (.nm 2) .seq [.var 1] [] [2]
def f_draw_fits_c2 : C := .comp2 (.var 3) (.nm 2) .seq [.var 1] [] (.nm 3) .seq [.var 2] [] [2, 3] [3]
def f_draw_fits : Fn := ⟨2, 4,
 [.ite (.bop false [.not1 (.blt .isTuple [.var 1]), .cmp .ne (.blt .len [.var 1]) (.ix (.var 0) (.int 0))]) [.ret (.bl false)] [],
 .ite (.not1 (.blt .alll [f_draw_fits_c1])) [.ret (.bl false)] [],
 .ret (.cmp .eq (.blt .lenset [f_draw_fits_c2]) (.bin .mul (.ix (.var 0) (.int 0)) (.ix (.var 0) (.int 1))))]⟩
def f_is_draw : Fn := ⟨2, 2,
 [.drop (.call 3 [.var 0]),
 .ret (.call 4 [.var 0, .var 1])]⟩
def f_law_cell_at : Fn := ⟨2, 2,
 [.ite (.cmp .lt (.var 1) (.blt .len [.var 0])) [.ret (.ix (.var 0) (.var 1))] [],
 .ret (.int 0)]⟩
def f_law_draws_b1 : List S := [.set 5 (.bin .mod (.bin .add (.bin .add (.bin .add (.bin .mul (.var 5) (.var 5)) (.bin .mul (.int 48271) (.var 5))) (.var 6)) (.int 1)) (.int 2305843009213693951)),
 .ite (.bop true [.cmp .gt (.var 6) (.int 2), .cmp .gt (.var 4) (.int 0)]) [.app (.var 3) (.bin .mod (.var 4) (.var 2)),
 .set 4 (.bin .fdiv (.var 4) (.var 2))] [.ite (.cmp .gt (.var 6) (.int 2)) [.app (.var 3) (.bin .mod (.bin .fdiv (.var 5) (.int 4096)) (.var 2))] []]]
def f_law_draws : Fn := ⟨3, 7,
 [.set 3 (.ownL []),
 .set 4 (.bin .mul (.var 0) (.blt .intOf [.cmp .ge (.var 0) (.bin .pow (.int 10) (.int 18))])),
 .set 5 (.bin .mod (.var 0) (.int 2305843009213693951)),
 .for (.nm 6) .rng1 [.bin .add (.var 1) (.int 3)] f_law_draws_b1,
 .frz 3,
 .ret (.var 3)]⟩
def f_law_bag : Fn := ⟨2, 2,
 [.ret (.ownL [.call 7 [.call 6 [.var 0, .var 1], .int 400, .int 1000], .int 0])]⟩
def f_law_bags_c1 : C := .comp (.call 8 [.var 0, .var 2]) (.nm 2) .rng1 [.blt .max2 [.int 1, .blt .min2 [.var 1, .blt .len [.var 0]]]] [] [2]
def f_law_bags : Fn := ⟨2, 3,
 [.ret (f_law_bags_c1)]⟩
def f_law_take : Fn := ⟨2, 2,
 [.put (.var 0) (.int 1) (.bin .add (.ix (.var 0) (.int 1)) (.int 1)),
 .ret (.bin .mod (.ix (.ix (.var 0) (.int 0)) (.bin .mod (.ix (.var 0) (.int 1)) (.blt .len [.ix (.var 0) (.int 0)]))) (.var 1))]⟩
def f_law_from : Fn := ⟨3, 3,
 [.ret (.bop true [.blt .isInt [.var 0], .not1 (.blt .isBool [.var 0]), .cmp .le (.var 1) (.var 0), .cmp .le (.var 0) (.var 2)])]⟩
def f_law_odd : Fn := ⟨1, 2,
 [.set 1 (.lst [.non, .bl true, .bl false, .neg (.int 1), .int 0, .int 1, .int 2, .int 6, .int 61, .int 101]),
 .set 1 (.bin .add (.var 1) (.lst [.bin .add (.bin .pow (.int 10) (.int 4)) (.int 1), .bin .pow (.int 10) (.int 30), .str "", .str "a", .tup [], .lst [], .tup [.int 1], .tup [.int 1, .int 2], .tup [.int 2, .int 1], .tup [.int 1, .int 1]])),
 .set 1 (.bin .add (.var 1) (.lst [.tup [.int 2, .int 3, .int 1, .int 1], .tup [.int 3, .int 8, .int 2, .int 2], .lst [.int 2, .int 3, .int 1, .int 1], .tup [.int 2, .int 3, .int 4, .int 0], .tup [.int 2, .int 3, .int 1, .int 5], .tup [.int 0, .int 3, .int 1, .int 0]])),
 .set 1 (.bin .add (.var 1) (.lst [.tup [.int 2, .int 0, .int 1, .int 0], .tup [.int 2, .int 3, .int 0, .int 1], .tup [.int 2, .int 3, .bl true, .int 1], .tup [.int 101, .int 3, .int 1, .int 0], .tup [.tup [.int 1, .int 2, .int 3], .tup [.int 4, .int 5, .int 6]], .tup [.tup [.int 1, .int 2], .tup [.int 3, .int 4]]])),
 .ret (.ix (.var 1) (.bin .mod (.bin .add (.ix (.var 0) (.int 0)) (.bin .mul (.int 7) (.ix (.var 0) (.int 1)))) (.blt .len [.var 1])))]⟩
def f_law_rule : Fn := ⟨2, 6,
 [.set 2 (.bin .add (.int 1) (.call 10 [.var 0, .ix (.lst [.var 1, .blt .max2 [.int 1, .bin .fdiv (.var 1) (.int 2)], .blt .min2 [.var 1, .int 4]]) (.call 10 [.var 0, .int 3])])),
 .set 3 (.bin .add (.int 1) (.call 10 [.var 0, .blt .max2 [.int 1, .bin .fdiv (.var 1) (.var 2)]])),
 .set 4 (.bin .add (.int 1) (.call 10 [.var 0, .ix (.lst [.var 3, .blt .max2 [.int 1, .bin .fdiv (.var 3) (.int 2)], .int 1]) (.call 10 [.var 0, .int 3])])),
 .set 5 (.bin .mul (.var 2) (.bin .sub (.var 3) (.var 4))),
 .ret (.tup [.var 2, .var 3, .var 4, .call 10 [.var 0, .ix (.lst [.bin .add (.var 5) (.int 1), .bin .add (.blt .min2 [.var 5, .int 4]) (.int 1), .int 1]) (.call 10 [.var 0, .int 3])]])]⟩
def f_law_mixed_b1 : List S := [.app (.var 3) (.popAt (.var 2) (.call 10 [.var 0, .blt .len [.var 2]]))]
def f_law_mixed : Fn := ⟨2, 4,
 [.par 2 3 (.ownC (.var 1)) (.ownL []),
 .whl 1000000 (.cmp .ne (.var 2) (.lst [])) f_law_mixed_b1,
 .frz 3,
 .ret (.var 3)]⟩
def f_law_dealt_c1 : C := .comp (.blt .tuple [.blt .sorted [.sl (.var 1) (some (.bin .mul (.var 4) (.var 3))) (some (.bin .mul (.bin .add (.var 4) (.int 1)) (.var 3)))]]) (.nm 4) .rng1 [.var 2] [] [4]
def f_law_dealt : Fn := ⟨2, 5,
 [.unp [2, 3] (.tup [.ix (.var 0) (.int 0), .ix (.var 0) (.int 1)]),
 .ret (.blt .tuple [f_law_dealt_c1])]⟩
def f_law_a_draw : Fn := ⟨2, 5,
 [.set 2 (.blt .listRg2 [.int 1, .bin .add (.bin .mul (.ix (.var 1) (.int 0)) (.ix (.var 1) (.int 1))) (.int 1)]),
 .par 3 4 (.call 10 [.var 0, .blt .len [.var 2]]) (.call 10 [.var 0, .int 4]),
 .ite (.cmp .eq (.var 4) (.int 1)) [.set 2 (.bin .add (.sl (.var 2) (some (.var 3)) none) (.sl (.var 2) none (some (.var 3))))] [.ite (.cmp .eq (.var 4) (.int 2)) [.set 2 (.call 15 [.var 0, .var 2])] [.ite (.cmp .eq (.var 4) (.int 3)) [.set 2 (.bin .add (.sl (.var 2) none (some (.var 3))) (.call 15 [.var 0, .sl (.var 2) (some (.var 3)) none]))] []]],
 .ret (.call 16 [.var 1, .var 2])]⟩
def f_law_rule_good : Fn := ⟨1, 1,
 [.ite (.bop false [.not1 (.blt .isTuple [.var 0]), .cmp .ne (.blt .len [.var 0]) (.int 4), .not1 (.call 11 [.ix (.var 0) (.int 0), .int 1, .int 100])]) [.ret (.bl false)] [],
 .ite (.bop false [.not1 (.call 11 [.ix (.var 0) (.int 1), .int 1, .int 100]), .not1 (.call 11 [.ix (.var 0) (.int 2), .int 1, .ix (.var 0) (.int 1)])]) [.ret (.bl false)] [],
 .ret (.call 11 [.ix (.var 0) (.int 3), .int 0, .bin .mul (.ix (.var 0) (.int 0)) (.bin .sub (.ix (.var 0) (.int 1)) (.ix (.var 0) (.int 2)))])]⟩
def f_places_of : Fn := ⟨1, 1,
 [.ret (.bin .add (.bin .mul (.ix (.var 0) (.int 0)) (.ix (.var 0) (.int 2))) (.ix (.var 0) (.int 3)))]⟩
def f_places : Fn := ⟨1, 1,
 [.drop (.call 3 [.var 0]),
 .ret (.call 22 [.var 0])]⟩
def f_going_on_b1 : List S := [.par 2 3 (.bin .add (.var 2) (.blt .list [.sl (.var 4) none (some (.ix (.var 0) (.int 2)))])) (.bin .add (.var 3) (.blt .list [.sl (.var 4) (some (.ix (.var 0) (.int 2))) none]))]
def f_going_on : Fn := ⟨2, 5,
 [.drop (.call 3 [.var 0]),
 .ite (.not1 (.call 4 [.var 0, .var 1])) [.raise 2] [],
 .par 2 3 (.lst []) (.lst []),
 .for (.nm 4) .seq [.var 1] f_going_on_b1,
 .ret (.tup [.blt .tuple [.blt .sorted [.var 2]], .blt .tuple [.sl (.blt .sorted [.var 3]) none (some (.ix (.var 0) (.int 3)))]])]⟩
def f_need_runner : Fn := ⟨2, 2,
 [.ite (.not1 (.call 0 [.var 1, .int 1, .bin .mul (.ix (.var 0) (.int 0)) (.ix (.var 0) (.int 1))])) [.raise 3] []]⟩
def f_bound : Fn := ⟨2, 3,
 [.set 2 (.bin .sub (.ix (.var 0) (.int 1)) (.ix (.var 0) (.int 2))),
 .ret (.bin .add (.var 1) (.bin .mul (.ix (.var 0) (.int 2)) (.bin .fdiv (.bin .sub (.bin .add (.var 1) (.var 2)) (.int 1)) (.var 2))))]⟩
def f_sure_of : Fn := ⟨1, 1,
 [.ite (.cmp .eq (.call 22 [.var 0]) (.bin .mul (.ix (.var 0) (.int 0)) (.ix (.var 0) (.int 1)))) [.ret (.bin .mul (.ix (.var 0) (.int 0)) (.ix (.var 0) (.int 1)))] [],
 .ret (.bin .sub (.call 27 [.var 0, .bin .add (.ix (.var 0) (.int 3)) (.int 1)]) (.int 1))]⟩
def f_direct_of : Fn := ⟨1, 1,
 [.ret (.bin .add (.bin .mul (.bin .sub (.ix (.var 0) (.int 0)) (.int 1)) (.ix (.var 0) (.int 1))) (.ix (.var 0) (.int 2)))]⟩
def f_slowest_of : Fn := ⟨1, 1,
 [.ret (.blt .max2 [.call 29 [.var 0], .call 22 [.var 0]])]⟩
def f_sure_rank : Fn := ⟨1, 1,
 [.drop (.call 3 [.var 0]),
 .ret (.call 28 [.var 0])]⟩
def f_slowest_rank : Fn := ⟨1, 1,
 [.drop (.call 3 [.var 0]),
 .ret (.call 30 [.var 0])]⟩
def f_slowest_direct : Fn := ⟨1, 1,
 [.drop (.call 3 [.var 0]),
 .ret (.call 29 [.var 0])]⟩
def f_most_others : Fn := ⟨2, 4,
 [.par 2 3 (.bin .fdiv (.var 1) (.ix (.var 0) (.int 1))) (.bin .mod (.var 1) (.ix (.var 0) (.int 1))),
 .ret (.bin .add (.bin .mul (.var 2) (.bin .sub (.ix (.var 0) (.int 1)) (.ix (.var 0) (.int 2)))) (.blt .max2 [.int 0, .bin .sub (.var 3) (.ix (.var 0) (.int 2))]))]⟩
def f_faster_of : Fn := ⟨2, 2,
 [.ite (.cmp .gt (.var 1) (.call 30 [.var 0])) [.ret (.non)] [],
 .ite (.cmp .gt (.var 1) (.call 29 [.var 0])) [.ret (.bin .sub (.var 1) (.int 1))] [],
 .ret (.bin .sub (.bin .sub (.var 1) (.int 1)) (.blt .max2 [.int 0, .bin .sub (.call 34 [.var 0, .bin .sub (.var 1) (.int 1)]) (.ix (.var 0) (.int 3))]))]⟩
def f_least_faster : Fn := ⟨2, 2,
 [.drop (.call 3 [.var 0]),
 .drop (.call 26 [.var 0, .var 1]),
 .ret (.call 35 [.var 0, .var 1])]⟩
def f_law_through_b1 : List S := [.set 2 (.bin .add (.var 2) (.blt .list [.sl (.var 4) none (some (.ix (.var 0) (.int 2)))])),
 .set 3 (.bin .add (.var 3) (.blt .list [.sl (.var 4) (some (.ix (.var 0) (.int 2))) none]))]
def f_law_through : Fn := ⟨2, 5,
 [.par 2 3 (.lst []) (.lst []),
 .for (.nm 4) .seq [.var 1] f_law_through_b1,
 .ret (.tup [.blt .sorted [.var 2], .sl (.blt .sorted [.var 3]) none (some (.ix (.var 0) (.int 3)))])]⟩
def f_law_all_draws_b1 : List S := [.ite (.cmp .lt (.blt .len [.var 6]) (.ix (.var 0) (.int 1))) [.app (.var 3) (.bin .add (.bin .add (.sl (.var 4) none (some (.var 5))) (.tup [.bin .add (.var 6) (.tup [.var 2])])) (.sl (.var 4) (some (.bin .add (.var 5) (.int 1))) none))] []]
def f_law_all_draws_b2 : List S := [.for (.tp [5, 6]) .enum [.var 4] f_law_all_draws_b1]
def f_law_all_draws_b3 : List S := [.set 3 (.ownL []),
 .for (.nm 4) .seq [.var 1] f_law_all_draws_b2,
 .frz 3,
 .set 1 (.var 3)]
def f_law_all_draws : Fn := ⟨1, 7,
 [.set 1 (.lst [.bin .mul (.tup [.tup []]) (.ix (.var 0) (.int 0))]),
 .for (.nm 2) .rng2 [.int 1, .bin .add (.bin .mul (.ix (.var 0) (.int 0)) (.ix (.var 0) (.int 1))) (.int 1)] f_law_all_draws_b3,
 .ret (.var 1)]⟩
def f_law_little : Fn := ⟨1, 5,
 [.set 1 (.lst [.tup [.int 1, .int 5], .tup [.int 2, .int 2], .tup [.int 2, .int 3], .tup [.int 2, .int 4], .tup [.int 3, .int 2], .tup [.int 4, .int 1], .tup [.int 4, .int 2], .tup [.int 5, .int 1], .tup [.int 3, .int 1], .tup [.int 1, .int 1], .tup [.int 2, .int 3], .tup [.int 2, .int 4]]),
 .unp [2, 3] (.ix (.var 1) (.call 10 [.var 0, .blt .len [.var 1]])),
 .set 4 (.bin .add (.int 1) (.call 10 [.var 0, .var 3])),
 .ret (.tup [.var 2, .var 3, .var 4, .call 10 [.var 0, .bin .add (.bin .mul (.var 2) (.bin .sub (.var 3) (.var 4))) (.int 1)]])]⟩
def f_law_far_draw_b1 : List S := [.par 2 3 (.bin .add (.bin .mul (.int 1000) (.var 2)) (.call 10 [.var 0, .int 1000])) (.bin .fdiv (.var 3) (.int 1000))]
def f_law_far_draw : Fn := ⟨2, 4,
 [.par 2 3 (.int 0) (.var 1),
 .whl 1000000 (.cmp .gt (.var 3) (.int 0)) f_law_far_draw_b1,
 .ret (.ix (.lst [.bin .mod (.var 2) (.var 1), .int 0, .bin .sub (.var 1) (.int 1), .bin .mod (.var 2) (.var 1)]) (.call 10 [.var 0, .int 4]))]⟩
def f_law_rule_k04 : Fn := ⟨2, 6,
 [.set 2 (.bin .add (.int 1) (.call 10 [.var 0, .ix (.lst [.blt .min2 [.int 100, .var 1], .blt .max2 [.int 1, .blt .min2 [.int 100, .bin .fdiv (.var 1) (.int 2)]], .blt .min2 [.var 1, .int 4]]) (.call 10 [.var 0, .int 3])])),
 .set 3 (.bin .add (.int 1) (.call 10 [.var 0, .blt .max2 [.int 1, .blt .min2 [.int 100, .bin .fdiv (.var 1) (.var 2)]]])),
 .set 4 (.bin .add (.int 1) (.call 10 [.var 0, .ix (.lst [.var 3, .blt .max2 [.int 1, .bin .fdiv (.var 3) (.int 2)], .int 1]) (.call 10 [.var 0, .int 3])])),
 .set 5 (.bin .mul (.var 2) (.bin .sub (.var 3) (.var 4))),
 .ret (.tup [.var 2, .var 3, .var 4, .call 10 [.var 0, .ix (.lst [.bin .add (.var 5) (.int 1), .bin .add (.blt .min2 [.var 5, .int 4]) (.int 1), .int 1]) (.call 10 [.var 0, .int 3])]])]⟩
def f_law_far_rule : Fn := ⟨1, 5,
 [.par 1 2 (.bin .add (.int 1) (.call 10 [.var 0, .int 100])) (.bin .add (.int 1) (.call 10 [.var 0, .int 100])),
 .set 3 (.bin .add (.int 1) (.call 10 [.var 0, .ix (.lst [.var 2, .blt .min2 [.var 2, .int 4]]) (.call 10 [.var 0, .int 2])])),
 .set 4 (.bin .mul (.var 1) (.bin .sub (.var 2) (.var 3))),
 .ret (.tup [.var 1, .var 2, .var 3, .call 41 [.var 0, .bin .add (.ix (.lst [.var 4, .blt .min2 [.var 4, .int 12], .int 0]) (.call 10 [.var 0, .int 3])) (.int 1)]])]⟩
def f_law_told_right_b1 : List S := [.ite (.bop false [.cmp .isN (.call 36 [.var 0, .ix (.var 4) (.var 5)]) (.non), .cmp .gt (.call 36 [.var 0, .ix (.var 4) (.var 5)]) (.var 5)]) [.ret (.bl false)] []]
def f_law_told_right : Fn := ⟨2, 6,
 [.unp [2, 3] (.call 37 [.var 0, .var 1]),
 .set 4 (.blt .sorted [.bin .add (.var 2) (.var 3)]),
 .ite (.cmp .ne (.sl (.var 4) none (some (.call 31 [.var 0]))) (.blt .listRg2 [.int 1, .bin .add (.call 31 [.var 0]) (.int 1)])) [.ret (.bl false)] [],
 .ite (.bop false [.cmp .gt (.ix (.var 4) (.neg (.int 1))) (.call 32 [.var 0]), .cmp .gt (.ix (.var 2) (.neg (.int 1))) (.call 33 [.var 0]), .cmp .ne (.blt .len [.var 4]) (.call 23 [.var 0])]) [.ret (.bl false)] [],
 .for (.nm 5) .seq [.lst [.int 0, .bin .sub (.blt .len [.var 4]) (.int 1), .bin .fdiv (.blt .len [.var 4]) (.int 2), .bin .fdiv (.bin .mul (.int 2) (.blt .len [.var 4])) (.int 3)]] f_law_told_right_b1,
 .ret (.bl true)]⟩
def f_law_k04_b1 : List S := [.put (.var 9) (.var 10) (.bl true)]
def f_law_k04_c2 : C := .comp (.var 10) (.nm 10) .seq [.var 5] [.cmp .notin (.var 10) (.var 9)] [10]
def f_law_k04_c3 : C := .comp (.var 10) (.nm 10) .seq [.bin .add (.var 7) (.var 8)] [.cmp .lt (.var 10) (.ix (.var 7) (.neg (.int 1)))] [10]
def f_law_k04_b4 : List S := [.set 2 (.ix (.lst [.call 43 [.var 1], .call 42 [.var 1, .int 200]]) (.call 10 [.var 1, .int 2])),
 .par 3 4 (.ix (.var 2) (.int 0)) (.ix (.var 2) (.int 1)),
 .set 5 (.blt .listRg2 [.int 1, .bin .add (.bin .mul (.var 3) (.var 4)) (.int 1)]),
 .set 6 (.call 16 [.var 2, .var 5]),
 .unp [7, 8] (.call 37 [.var 2, .var 6]),
 .set 9 (.newk),
 .for (.nm 10) .seq [.bin .add (.var 7) (.var 8)] f_law_k04_b1,
 .frz 9,
 .set 11 (f_law_k04_c2),
 .set 12 (.ifx (.cmp .ne (.var 11) (.lst [])) (.bin .sub (.ix (.var 11) (.int 0)) (.int 1)) (.bin .mul (.var 3) (.var 4))),
 .ite (.bop false [.cmp .ne (.call 31 [.var 2]) (.var 12), .cmp .ne (.call 33 [.var 2]) (.ix (.var 7) (.neg (.int 1)))]) [.ret (.bl false)] [],
 .ite (.cmp .ne (.call 32 [.var 2]) (.blt .max2 [.ix (.var 7) (.neg (.int 1)), .call 23 [.var 2]])) [.ret (.bl false)] [],
 .ite (.bop false [.not1 (.call 44 [.var 2, .var 6]), .not1 (.call 44 [.var 2, .call 17 [.var 1, .var 2]])]) [.ret (.bl false)] [],
 .ite (.bop true [.cmp .gt (.var 3) (.int 1), .cmp .lt (.ix (.var 2) (.int 2)) (.var 4)]) [.set 13 (.call 10 [.var 1, .bin .sub (.var 3) (.int 1)]),
 .set 14 (.bin .mul (.bin .add (.var 13) (.int 1)) (.var 4)),
 .set 15 (.lst [.ix (.var 5) (.var 14), .ix (.var 5) (.bin .sub (.var 14) (.int 1))]),
 .set 16 (.bin .add (.bin .add (.sl (.var 5) none (some (.bin .sub (.var 14) (.int 1)))) (.var 15)) (.sl (.var 5) (some (.bin .add (.var 14) (.int 1))) none)),
 .ite (.not1 (.call 44 [.var 2, .call 16 [.var 2, .var 16]])) [.ret (.bl false)] []] [],
 .ite (.cmp .ne (.call 36 [.var 2, .ix (.var 7) (.neg (.int 1))]) (.blt .len [f_law_k04_c3])) [.ret (.bl false)] [],
 .ite (.cmp .ne (.call 36 [.var 2, .int 1]) (.int 0)) [.ret (.bl false)] []]
def f_law_k04 : Fn := ⟨1, 17,
 [.for (.nm 1) .seq [.call 9 [.var 0, .int 8]] f_law_k04_b4,
 .ite (.bop false [.cmp .ne (.call 31 [.tup [.int 100, .int 100, .int 1, .int 0]]) (.int 1), .cmp .ne (.call 32 [.tup [.int 100, .int 100, .int 1, .int 0]]) (.int 9901)]) [.ret (.bl false)] [],
 .ret (.cmp .eq (.call 31 [.tup [.int 3, .int 8, .int 2, .int 8]]) (.int 12))]⟩
def f_need_rounds_c1 : C := .comp (.call 1 [.var 2]) (.nm 2) .seq [.var 0] [] [2]
def f_need_rounds_c2 : C := .comp (.cmp .eq (.call 22 [.var 3]) (.bin .mul (.ix (.var 4) (.int 0)) (.ix (.var 4) (.int 1)))) (.tp [3, 4]) .zip [.var 0, .sl (.var 0) (some (.int 1)) none] [] [3, 4]
def f_need_rounds : Fn := ⟨1, 5,
 [.set 1 (.bop true [.blt .isTuple [.var 0], .chain .le .le (.int 1) (.blt .len [.var 0]) (.int 6), .blt .alll [f_need_rounds_c1]]),
 .ite (.bop false [.not1 (.var 1), .not1 (.blt .alll [f_need_rounds_c2])]) [.raise 4] []]⟩
def f_sure_in_all_c1 : C := .comp (.call 28 [.var 1]) (.nm 1) .seq [.var 0] [] [1]
def f_sure_in_all : Fn := ⟨1, 2,
 [.drop (.call 46 [.var 0]),
 .ret (.blt .minl [f_sure_in_all_c1])]⟩
def f_slowest_in_all_b1 : List S := [.set 5 (.bin .fdiv (.bin .add (.bin .add (.var 3) (.var 4)) (.int 1)) (.int 2)),
 .ite (.cmp .le (.bin .add (.call 35 [.var 2, .var 5]) (.int 1)) (.var 1)) [.set 3 (.var 5)] [.set 4 (.bin .sub (.var 5) (.int 1))]]
def f_slowest_in_all_b2 : List S := [.par 3 4 (.int 1) (.call 30 [.var 2]),
 .whl 1000000 (.cmp .lt (.var 3) (.var 4)) f_slowest_in_all_b1,
 .set 1 (.var 3)]
def f_slowest_in_all : Fn := ⟨1, 6,
 [.drop (.call 46 [.var 0]),
 .set 1 (.call 30 [.ix (.var 0) (.neg (.int 1))]),
 .for (.nm 2) .seq [.rev (.sl (.var 0) none (some (.neg (.int 1))))] f_slowest_in_all_b2,
 .ret (.var 1)]⟩
def f_law_fitting_c1 : C := .comp (.var 3) (.nm 3) .rng2 [.int 1, .bin .add (.var 1) (.int 1)] [.cmp .eq (.bin .mod (.var 1) (.var 3)) (.int 0)] [3]
def f_law_fitting : Fn := ⟨2, 6,
 [.set 2 (f_law_fitting_c1),
 .set 3 (.ix (.var 2) (.call 10 [.var 0, .blt .len [.var 2]])),
 .set 4 (.bin .fdiv (.var 1) (.var 3)),
 .set 5 (.bin .add (.int 1) (.call 10 [.var 0, .var 4])),
 .ret (.tup [.var 3, .var 4, .var 5, .call 10 [.var 0, .bin .add (.bin .mul (.var 3) (.bin .sub (.var 4) (.var 5))) (.int 1)]])]⟩
def f_law_sets_b1 : List S := [.unp [3, 4] (.call 37 [.var 0, .var 2]),
 .put (.var 1) (.blt .tuple [.blt .sorted [.bin .add (.var 3) (.var 4)]]) (.bl true)]
def f_law_sets : Fn := ⟨1, 5,
 [.set 1 (.newt),
 .for (.nm 2) .seq [.call 38 [.var 0]] f_law_sets_b1,
 .frz 1,
 .ret (.blt .sorted [.var 1])]⟩
def f_law_ends_c1 : C := .comp (.ix (.var 3) (.bin .sub (.var 5) (.int 1))) (.nm 5) .seq [.var 4] [] [5]
def f_law_ends_b2 : List S := [.put (.var 2) (.blt .tuple [f_law_ends_c1]) (.bl true)]
def f_law_ends_b3 : List S := [.for (.nm 4) .seq [.var 1] f_law_ends_b2]
def f_law_ends : Fn := ⟨2, 6,
 [.set 2 (.newt),
 .for (.nm 3) .seq [.var 0] f_law_ends_b3,
 .frz 2,
 .ret (.blt .sorted [.var 2])]⟩
def f_law_next_rule_c1 : C := .comp (.var 3) (.nm 3) .rng2 [.int 1, .bin .add (.blt .min2 [.int 100, .var 1]) (.int 1)] [.bop true [.cmp .eq (.bin .mod (.var 1) (.var 3)) (.int 0), .cmp .le (.bin .fdiv (.var 1) (.var 3)) (.int 100)]] [3]
def f_law_next_rule : Fn := ⟨2, 6,
 [.set 2 (f_law_next_rule_c1),
 .set 3 (.ifx (.cmp .ne (.var 2) (.lst [])) (.ix (.var 2) (.call 10 [.var 0, .blt .len [.var 2]])) (.int 1)),
 .set 4 (.bin .fdiv (.var 1) (.var 3)),
 .set 5 (.bin .add (.int 1) (.call 10 [.var 0, .ix (.lst [.var 4, .blt .min2 [.var 4, .int 3]]) (.call 10 [.var 0, .int 2])])),
 .ret (.tup [.var 3, .var 4, .var 5, .call 41 [.var 0, .bin .add (.bin .mul (.var 3) (.bin .sub (.var 4) (.var 5))) (.int 1)]])]⟩
def f_law_ran_c1 : C := .comp (.ix (.var 2) (.bin .sub (.var 6) (.int 1))) (.nm 6) .seq [.blt .sorted [.bin .add (.var 4) (.var 5)]] [] [6]
def f_law_ran_b2 : List S := [.unp [4, 5] (.call 37 [.var 3, .call 17 [.var 0, .var 3]]),
 .set 2 (f_law_ran_c1)]
def f_law_ran : Fn := ⟨2, 7,
 [.set 2 (.blt .listRg2 [.int 1, .bin .add (.bin .mul (.ix (.ix (.var 1) (.int 0)) (.int 0)) (.ix (.ix (.var 1) (.int 0)) (.int 1))) (.int 1)]),
 .for (.nm 3) .seq [.var 1] f_law_ran_b2,
 .ret (.var 2)]⟩
def f_law_k06_c1 : C := .comp (.call 31 [.var 9]) (.nm 9) .seq [.var 2] [] [9]
def f_law_k06_b2 : List S := [.set 6 (.ix (.var 2) (.neg (.int 1))),
 .set 7 (.bin .add (.bin .mul (.ix (.var 6) (.int 0)) (.ix (.var 6) (.int 2))) (.ix (.var 6) (.int 3))),
 .set 8 (.call 53 [.var 1, .var 7]),
 .ite (.bop true [.cmp .eq (.bin .mul (.ix (.var 8) (.int 0)) (.ix (.var 8) (.int 1))) (.var 7), .cmp .le (.ix (.var 8) (.int 1)) (.int 100)]) [.set 2 (.bin .add (.var 2) (.tup [.var 8]))] [],
 .ite (.cmp .ne (.call 47 [.var 2]) (.blt .minl [f_law_k06_c1])) [.ret (.bl false)] [],
 .ite (.bop false [.cmp .gt (.call 48 [.var 2]) (.var 4), .cmp .gt (.call 47 [.var 2]) (.var 3)]) [.ret (.bl false)] [],
 .par 3 4 (.call 47 [.var 2]) (.call 48 [.var 2]),
 .set 10 (.call 54 [.var 1, .var 2]),
 .ite (.bop false [.cmp .ne (.sl (.var 10) none (some (.var 3))) (.blt .listRg2 [.int 1, .bin .add (.var 3) (.int 1)]), .cmp .gt (.ix (.var 10) (.neg (.int 1))) (.var 4)]) [.ret (.bl false)] [],
 .ite (.cmp .ne (.blt .len [.var 10]) (.call 23 [.ix (.var 2) (.neg (.int 1))])) [.ret (.bl false)] []]
def f_law_k06_b3 : List S := [.set 2 (.tup [.call 14 [.var 1, .int 400]]),
 .ite (.bop false [.cmp .gt (.ix (.ix (.var 2) (.int 0)) (.int 1)) (.int 100), .cmp .gt (.ix (.ix (.var 2) (.int 0)) (.int 0)) (.int 100)]) [.set 2 (.tup [.tup [.int 4, .int 20, .int 2, .int 3]])] [],
 .par 3 4 (.call 47 [.var 2]) (.call 48 [.var 2]),
 .ite (.bop false [.cmp .ne (.var 3) (.call 31 [.ix (.var 2) (.int 0)]), .cmp .ne (.var 4) (.call 32 [.ix (.var 2) (.int 0)])]) [.ret (.bl false)] [],
 .for (.nm 5) .rng1 [.int 4] f_law_k06_b2,
 .ite (.cmp .gt (.blt .len [.var 2]) (.int 1)) [.set 11 (.call 48 [.sl (.var 2) (some (.int 1)) none]),
 .set 12 (.call 36 [.ix (.var 2) (.int 0), .var 4]),
 .ite (.bop false [.cmp .isN (.var 12) (.non), .cmp .gt (.bin .add (.var 12) (.int 1)) (.var 11)]) [.ret (.bl false)] [],
 .ite (.bop true [.cmp .lt (.var 4) (.call 32 [.ix (.var 2) (.int 0)]), .cmp .le (.bin .add (.call 36 [.ix (.var 2) (.int 0), .bin .add (.var 4) (.int 1)]) (.int 1)) (.var 11)]) [.ret (.bl false)] []] []]
def f_law_k06 : Fn := ⟨1, 13,
 [.for (.nm 1) .seq [.call 9 [.var 0, .int 8]] f_law_k06_b3,
 .ite (.cmp .ne (.call 47 [.tup [.tup [.int 3, .int 8, .int 2, .int 2], .tup [.int 1, .int 8, .int 3, .int 0]]]) (.int 3)) [.ret (.bl false)] [],
 .ret (.cmp .eq (.call 48 [.tup [.tup [.int 3, .int 8, .int 2, .int 2], .tup [.int 1, .int 8, .int 3, .int 0]]]) (.int 3))]⟩
def f_need_set : Fn := ⟨2, 2,
 [.ite (.not1 (.call 2 [.var 1, .int 1, .bin .mul (.ix (.var 0) (.int 0)) (.ix (.var 0) (.int 1))])) [.raise 5] []]⟩
def f_bounds_c1 : C := .comp (.call 27 [.var 0, .var 1]) (.nm 1) .rng2 [.bin .add (.ix (.var 0) (.int 3)) (.int 1), .bin .add (.bin .mul (.ix (.var 0) (.int 0)) (.bin .sub (.ix (.var 0) (.int 1)) (.ix (.var 0) (.int 2)))) (.int 1)] [] [1]
def f_bounds : Fn := ⟨1, 2,
 [.ret (f_bounds_c1)]⟩
def f_others_of_c1 : C := .comp (.var 2) (.nm 2) .rng2 [.int 1, .bin .add (.bin .mul (.ix (.var 0) (.int 0)) (.ix (.var 0) (.int 1))) (.int 1)] [.cmp .notin (.var 2) (.var 1)] [2]
def f_others_of : Fn := ⟨2, 3,
 [.ret (f_others_of_c1)]⟩
def f_meets_c1 : C := .comp (.cmp .ge (.var 2) (.var 3)) (.tp [2, 3]) .zip [.var 0, .var 1] [] [2, 3]
def f_meets : Fn := ⟨2, 4,
 [.ret (.blt .alll [f_meets_c1])]⟩
def f_all_bounds_c1 : C := .comp (.call 27 [.var 0, .var 1]) (.nm 1) .rng2 [.int 1, .bin .add (.bin .mul (.ix (.var 0) (.int 0)) (.bin .sub (.ix (.var 0) (.int 1)) (.ix (.var 0) (.int 2)))) (.int 1)] [] [1]
def f_all_bounds : Fn := ⟨1, 2,
 [.ret (f_all_bounds_c1)]⟩
def f_set_fits : Fn := ⟨2, 2,
 [.ret (.bop true [.cmp .eq (.blt .len [.var 1]) (.call 22 [.var 0]), .call 59 [.call 58 [.var 0, .var 1], .call 57 [.var 0]]])]⟩
def f_can_be_direct : Fn := ⟨2, 2,
 [.drop (.call 203 [.var 0, .int 60]),
 .drop (.call 56 [.var 0, .var 1]),
 .ret (.bop true [.cmp .eq (.blt .len [.var 1]) (.bin .mul (.ix (.var 0) (.int 0)) (.ix (.var 0) (.int 2))), .call 59 [.call 58 [.var 0, .var 1], .call 60 [.var 0]]])]⟩
def f_can_qualify : Fn := ⟨2, 2,
 [.drop (.call 203 [.var 0, .int 60]),
 .drop (.call 56 [.var 0, .var 1]),
 .ret (.call 61 [.var 0, .var 1])]⟩
def f_ways_from_b1 : List S := [.put (.var 2) (.tup [.bin .add (.var 0) (.int 1), .var 3]) (.blt .intOf [.cmp .eq (.var 3) (.blt .len [.var 1])])]
def f_ways_from_b2 : List S := [.set 5 (.ix (.var 2) (.tup [.bin .add (.var 4) (.int 1), .var 3])),
 .ite (.bop true [.cmp .lt (.var 3) (.blt .len [.var 1]), .cmp .ge (.var 4) (.ix (.var 1) (.var 3))]) [.set 5 (.bin .add (.var 5) (.ix (.var 2) (.tup [.bin .add (.var 4) (.int 1), .bin .add (.var 3) (.int 1)])))] [],
 .put (.var 2) (.tup [.var 4, .var 3]) (.var 5)]
def f_ways_from_b3 : List S := [.for (.nm 3) .rng1 [.bin .add (.blt .len [.var 1]) (.int 1)] f_ways_from_b2]
def f_ways_from : Fn := ⟨2, 6,
 [.set 2 (.newt),
 .for (.nm 3) .rng1 [.bin .add (.blt .len [.var 1]) (.int 1)] f_ways_from_b1,
 .for (.nm 4) .rng3 [.var 0, .int 0, .neg (.int 1)] f_ways_from_b3,
 .frz 2,
 .ret (.var 2)]⟩
def f_count_direct : Fn := ⟨1, 1,
 [.drop (.call 203 [.var 0, .int 60]),
 .ret (.ix (.call 64 [.bin .mul (.ix (.var 0) (.int 0)) (.ix (.var 0) (.int 1)), .call 60 [.var 0]]) (.tup [.int 1, .int 0]))]⟩
def f_count_sets : Fn := ⟨1, 1,
 [.drop (.call 203 [.var 0, .int 60]),
 .ret (.ix (.call 64 [.bin .mul (.ix (.var 0) (.int 0)) (.ix (.var 0) (.int 1)), .call 57 [.var 0]]) (.tup [.int 1, .int 0]))]⟩
def f_draw_with_c1 : C := .comp (.var 8) (.nm 8) .seq [.var 1] [.chain .le .lt (.bin .sub (.var 7) (.var 5)) (.var 8) (.var 7)] [8]
def f_draw_with_c2 : C := .comp (.var 8) (.nm 8) .seq [.var 1] [.cmp .notin (.var 8) (.var 6)] [8]
def f_draw_with_b3 : List S := [.set 12 (.bin .add (.sl (.var 9) (some (.bin .mul (.var 11) (.var 4))) (some (.bin .mul (.bin .add (.var 11) (.int 1)) (.var 4)))) (.sl (.var 6) (some (.bin .mul (.var 11) (.bin .sub (.var 3) (.var 4)))) (some (.bin .mul (.bin .add (.var 11) (.int 1)) (.bin .sub (.var 3) (.var 4)))))),
 .set 10 (.bin .add (.var 10) (.tup [.blt .tuple [.blt .sorted [.var 12]]]))]
def f_draw_with : Fn := ⟨2, 13,
 [.drop (.call 203 [.var 0, .int 60]),
 .drop (.call 56 [.var 0, .var 1]),
 .ite (.not1 (.call 61 [.var 0, .var 1])) [.ret (.non)] [],
 .unp [2, 3, 4, 5] (.var 0),
 .set 6 (.call 58 [.var 0, .var 1]),
 .set 7 (.ifx (.cmp .ne (.var 6) (.lst [])) (.ix (.var 6) (.int 0)) (.bin .add (.bin .mul (.var 2) (.var 3)) (.int 1))),
 .set 6 (.bin .add (f_draw_with_c1) (.var 6)),
 .set 9 (f_draw_with_c2),
 .set 10 (.tup []),
 .for (.nm 11) .rng1 [.var 2] f_draw_with_b3,
 .ret (.var 10)]⟩
def f_law_up : Fn := ⟨2, 2,
 [.ret (.bin .add (.var 1) (.bin .mul (.ix (.var 0) (.int 2)) (.bin .sub (.int 0) (.bin .fdiv (.bin .sub (.int 0) (.var 1)) (.bin .sub (.ix (.var 0) (.int 1)) (.ix (.var 0) (.int 2)))))))]⟩
def f_law_kept_c1 : C := .comp (.var 4) (.nm 4) .rng2 [.int 1, .bin .add (.bin .mul (.ix (.var 0) (.int 0)) (.ix (.var 0) (.int 1))) (.int 1)] [.cmp .notin (.var 4) (.var 1)] [4]
def f_law_kept_b2 : List S := [.ite (.cmp .lt (.var 4) (.call 69 [.var 0, .bin .add (.var 2) (.var 5)])) [.ret (.bl false)] []]
def f_law_kept : Fn := ⟨3, 6,
 [.set 3 (f_law_kept_c1),
 .for (.tp [5, 4]) .enum [.var 3] f_law_kept_b2,
 .ret (.bl true)]⟩
def f_law_k08_c1 : C := .comp (.var 10) (.nm 10) .seq [.var 3] [.cmp .notin (.var 10) (.var 7)] [10]
def f_law_k08_c2 : C := .comp (.var 10) (.nm 10) .seq [.var 7] [.cmp .ne (.var 10) (.var 11)] [10]
def f_law_k08_b3 : List S := [.unp [5, 6] (.call 37 [.var 2, .call 17 [.var 1, .var 2]]),
 .set 7 (.blt .tuple [.blt .sorted [.bin .add (.var 5) (.var 6)]]),
 .ite (.bop false [.cmp .notB (.call 63 [.var 2, .var 7]) (.bl true), .cmp .notB (.call 62 [.var 2, .blt .tuple [.var 5]]) (.bl true)]) [.ret (.bl false)] [],
 .set 8 (.call 68 [.var 2, .var 7]),
 .ite (.bop false [.cmp .isN (.var 8) (.non), .not1 (.call 5 [.var 2, .var 8])]) [.ret (.bl false)] [],
 .ite (.cmp .ne (.blt .tuple [.blt .sorted [.bin .add (.ix (.call 24 [.var 2, .var 8]) (.int 0)) (.ix (.call 24 [.var 2, .var 8]) (.int 1))]]) (.var 7)) [.ret (.bl false)] [],
 .set 9 (f_law_k08_c1),
 .ite (.cmp .ne (.var 9) (.lst [])) [.unp [11, 12] (.tup [.ix (.var 7) (.call 10 [.var 1, .blt .len [.var 7]]), .ix (.var 9) (.call 10 [.var 1, .blt .min2 [.int 3, .blt .len [.var 9]]])]),
 .set 13 (.blt .tuple [.blt .sorted [.bin .add (f_law_k08_c2) (.lst [.var 12])]]),
 .set 14 (.call 70 [.var 2, .var 13, .bin .add (.ix (.var 2) (.int 3)) (.int 1)]),
 .ite (.bop false [.cmp .ne (.call 63 [.var 2, .var 13]) (.var 14), .cmp .ne (.cmp .isN (.call 68 [.var 2, .var 13]) (.non)) (.not1 (.var 14))]) [.ret (.bl false)] []] [],
 .ite (.bop true [.cmp .ne (.var 9) (.lst []), .cmp .ne (.var 6) (.lst [])]) [.set 13 (.blt .tuple [.blt .sorted [.bin .add (.var 5) (.lst [.ix (.var 9) (.call 10 [.var 1, .blt .len [.var 9]])])]]),
 .ite (.cmp .ne (.call 63 [.var 2, .var 13]) (.bop true [.cmp .eq (.blt .len [.var 13]) (.call 23 [.var 2]), .call 70 [.var 2, .var 13, .bin .add (.ix (.var 2) (.int 3)) (.int 1)]])) [.ret (.bl false)] []] [],
 .ite (.cmp .lt (.ix (.var 2) (.int 2)) (.ix (.var 2) (.int 1))) [.set 13 (.blt .tuple [.blt .sorted [.sl (.call 15 [.var 1, .var 3]) none (some (.bin .mul (.ix (.var 2) (.int 0)) (.ix (.var 2) (.int 2))))]]),
 .ite (.cmp .ne (.call 62 [.var 2, .var 13]) (.call 70 [.var 2, .var 13, .int 1])) [.ret (.bl false)] []] []]
def f_law_k08_b4 : List S := [.set 2 (.call 14 [.var 1, .int 60]),
 .set 3 (.blt .listRg2 [.int 1, .bin .add (.bin .mul (.ix (.var 2) (.int 0)) (.ix (.var 2) (.int 1))) (.int 1)]),
 .for (.nm 4) .rng1 [.int 4] f_law_k08_b3]
def f_law_k08 : Fn := ⟨1, 15,
 [.for (.nm 1) .seq [.call 9 [.var 0, .int 8]] f_law_k08_b4,
 .ite (.cmp .notN (.call 68 [.tup [.int 2, .int 3, .int 1, .int 1], .tup [.int 1, .int 2, .int 5]]) (.non)) [.ret (.bl false)] [],
 .ret (.cmp .inn (.call 68 [.tup [.int 2, .int 1, .int 1, .int 0], .tup [.int 1, .int 2]]) (.tup [.tup [.tup [.int 1], .tup [.int 2]], .tup [.tup [.int 2], .tup [.int 1]]]))]⟩
def f_set_at_b1 : List S := [.ite (.cmp .lt (.var 1) (.ix (.var 2) (.tup [.bin .add (.var 5) (.int 1), .var 4]))) [.set 3 (.bin .add (.var 3) (.tup [.var 5]))] [.par 1 4 (.bin .sub (.var 1) (.ix (.var 2) (.tup [.bin .add (.var 5) (.int 1), .var 4]))) (.bin .add (.var 4) (.int 1))]]
def f_set_at : Fn := ⟨2, 6,
 [.drop (.call 203 [.var 0, .int 60]),
 .set 2 (.call 64 [.bin .mul (.ix (.var 0) (.int 0)) (.ix (.var 0) (.int 1)), .call 57 [.var 0]]),
 .ite (.not1 (.call 0 [.var 1, .int 0, .bin .sub (.ix (.var 2) (.tup [.int 1, .int 0])) (.int 1)])) [.raise 6] [],
 .unp [3, 4] (.tup [.tup [], .int 0]),
 .for (.nm 5) .rng2 [.int 1, .bin .add (.bin .mul (.ix (.var 0) (.int 0)) (.ix (.var 0) (.int 1))) (.int 1)] f_set_at_b1,
 .ret (.var 3)]⟩
def f_number_of_b1 : List S := [.ite (.cmp .notin (.var 5) (.var 1)) [.par 3 4 (.bin .add (.var 3) (.ix (.var 2) (.tup [.bin .add (.var 5) (.int 1), .var 4]))) (.bin .add (.var 4) (.int 1))] []]
def f_number_of : Fn := ⟨2, 6,
 [.drop (.call 203 [.var 0, .int 60]),
 .drop (.call 56 [.var 0, .var 1]),
 .ite (.not1 (.call 61 [.var 0, .var 1])) [.raise 5] [],
 .set 2 (.call 64 [.bin .mul (.ix (.var 0) (.int 0)) (.ix (.var 0) (.int 1)), .call 57 [.var 0]]),
 .unp [3, 4] (.tup [.int 0, .int 0]),
 .for (.nm 5) .rng2 [.int 1, .bin .add (.bin .mul (.ix (.var 0) (.int 0)) (.ix (.var 0) (.int 1))) (.int 1)] f_number_of_b1,
 .ret (.var 3)]⟩
def f_law_good_c1 : C := .comp (.var 3) (.nm 3) .rng2 [.int 1, .bin .add (.bin .mul (.ix (.var 0) (.int 0)) (.ix (.var 0) (.int 1))) (.int 1)] [.cmp .notin (.var 3) (.var 1)] [3]
def f_law_good_b2 : List S := [.ite (.cmp .lt (.var 3) (.call 69 [.var 0, .bin .add (.bin .add (.ix (.var 0) (.int 3)) (.int 1)) (.var 4)])) [.ret (.bl false)] []]
def f_law_good : Fn := ⟨2, 5,
 [.set 2 (f_law_good_c1),
 .for (.tp [4, 3]) .enum [.var 2] f_law_good_b2,
 .ret (.bl true)]⟩
def f_law_table_b1 : List S := [.put (.var 4) (.var 6) (.bin .add (.get (.var 4) (.var 6) (.int 0)) (.ix (.var 2) (.var 5)))]
def f_law_table_b2 : List S := [.for (.nm 6) .rng2 [.blt .max2 [.var 3, .bin .add (.var 5) (.int 1)], .bin .add (.var 1) (.int 1)] f_law_table_b1]
def f_law_table_b3 : List S := [.set 4 (.newk),
 .for (.nm 5) .keys [.var 2] f_law_table_b2,
 .frz 4,
 .set 2 (.var 4)]
def f_law_table_c4 : C := .comp (.ix (.var 2) (.var 5)) (.nm 5) .seq [.blt .sorted [.var 2]] [] [5]
def f_law_table : Fn := ⟨2, 7,
 [.set 2 (.newkv 0 1),
 .frz 2,
 .for (.nm 3) .seq [.var 0] f_law_table_b3,
 .ret (.blt .suml [f_law_table_c4])]⟩
def f_law_k10_c1 : C := .comp (.call 69 [.var 2, .var 6]) (.nm 6) .rng2 [.int 1, .bin .add (.var 4) (.int 1)] [] [6]
def f_law_k10_c2 : C := .comp (.var 9) (.nm 9) .rng2 [.int 1, .bin .add (.var 3) (.int 1)] [.cmp .notin (.var 9) (.var 8)] [9]
def f_law_k10_b3 : List S := [.set 2 (.call 14 [.var 1, .int 60]),
 .set 3 (.bin .mul (.ix (.var 2) (.int 0)) (.ix (.var 2) (.int 1))),
 .set 4 (.bin .mul (.ix (.var 2) (.int 0)) (.bin .sub (.ix (.var 2) (.int 1)) (.ix (.var 2) (.int 2)))),
 .set 5 (f_law_k10_c1),
 .set 7 (.call 66 [.var 2]),
 .ite (.cmp .ne (.var 7) (.call 76 [.sl (.var 5) (some (.ix (.var 2) (.int 3))) none, .var 3])) [.ret (.bl false)] [],
 .ite (.cmp .ne (.call 65 [.var 2]) (.call 76 [.var 5, .var 3])) [.ret (.bl false)] [],
 .ite (.cmp .ne (.call 72 [.var 2, .int 0]) (.blt .tupleRg2 [.int 1, .bin .add (.call 23 [.var 2]) (.int 1)])) [.ret (.bl false)] [],
 .set 8 (.call 72 [.var 2, .bin .sub (.var 7) (.int 1)]),
 .ite (.cmp .ne (f_law_k10_c2) (.sl (.var 5) (some (.ix (.var 2) (.int 3))) none)) [.ret (.bl false)] [],
 .ite (.bop true [.cmp .ne (.call 32 [.var 2]) (.ix (.var 8) (.neg (.int 1))), .cmp .ne (.call 32 [.var 2]) (.call 33 [.var 2])]) [.ret (.bl false)] [],
 .ite (.bop true [.cmp .ne (.sl (.var 5) (some (.ix (.var 2) (.int 3))) none) (.lst []), .cmp .ne (.call 31 [.var 2]) (.bin .sub (.ix (.var 5) (.ix (.var 2) (.int 3))) (.int 1))]) [.ret (.bl false)] [],
 .set 10 (.bin .add (.sl (.var 2) none (some (.int 3))) (.tup [.int 0])),
 .ite (.bop false [.cmp .ne (.call 66 [.var 10]) (.call 65 [.var 10]), .cmp .ne (.call 65 [.var 10]) (.call 65 [.var 2])]) [.ret (.bl false)] [],
 .ite (.cmp .lt (.ix (.var 2) (.int 3)) (.var 4)) [.set 11 (.bin .add (.sl (.var 2) none (some (.int 3))) (.tup [.bin .add (.ix (.var 2) (.int 3)) (.int 1)])),
 .ite (.bop false [.cmp .lt (.call 31 [.var 11]) (.call 31 [.var 2]), .cmp .gt (.call 66 [.var 11]) (.call 66 [.var 2])]) [.ret (.bl false)] []] []]
def f_law_k10 : Fn := ⟨1, 12,
 [.for (.nm 1) .seq [.call 9 [.var 0, .int 8]] f_law_k10_b3,
 .ret (.bop true [.cmp .eq (.call 66 [.tup [.int 1, .int 60, .int 30, .int 0]]) (.int 1), .cmp .eq (.call 66 [.tup [.int 30, .int 2, .int 1, .int 0]]) (.int 3814986502092304)])]⟩
def f_filled : Fn := ⟨2, 2,
 [.ret (.blt .tuple [.blt .sorted [.bin .add (.bin .add (.sl (.var 0) none (some (.var 1))) (.tup [.bin .add (.ix (.var 0) (.var 1)) (.int 1)])) (.sl (.var 0) (some (.bin .add (.var 1) (.int 1))) none)]])]⟩
def f_kind_of_c1 : C := .comp (.blt .max2 [.int 0, .bin .sub (.var 3) (.ix (.var 0) (.int 2))]) (.nm 3) .seq [.var 1] [] [3]
def f_kind_of : Fn := ⟨3, 4,
 [.ite (.cmp .lt (.ix (.var 1) (.var 2)) (.ix (.var 0) (.int 2))) [.ret (.int 0)] [],
 .ret (.bin .add (.blt .suml [f_kind_of_c1]) (.int 1))]⟩
def f_need_groups_c1 : C := .comp (.call 2 [.var 3, .int 1, .bin .mul (.ix (.var 0) (.int 0)) (.ix (.var 0) (.int 1))]) (.nm 3) .seq [.var 1] [] [3]
def f_need_groups_c2 : C := .comp2 (.var 5) (.nm 3) .seq [.var 1] [] (.nm 5) .seq [.var 3] [] [3, 5] [5]
def f_need_groups_c3 : C := .comp (.chain .le .le (.int 1) (.blt .len [.var 3]) (.ix (.var 0) (.int 1))) (.nm 3) .seq [.var 1] [] [3]
def f_need_groups : Fn := ⟨2, 6,
 [.set 2 (.bop true [.blt .isTuple [.var 1], .cmp .le (.blt .len [.var 1]) (.blt .min2 [.int 3, .ix (.var 0) (.int 0)])]),
 .ite (.bop false [.not1 (.var 2), .not1 (.blt .alll [f_need_groups_c1])]) [.raise 7] [],
 .set 4 (f_need_groups_c2),
 .ite (.bop false [.not1 (.blt .alll [f_need_groups_c3]), .cmp .ne (.blt .lenset [.var 4]) (.blt .len [.var 4])]) [.raise 7] []]⟩
def f_room_for : Fn := ⟨5, 5,
 [.ite (.cmp .lt (.var 4) (.blt .len [.var 1])) [.ret (.cmp .lt (.bin .add (.ix (.var 1) (.var 4)) (.ix (.var 3) (.var 4))) (.ix (.var 0) (.int 1)))] [],
 .ret (.cmp .lt (.ix (.var 2) (.bin .sub (.var 4) (.blt .len [.var 1]))) (.ix (.var 0) (.int 1)))]⟩
def f_after_one : Fn := ⟨3, 3,
 [.ite (.cmp .lt (.var 2) (.blt .len [.var 0])) [.ret (.tup [.bin .add (.bin .add (.sl (.var 0) none (some (.var 2))) (.tup [.bin .add (.ix (.var 0) (.var 2)) (.int 1)])) (.sl (.var 0) (some (.bin .add (.var 2) (.int 1))) none), .var 1])] [],
 .ret (.tup [.var 0, .call 78 [.var 1, .bin .sub (.var 2) (.blt .len [.var 0])]])]⟩
def f_law_groups_b1 : List S := [.set 5 (.bin .add (.int 1) (.call 10 [.var 0, .ix (.var 1) (.int 1)])),
 .ite (.cmp .le (.var 5) (.blt .len [.var 2])) [.par 3 2 (.bin .add (.var 3) (.tup [.blt .tuple [.blt .sorted [.sl (.var 2) none (some (.var 5))]]])) (.sl (.var 2) (some (.var 5)) none)] []]
def f_law_groups : Fn := ⟨2, 6,
 [.par 2 3 (.call 15 [.var 0, .blt .listRg2 [.int 1, .bin .add (.bin .mul (.ix (.var 1) (.int 0)) (.ix (.var 1) (.int 1))) (.int 1)]]) (.tup []),
 .for (.nm 4) .rng1 [.blt .min2 [.ix (.var 1) (.int 0), .call 10 [.var 0, .int 4]]] f_law_groups_b1,
 .ret (.var 3)]⟩
def f_law_keeps_c1 : C := .comp (.var 7) (.nm 7) .seq [.var 3] [.cmp .notin (.var 7) (.var 6)] [7]
def f_law_keeps_c2 : C := .comp (.var 5) (.tp [5, 6]) .enum [.var 0] [.cmp .eq (f_law_keeps_c1) (.lst [])] [5, 6]
def f_law_keeps_b3 : List S := [.set 4 (f_law_keeps_c2),
 .ite (.bop false [.cmp .eq (.var 4) (.lst []), .cmp .inn (.ix (.var 4) (.int 0)) (.var 2)]) [.ret (.bl false)] [],
 .app (.var 2) (.ix (.var 4) (.int 0))]
def f_law_keeps : Fn := ⟨2, 8,
 [.set 2 (.ownL []),
 .for (.nm 3) .seq [.var 1] f_law_keeps_b3,
 .ret (.bl true)]⟩
def f_missing_runners_c1 : C := .comp (.var 3) (.nm 3) .rng2 [.int 1, .bin .add (.bin .mul (.ix (.var 0) (.int 0)) (.ix (.var 0) (.int 1))) (.int 1)] [.cmp .notin (.var 3) (.var 1)] [3]
def f_missing_runners_c2 : C := .comp (.var 3) (.nm 3) .seq [.var 2] [.call 61 [.var 0, .blt .tuple [.blt .sorted [.bin .add (.var 1) (.tup [.var 3])]]]] [3]
def f_missing_runners : Fn := ⟨2, 4,
 [.drop (.call 203 [.var 0, .int 60]),
 .drop (.call 56 [.var 0, .var 1]),
 .ite (.cmp .ne (.blt .len [.var 1]) (.bin .sub (.call 22 [.var 0]) (.int 1))) [.raise 5] [],
 .set 2 (f_missing_runners_c1),
 .ret (f_missing_runners_c2)]⟩
def f_fitting_rules_b1 : List S := [.set 6 (.tup [.var 3, .var 4, .var 5, .bin .sub (.blt .len [.var 1]) (.bin .mul (.var 3) (.var 5))]),
 .ite (.bop true [.chain .le .le (.int 0) (.ix (.var 6) (.int 3)) (.bin .mul (.var 3) (.bin .sub (.var 4) (.var 5))), .call 61 [.var 6, .var 1]]) [.app (.var 2) (.var 6)] []]
def f_fitting_rules_b2 : List S := [.ite (.cmp .eq (.bin .mod (.var 0) (.var 3)) (.int 0)) [.set 4 (.bin .fdiv (.var 0) (.var 3)),
 .for (.nm 5) .rng2 [.int 1, .bin .add (.var 4) (.int 1)] f_fitting_rules_b1] []]
def f_fitting_rules : Fn := ⟨2, 7,
 [.ite (.not1 (.call 0 [.var 0, .int 1, .int 60])) [.raise 6] [],
 .ite (.bop false [.not1 (.call 2 [.var 1, .int 1, .var 0]), .cmp .eq (.var 1) (.tup [])]) [.raise 5] [],
 .set 2 (.ownL []),
 .for (.nm 3) .rng2 [.int 1, .bin .add (.var 0) (.int 1)] f_fitting_rules_b2,
 .frz 2,
 .ret (.blt .sorted [.var 2])]⟩
def f_law_good_k15_c1 : C := .comp (.var 3) (.nm 3) .rng2 [.int 1, .bin .add (.bin .mul (.ix (.var 0) (.int 0)) (.ix (.var 0) (.int 1))) (.int 1)] [.cmp .notin (.var 3) (.var 1)] [3]
def f_law_good_k15_b2 : List S := [.ite (.cmp .lt (.var 3) (.call 69 [.var 0, .bin .add (.bin .add (.ix (.var 0) (.int 3)) (.int 1)) (.var 4)])) [.ret (.bl false)] []]
def f_law_good_k15 : Fn := ⟨2, 5,
 [.ite (.cmp .ne (.blt .len [.var 1]) (.bin .add (.bin .mul (.ix (.var 0) (.int 0)) (.ix (.var 0) (.int 2))) (.ix (.var 0) (.int 3)))) [.ret (.bl false)] [],
 .set 2 (f_law_good_k15_c1),
 .for (.tp [4, 3]) .enum [.var 2] f_law_good_k15_b2,
 .ret (.bl true)]⟩
def f_need_pair : Fn := ⟨2, 2,
 [.drop (.call 3 [.var 0]),
 .drop (.call 3 [.var 1]),
 .ite (.bop false [.cmp .ne (.bin .mul (.ix (.var 0) (.int 0)) (.ix (.var 0) (.int 1))) (.bin .mul (.ix (.var 1) (.int 0)) (.ix (.var 1) (.int 1))), .cmp .ne (.call 22 [.var 0]) (.call 22 [.var 1])]) [.raise 8] []]⟩
def f_covers_c1 : C := .comp (.cmp .le (.var 2) (.var 3)) (.tp [2, 3]) .zip [.call 57 [.var 0], .call 57 [.var 1]] [] [2, 3]
def f_covers : Fn := ⟨2, 4,
 [.ret (.blt .alll [f_covers_c1])]⟩
def f_lets_all : Fn := ⟨2, 2,
 [.drop (.call 101 [.var 0, .var 1]),
 .ret (.call 102 [.var 0, .var 1])]⟩
def f_telling_set_c1 : C := .comp (.var 3) (.nm 3) .rng2 [.int 1, .bin .add (.bin .mul (.ix (.var 1) (.int 0)) (.ix (.var 1) (.int 1))) (.int 1)] [.cmp .notin (.var 3) (.var 2)] [3]
def f_telling_set : Fn := ⟨2, 4,
 [.drop (.call 101 [.var 0, .var 1]),
 .ite (.call 102 [.var 0, .var 1]) [.ret (.non)] [],
 .set 2 (.call 57 [.var 1]),
 .ret (.blt .tuple [f_telling_set_c1])]⟩
def f_law_others_b1 : List S := [.ite (.chain .le .le (.int 0) (.bin .sub (.var 1) (.bin .mul (.var 3) (.var 5))) (.bin .mul (.var 3) (.bin .sub (.var 4) (.var 5)))) [.app (.var 2) (.tup [.var 3, .var 4, .var 5, .bin .sub (.var 1) (.bin .mul (.var 3) (.var 5))])] []]
def f_law_others_b2 : List S := [.ite (.cmp .eq (.bin .mod (.var 0) (.var 3)) (.int 0)) [.set 4 (.bin .fdiv (.var 0) (.var 3)),
 .for (.nm 5) .rng2 [.int 1, .bin .add (.var 4) (.int 1)] f_law_others_b1] []]
def f_law_others : Fn := ⟨2, 6,
 [.set 2 (.ownL []),
 .for (.nm 3) .rng2 [.int 1, .bin .add (.var 0) (.int 1)] f_law_others_b2,
 .frz 2,
 .ret (.var 2)]⟩
def f_law_k17_b1 : List S := [.par 5 6 (.ix (.var 3) (.call 10 [.var 1, .blt .len [.var 3]])) (.ix (.var 3) (.call 10 [.var 1, .blt .len [.var 3]])),
 .set 7 (.call 104 [.var 5, .var 6]),
 .ite (.bop false [.cmp .ne (.call 103 [.var 5, .var 6]) (.cmp .isN (.var 7) (.non)), .not1 (.call 103 [.var 5, .var 5])]) [.ret (.bl false)] [],
 .ite (.cmp .notN (.var 7) (.non)) [.ite (.bop false [.cmp .notB (.call 63 [.var 6, .var 7]) (.bl true), .cmp .notB (.call 63 [.var 5, .var 7]) (.bl false)]) [.ret (.bl false)] []] [.ite (.bop false [.cmp .gt (.call 31 [.var 5]) (.call 31 [.var 6]), .cmp .lt (.call 66 [.var 5]) (.call 66 [.var 6])]) [.ret (.bl false)] [],
 .ite (.cmp .lt (.call 72 [.var 5, .bin .sub (.call 66 [.var 5]) (.int 1)]) (.call 72 [.var 6, .bin .sub (.call 66 [.var 6]) (.int 1)])) [.ret (.bl false)] []],
 .ite (.bop true [.call 103 [.var 6, .var 2], .call 103 [.var 5, .var 6], .not1 (.call 103 [.var 5, .var 2])]) [.ret (.bl false)] [],
 .ite (.bop true [.call 103 [.var 5, .var 6], .call 103 [.var 6, .var 5], .cmp .ne (.call 66 [.var 5]) (.call 66 [.var 6])]) [.ret (.bl false)] [],
 .set 8 (.call 41 [.var 1, .call 66 [.var 6]]),
 .ite (.bop true [.cmp .isN (.var 7) (.non), .not1 (.call 63 [.var 5, .call 72 [.var 6, .var 8]])]) [.ret (.bl false)] []]
def f_law_k17_b2 : List S := [.set 2 (.call 14 [.var 1, .int 60]),
 .set 3 (.call 105 [.bin .mul (.ix (.var 2) (.int 0)) (.ix (.var 2) (.int 1)), .call 23 [.var 2]]),
 .ite (.cmp .notin (.var 2) (.var 3)) [.ret (.bl false)] [],
 .for (.nm 4) .rng1 [.int 6] f_law_k17_b1,
 .set 9 (.tup [.int 1, .bin .mul (.ix (.var 2) (.int 0)) (.ix (.var 2) (.int 1)), .call 23 [.var 2], .int 0]),
 .ite (.bop true [.cmp .le (.bin .mul (.ix (.var 2) (.int 0)) (.ix (.var 2) (.int 1))) (.int 100), .not1 (.call 103 [.var 2, .var 9])]) [.ret (.bl false)] []]
def f_law_k17 : Fn := ⟨1, 10,
 [.for (.nm 1) .seq [.call 9 [.var 0, .int 8]] f_law_k17_b2,
 .ite (.cmp .notB (.call 103 [.tup [.int 4, .int 3, .int 1, .int 2], .tup [.int 2, .int 6, .int 2, .int 2]]) (.bl true)) [.ret (.bl false)] [],
 .ret (.cmp .isB (.call 103 [.tup [.int 2, .int 6, .int 2, .int 2], .tup [.int 4, .int 3, .int 1, .int 2]]) (.bl false))]⟩
def f_fates_c1 : C := .comp2 (.var 9) (.nm 8) .seq [.var 1] [] (.nm 9) .seq [.var 8] [] [8, 9] [9]
def f_fates_c2 : C := .comp2 (.var 9) (.nm 8) .seq [.var 1] [] (.nm 9) .seq [.sl (.var 8) none (some (.var 4))] [] [8, 9] [9]
def f_fates_c3 : C := .comp2 (.var 9) (.nm 8) .seq [.var 1] [] (.nm 9) .seq [.sl (.var 8) (some (.var 4)) none] [] [8, 9] [9]
def f_fates_c4 : C := .comp (.var 16) (.nm 16) .seq [.var 11] [.cmp .lt (.var 16) (.var 9)] [16]
def f_fates_b5 : List S := [.set 15 (.blt .len [f_fates_c4]),
 .set 17 (.bin .add (.var 15) (.blt .max2 [.int 0, .bin .sub (.var 14) (.bin .mul (.var 6) (.var 4))])),
 .ite (.cmp .inn (.var 9) (.var 11)) [.ite (.cmp .lt (.bin .add (.var 15) (.call 34 [.var 0, .var 14])) (.var 5)) [.set 12 (.bin .add (.var 12) (.lst [.var 9]))] [.ite (.cmp .ge (.var 17) (.var 5)) [.app (.var 13) (.var 9)] []]] [.ite (.cmp .notin (.var 9) (.var 7)) [.set 18 (.call 34 [.var 0, .bin .add (.var 14) (.int 1)]),
 .ite (.bop false [.cmp .eq (.var 18) (.int 0), .cmp .le (.bin .add (.var 15) (.var 18)) (.var 5)]) [.set 12 (.bin .add (.var 12) (.lst [.var 9]))] [.ite (.bop true [.cmp .gt (.bin .add (.var 14) (.int 1)) (.bin .add (.bin .mul (.bin .sub (.var 6) (.int 1)) (.var 3)) (.var 4)), .cmp .ge (.var 17) (.var 5)]) [.app (.var 13) (.var 9)] []],
 .set 14 (.bin .add (.var 14) (.int 1))] []]]
def f_fates : Fn := ⟨2, 19,
 [.unp [2, 3, 4, 5] (.var 0),
 .set 6 (.bin .sub (.var 2) (.blt .len [.var 1])),
 .set 7 (f_fates_c1),
 .set 10 (f_fates_c2),
 .set 11 (f_fates_c3),
 .par3 12 13 14 (.var 10) (.ownL []) (.int 0),
 .for (.nm 9) .rng2 [.int 1, .bin .add (.bin .mul (.var 2) (.var 3)) (.int 1)] f_fates_b5,
 .frz 13,
 .ret (.tup [.blt .tuple [.blt .sorted [.var 12]], .blt .tuple [.var 13]])]⟩
def f_has_run_c1 : C := .comp (.cmp .inn (.var 1) (.var 2)) (.nm 2) .seq [.var 0] [] [2]
def f_has_run : Fn := ⟨2, 3,
 [.ret (.blt .anyl [f_has_run_c1])]⟩
def f_law_left_b1 : List S := [.set 2 (.bin .add (.var 2) (.blt .list [.var 3]))]
def f_law_left_c2 : C := .comp (.var 5) (.nm 5) .rng2 [.int 1, .bin .add (.bin .mul (.ix (.var 0) (.int 0)) (.ix (.var 0) (.int 1))) (.int 1)] [.cmp .notin (.var 5) (.var 2)] [5]
def f_law_left_b3 : List S := [.ite (.cmp .lt (.blt .len [.ix (.var 8) (.var 9)]) (.ix (.var 0) (.int 1))) [.app (.var 7) (.bin .add (.bin .add (.sl (.var 8) none (some (.var 9))) (.tup [.bin .add (.ix (.var 8) (.var 9)) (.tup [.var 5])])) (.sl (.var 8) (some (.bin .add (.var 9) (.int 1))) none))] []]
def f_law_left_b4 : List S := [.for (.nm 9) .rng2 [.blt .len [.var 1], .ix (.var 0) (.int 0)] f_law_left_b3]
def f_law_left_b5 : List S := [.set 7 (.ownL []),
 .for (.nm 8) .seq [.var 6] f_law_left_b4,
 .frz 7,
 .set 6 (.var 7)]
def f_law_left : Fn := ⟨2, 10,
 [.set 2 (.lst []),
 .for (.nm 3) .seq [.var 1] f_law_left_b1,
 .set 4 (f_law_left_c2),
 .set 6 (.lst [.bin .add (.var 1) (.bin .mul (.tup [.tup []]) (.bin .sub (.ix (.var 0) (.int 0)) (.blt .len [.var 1])))]),
 .for (.nm 5) .seq [.var 4] f_law_left_b5,
 .ret (.var 6)]⟩
def f_law_small : Fn := ⟨1, 5,
 [.par 1 2 (.bin .add (.int 1) (.call 10 [.var 0, .int 10])) (.bin .add (.int 1) (.call 10 [.var 0, .int 6])),
 .set 3 (.bin .add (.int 1) (.call 10 [.var 0, .var 2])),
 .set 4 (.bin .mul (.var 1) (.bin .sub (.var 2) (.var 3))),
 .ret (.tup [.var 1, .var 2, .var 3, .call 10 [.var 0, .bin .add (.ix (.lst [.var 4, .blt .min2 [.var 4, .int 3]]) (.call 10 [.var 0, .int 2])) (.int 1)]])]⟩
def f_law_k21_b1 : List S := [.set 2 (.call 43 [.var 1]),
 .ite (.cmp .lt (.ix (.var 2) (.int 0)) (.int 100)) [.set 3 (.bin .add (.tup [.bin .add (.ix (.var 2) (.int 0)) (.int 1)]) (.sl (.var 2) (some (.int 1)) none)),
 .set 4 (.bin .mul (.ix (.var 2) (.int 0)) (.ix (.var 2) (.int 1))),
 .ite (.cmp .ne (.call 33 [.var 3]) (.bin .add (.call 33 [.var 2]) (.ix (.var 2) (.int 1)))) [.ret (.bl false)] [],
 .ite (.bop true [.cmp .eq (.call 32 [.var 2]) (.call 33 [.var 2]), .cmp .ne (.call 32 [.var 3]) (.bin .add (.call 32 [.var 2]) (.ix (.var 2) (.int 1)))]) [.ret (.bl false)] [],
 .ite (.bop true [.cmp .lt (.call 23 [.var 2]) (.var 4), .cmp .ne (.call 31 [.var 3]) (.call 31 [.var 2])]) [.ret (.bl false)] [],
 .ite (.bop true [.cmp .eq (.call 23 [.var 2]) (.var 4), .cmp .lt (.ix (.var 2) (.int 2)) (.ix (.var 2) (.int 1))]) [.ite (.cmp .lt (.call 31 [.var 3]) (.var 4)) [.ret (.bl false)] []] [],
 .set 5 (.bin .add (.int 1) (.call 41 [.var 1, .call 33 [.var 2]])),
 .ite (.cmp .ne (.call 36 [.var 3, .var 5]) (.call 36 [.var 2, .var 5])) [.ret (.bl false)] []] [],
 .set 2 (.call 14 [.var 1, .int 50]),
 .set 3 (.bin .add (.tup [.bin .add (.ix (.var 2) (.int 0)) (.int 1)]) (.sl (.var 2) (some (.int 1)) none)),
 .set 4 (.bin .mul (.ix (.var 2) (.int 0)) (.ix (.var 2) (.int 1))),
 .ite (.cmp .le (.bin .add (.var 4) (.ix (.var 2) (.int 1))) (.int 60)) [.unp [6, 7] (.call 37 [.var 2, .call 17 [.var 1, .var 2]]),
 .set 8 (.blt .sorted [.bin .add (.var 6) (.var 7)]),
 .set 9 (.blt .listRg2 [.bin .add (.var 4) (.int 1), .bin .add (.bin .add (.var 4) (.ix (.var 2) (.int 2))) (.int 1)]),
 .ite (.cmp .notB (.call 63 [.var 3, .blt .tuple [.bin .add (.var 8) (.var 9)]]) (.bl true)) [.ret (.bl false)] [],
 .ite (.cmp .notB (.call 62 [.var 3, .blt .tuple [.bin .add (.var 6) (.var 9)]]) (.bl true)) [.ret (.bl false)] [],
 .ite (.bop false [.cmp .lt (.call 66 [.var 3]) (.call 66 [.var 2]), .cmp .lt (.call 65 [.var 3]) (.call 65 [.var 2])]) [.ret (.bl false)] []] []]
def f_law_k21_c2 : C := .comp (.call 32 [.tup [.var 10, .int 8, .int 2, .int 2]]) (.nm 10) .seq [.tup [.int 1, .int 2, .int 3]] [] [10]
def f_law_k21 : Fn := ⟨1, 11,
 [.for (.nm 1) .seq [.call 9 [.var 0, .int 8]] f_law_k21_b1,
 .ret (.cmp .eq (f_law_k21_c2) (.lst [.int 4, .int 10, .int 18]))]⟩
def f_law_pairs_right_b1 : List S := [.set 3 (.bin .fdiv (.bin .mul (.bin .mul (.var 3) (.bin .mul (.int 2) (.var 4))) (.bin .sub (.bin .mul (.int 2) (.var 4)) (.int 1))) (.bin .mul (.var 4) (.bin .add (.var 4) (.int 1)))),
 .app (.var 2) (.var 3)]
def f_law_pairs_right : Fn := ⟨1, 5,
 [.set 1 (.tup [.var 0, .int 2, .int 1, .int 0]),
 .ite (.bop false [.cmp .ne (.call 31 [.var 1]) (.int 1), .cmp .ne (.call 32 [.var 1]) (.bin .sub (.bin .mul (.int 2) (.var 0)) (.int 1))]) [.ret (.bl false)] [],
 .ite (.cmp .ne (.call 36 [.var 1, .bin .sub (.bin .mul (.int 2) (.var 0)) (.int 1)]) (.bin .sub (.var 0) (.int 1))) [.ret (.bl false)] [],
 .par 2 3 (.ownL [.int 1]) (.int 1),
 .for (.nm 4) .rng2 [.int 1, .bin .add (.var 0) (.int 1)] f_law_pairs_right_b1,
 .ret (.bop true [.cmp .eq (.call 66 [.var 1]) (.var 3), .cmp .eq (.call 47 [.bin .add (.tup [.var 1]) (.tup [.tup [.int 1, .var 0, .int 1, .int 0]])]) (.int 1)])]⟩
def f_law_all_go_right_b1 : List S := [.ite (.bop false [.cmp .ne (.call 31 [.var 2]) (.bin .mul (.var 0) (.var 1)), .cmp .ne (.call 32 [.var 2]) (.bin .mul (.var 0) (.var 1))]) [.ret (.bl false)] [],
 .ite (.bop false [.cmp .ne (.call 23 [.var 2]) (.bin .mul (.var 0) (.var 1)), .cmp .ne (.call 36 [.var 2, .bin .mul (.var 0) (.var 1)]) (.bin .sub (.bin .mul (.var 0) (.var 1)) (.int 1))]) [.ret (.bl false)] []]
def f_law_all_go_right : Fn := ⟨2, 3,
 [.for (.nm 2) .seq [.tup [.tup [.var 0, .var 1, .var 1, .int 0], .tup [.var 0, .var 1, .int 1, .bin .mul (.var 0) (.bin .sub (.var 1) (.int 1))]]] f_law_all_go_right_b1,
 .ret (.ifx (.cmp .le (.bin .mul (.var 0) (.var 1)) (.int 100)) (.cmp .eq (.call 48 [.tup [.tup [.var 0, .var 1, .var 1, .int 0], .tup [.int 1, .bin .mul (.var 0) (.var 1), .int 1, .int 0]]]) (.int 1)) (.bl true))]⟩
def tw : List Ent := [⟨126, f_law_all_go_right, []⟩,
 ⟨125, f_law_pairs_right, []⟩,
 ⟨123, f_law_k21, []⟩,
 ⟨116, f_law_small, []⟩,
 ⟨110, f_law_left, []⟩,
 ⟨109, f_has_run, []⟩,
 ⟨108, f_fates, []⟩,
 ⟨107, f_law_k17, []⟩,
 ⟨105, f_law_others, []⟩,
 ⟨104, f_telling_set, []⟩,
 ⟨103, f_lets_all, []⟩,
 ⟨102, f_covers, []⟩,
 ⟨101, f_need_pair, []⟩,
 ⟨99, f_law_good_k15, []⟩,
 ⟨98, f_fitting_rules, []⟩,
 ⟨97, f_missing_runners, []⟩,
 ⟨94, f_law_keeps, []⟩,
 ⟨93, f_law_groups, []⟩,
 ⟨90, f_after_one, []⟩,
 ⟨89, f_room_for, []⟩,
 ⟨87, f_need_groups, []⟩,
 ⟨79, f_kind_of, []⟩,
 ⟨78, f_filled, []⟩,
 ⟨77, f_law_k10, []⟩,
 ⟨76, f_law_table, []⟩,
 ⟨74, f_law_good, []⟩,
 ⟨73, f_number_of, []⟩,
 ⟨72, f_set_at, []⟩,
 ⟨71, f_law_k08, []⟩,
 ⟨70, f_law_kept, []⟩,
 ⟨69, f_law_up, []⟩,
 ⟨68, f_draw_with, []⟩,
 ⟨66, f_count_sets, []⟩,
 ⟨65, f_count_direct, []⟩,
 ⟨64, f_ways_from, []⟩,
 ⟨63, f_can_qualify, []⟩,
 ⟨62, f_can_be_direct, []⟩,
 ⟨61, f_set_fits, []⟩,
 ⟨60, f_all_bounds, []⟩,
 ⟨59, f_meets, []⟩,
 ⟨58, f_others_of, []⟩,
 ⟨57, f_bounds, []⟩,
 ⟨56, f_need_set, []⟩,
 ⟨55, f_law_k06, []⟩,
 ⟨54, f_law_ran, []⟩,
 ⟨53, f_law_next_rule, []⟩,
 ⟨51, f_law_ends, []⟩,
 ⟨50, f_law_sets, []⟩,
 ⟨49, f_law_fitting, []⟩,
 ⟨48, f_slowest_in_all, []⟩,
 ⟨47, f_sure_in_all, []⟩,
 ⟨46, f_need_rounds, []⟩,
 ⟨45, f_law_k04, []⟩,
 ⟨44, f_law_told_right, []⟩,
 ⟨43, f_law_far_rule, []⟩,
 ⟨42, f_law_rule_k04, []⟩,
 ⟨41, f_law_far_draw, []⟩,
 ⟨39, f_law_little, []⟩,
 ⟨38, f_law_all_draws, []⟩,
 ⟨37, f_law_through, []⟩,
 ⟨36, f_least_faster, []⟩,
 ⟨35, f_faster_of, []⟩,
 ⟨34, f_most_others, []⟩,
 ⟨33, f_slowest_direct, []⟩,
 ⟨32, f_slowest_rank, []⟩,
 ⟨31, f_sure_rank, []⟩,
 ⟨30, f_slowest_of, []⟩,
 ⟨29, f_direct_of, []⟩,
 ⟨28, f_sure_of, []⟩,
 ⟨27, f_bound, []⟩,
 ⟨26, f_need_runner, []⟩,
 ⟨24, f_going_on, []⟩,
 ⟨23, f_places, []⟩,
 ⟨22, f_places_of, []⟩,
 ⟨19, f_law_rule_good, []⟩,
 ⟨17, f_law_a_draw, []⟩,
 ⟨16, f_law_dealt, []⟩,
 ⟨15, f_law_mixed, []⟩,
 ⟨14, f_law_rule, []⟩,
 ⟨13, f_law_odd, []⟩,
 ⟨11, f_law_from, []⟩,
 ⟨10, f_law_take, []⟩,
 ⟨9, f_law_bags, []⟩,
 ⟨8, f_law_bag, []⟩,
 ⟨7, f_law_draws, []⟩,
 ⟨6, f_law_cell_at, []⟩,
 ⟨5, f_is_draw, []⟩,
 ⟨4, f_draw_fits, []⟩,
 ⟨203, f_need_rule, []⟩,
 ⟨3, f_need_rule, [.int 10000]⟩,
 ⟨2, f_is_rising, []⟩,
 ⟨1, f_is_rule, []⟩,
 ⟨0, f_is_integer, []⟩]
theorem okTw : okTower tw = true := by decide +kernel
def Φ : Phi := tower tw
theorem Φ_is_integer (ds : List D) (m : Mem) : Φ 0 ds m = run Φ f_is_integer ds m := by have h := tower_eq okTw (e := ⟨0, f_is_integer, []⟩) (by simp [tw]) ds m; rw [List.append_nil] at h; exact h
theorem Φ_is_rule (ds : List D) (m : Mem) : Φ 1 ds m = run Φ f_is_rule ds m := by have h := tower_eq okTw (e := ⟨1, f_is_rule, []⟩) (by simp [tw]) ds m; rw [List.append_nil] at h; exact h
theorem Φ_is_rising (ds : List D) (m : Mem) : Φ 2 ds m = run Φ f_is_rising ds m := by have h := tower_eq okTw (e := ⟨2, f_is_rising, []⟩) (by simp [tw]) ds m; rw [List.append_nil] at h; exact h
theorem Φ_need_rule (ds : List D) (m : Mem) : Φ 3 ds m = run Φ f_need_rule (ds ++ [.int 10000]) m := tower_eq okTw (e := ⟨3, f_need_rule, [.int 10000]⟩) (by simp [tw]) ds m
theorem Φ_need_rule2 (ds : List D) (m : Mem) : Φ 203 ds m = run Φ f_need_rule ds m := by have h := tower_eq okTw (e := ⟨203, f_need_rule, []⟩) (by simp [tw]) ds m; rw [List.append_nil] at h; exact h
theorem Φ_draw_fits (ds : List D) (m : Mem) : Φ 4 ds m = run Φ f_draw_fits ds m := by have h := tower_eq okTw (e := ⟨4, f_draw_fits, []⟩) (by simp [tw]) ds m; rw [List.append_nil] at h; exact h
theorem Φ_is_draw (ds : List D) (m : Mem) : Φ 5 ds m = run Φ f_is_draw ds m := by have h := tower_eq okTw (e := ⟨5, f_is_draw, []⟩) (by simp [tw]) ds m; rw [List.append_nil] at h; exact h
theorem Φ_law_cell_at (ds : List D) (m : Mem) : Φ 6 ds m = run Φ f_law_cell_at ds m := by have h := tower_eq okTw (e := ⟨6, f_law_cell_at, []⟩) (by simp [tw]) ds m; rw [List.append_nil] at h; exact h
theorem Φ_law_draws (ds : List D) (m : Mem) : Φ 7 ds m = run Φ f_law_draws ds m := by have h := tower_eq okTw (e := ⟨7, f_law_draws, []⟩) (by simp [tw]) ds m; rw [List.append_nil] at h; exact h
theorem Φ_law_bag (ds : List D) (m : Mem) : Φ 8 ds m = run Φ f_law_bag ds m := by have h := tower_eq okTw (e := ⟨8, f_law_bag, []⟩) (by simp [tw]) ds m; rw [List.append_nil] at h; exact h
theorem Φ_law_bags (ds : List D) (m : Mem) : Φ 9 ds m = run Φ f_law_bags ds m := by have h := tower_eq okTw (e := ⟨9, f_law_bags, []⟩) (by simp [tw]) ds m; rw [List.append_nil] at h; exact h
theorem Φ_law_take (ds : List D) (m : Mem) : Φ 10 ds m = run Φ f_law_take ds m := by have h := tower_eq okTw (e := ⟨10, f_law_take, []⟩) (by simp [tw]) ds m; rw [List.append_nil] at h; exact h
theorem Φ_law_from (ds : List D) (m : Mem) : Φ 11 ds m = run Φ f_law_from ds m := by have h := tower_eq okTw (e := ⟨11, f_law_from, []⟩) (by simp [tw]) ds m; rw [List.append_nil] at h; exact h
theorem Φ_law_odd (ds : List D) (m : Mem) : Φ 13 ds m = run Φ f_law_odd ds m := by have h := tower_eq okTw (e := ⟨13, f_law_odd, []⟩) (by simp [tw]) ds m; rw [List.append_nil] at h; exact h
theorem Φ_law_rule (ds : List D) (m : Mem) : Φ 14 ds m = run Φ f_law_rule ds m := by have h := tower_eq okTw (e := ⟨14, f_law_rule, []⟩) (by simp [tw]) ds m; rw [List.append_nil] at h; exact h
theorem Φ_law_mixed (ds : List D) (m : Mem) : Φ 15 ds m = run Φ f_law_mixed ds m := by have h := tower_eq okTw (e := ⟨15, f_law_mixed, []⟩) (by simp [tw]) ds m; rw [List.append_nil] at h; exact h
theorem Φ_law_dealt (ds : List D) (m : Mem) : Φ 16 ds m = run Φ f_law_dealt ds m := by have h := tower_eq okTw (e := ⟨16, f_law_dealt, []⟩) (by simp [tw]) ds m; rw [List.append_nil] at h; exact h
theorem Φ_law_a_draw (ds : List D) (m : Mem) : Φ 17 ds m = run Φ f_law_a_draw ds m := by have h := tower_eq okTw (e := ⟨17, f_law_a_draw, []⟩) (by simp [tw]) ds m; rw [List.append_nil] at h; exact h
theorem Φ_law_rule_good (ds : List D) (m : Mem) : Φ 19 ds m = run Φ f_law_rule_good ds m := by have h := tower_eq okTw (e := ⟨19, f_law_rule_good, []⟩) (by simp [tw]) ds m; rw [List.append_nil] at h; exact h
theorem Φ_places_of (ds : List D) (m : Mem) : Φ 22 ds m = run Φ f_places_of ds m := by have h := tower_eq okTw (e := ⟨22, f_places_of, []⟩) (by simp [tw]) ds m; rw [List.append_nil] at h; exact h
theorem Φ_places (ds : List D) (m : Mem) : Φ 23 ds m = run Φ f_places ds m := by have h := tower_eq okTw (e := ⟨23, f_places, []⟩) (by simp [tw]) ds m; rw [List.append_nil] at h; exact h
theorem Φ_going_on (ds : List D) (m : Mem) : Φ 24 ds m = run Φ f_going_on ds m := by have h := tower_eq okTw (e := ⟨24, f_going_on, []⟩) (by simp [tw]) ds m; rw [List.append_nil] at h; exact h
theorem Φ_need_runner (ds : List D) (m : Mem) : Φ 26 ds m = run Φ f_need_runner ds m := by have h := tower_eq okTw (e := ⟨26, f_need_runner, []⟩) (by simp [tw]) ds m; rw [List.append_nil] at h; exact h
theorem Φ_bound (ds : List D) (m : Mem) : Φ 27 ds m = run Φ f_bound ds m := by have h := tower_eq okTw (e := ⟨27, f_bound, []⟩) (by simp [tw]) ds m; rw [List.append_nil] at h; exact h
theorem Φ_sure_of (ds : List D) (m : Mem) : Φ 28 ds m = run Φ f_sure_of ds m := by have h := tower_eq okTw (e := ⟨28, f_sure_of, []⟩) (by simp [tw]) ds m; rw [List.append_nil] at h; exact h
theorem Φ_direct_of (ds : List D) (m : Mem) : Φ 29 ds m = run Φ f_direct_of ds m := by have h := tower_eq okTw (e := ⟨29, f_direct_of, []⟩) (by simp [tw]) ds m; rw [List.append_nil] at h; exact h
theorem Φ_slowest_of (ds : List D) (m : Mem) : Φ 30 ds m = run Φ f_slowest_of ds m := by have h := tower_eq okTw (e := ⟨30, f_slowest_of, []⟩) (by simp [tw]) ds m; rw [List.append_nil] at h; exact h
theorem Φ_sure_rank (ds : List D) (m : Mem) : Φ 31 ds m = run Φ f_sure_rank ds m := by have h := tower_eq okTw (e := ⟨31, f_sure_rank, []⟩) (by simp [tw]) ds m; rw [List.append_nil] at h; exact h
theorem Φ_slowest_rank (ds : List D) (m : Mem) : Φ 32 ds m = run Φ f_slowest_rank ds m := by have h := tower_eq okTw (e := ⟨32, f_slowest_rank, []⟩) (by simp [tw]) ds m; rw [List.append_nil] at h; exact h
theorem Φ_slowest_direct (ds : List D) (m : Mem) : Φ 33 ds m = run Φ f_slowest_direct ds m := by have h := tower_eq okTw (e := ⟨33, f_slowest_direct, []⟩) (by simp [tw]) ds m; rw [List.append_nil] at h; exact h
theorem Φ_most_others (ds : List D) (m : Mem) : Φ 34 ds m = run Φ f_most_others ds m := by have h := tower_eq okTw (e := ⟨34, f_most_others, []⟩) (by simp [tw]) ds m; rw [List.append_nil] at h; exact h
theorem Φ_faster_of (ds : List D) (m : Mem) : Φ 35 ds m = run Φ f_faster_of ds m := by have h := tower_eq okTw (e := ⟨35, f_faster_of, []⟩) (by simp [tw]) ds m; rw [List.append_nil] at h; exact h
theorem Φ_least_faster (ds : List D) (m : Mem) : Φ 36 ds m = run Φ f_least_faster ds m := by have h := tower_eq okTw (e := ⟨36, f_least_faster, []⟩) (by simp [tw]) ds m; rw [List.append_nil] at h; exact h
theorem Φ_law_through (ds : List D) (m : Mem) : Φ 37 ds m = run Φ f_law_through ds m := by have h := tower_eq okTw (e := ⟨37, f_law_through, []⟩) (by simp [tw]) ds m; rw [List.append_nil] at h; exact h
theorem Φ_law_all_draws (ds : List D) (m : Mem) : Φ 38 ds m = run Φ f_law_all_draws ds m := by have h := tower_eq okTw (e := ⟨38, f_law_all_draws, []⟩) (by simp [tw]) ds m; rw [List.append_nil] at h; exact h
theorem Φ_law_little (ds : List D) (m : Mem) : Φ 39 ds m = run Φ f_law_little ds m := by have h := tower_eq okTw (e := ⟨39, f_law_little, []⟩) (by simp [tw]) ds m; rw [List.append_nil] at h; exact h
theorem Φ_law_far_draw (ds : List D) (m : Mem) : Φ 41 ds m = run Φ f_law_far_draw ds m := by have h := tower_eq okTw (e := ⟨41, f_law_far_draw, []⟩) (by simp [tw]) ds m; rw [List.append_nil] at h; exact h
theorem Φ_law_rule_k04 (ds : List D) (m : Mem) : Φ 42 ds m = run Φ f_law_rule_k04 ds m := by have h := tower_eq okTw (e := ⟨42, f_law_rule_k04, []⟩) (by simp [tw]) ds m; rw [List.append_nil] at h; exact h
theorem Φ_law_far_rule (ds : List D) (m : Mem) : Φ 43 ds m = run Φ f_law_far_rule ds m := by have h := tower_eq okTw (e := ⟨43, f_law_far_rule, []⟩) (by simp [tw]) ds m; rw [List.append_nil] at h; exact h
theorem Φ_law_told_right (ds : List D) (m : Mem) : Φ 44 ds m = run Φ f_law_told_right ds m := by have h := tower_eq okTw (e := ⟨44, f_law_told_right, []⟩) (by simp [tw]) ds m; rw [List.append_nil] at h; exact h
theorem Φ_law_k04 (ds : List D) (m : Mem) : Φ 45 ds m = run Φ f_law_k04 ds m := by have h := tower_eq okTw (e := ⟨45, f_law_k04, []⟩) (by simp [tw]) ds m; rw [List.append_nil] at h; exact h
theorem Φ_need_rounds (ds : List D) (m : Mem) : Φ 46 ds m = run Φ f_need_rounds ds m := by have h := tower_eq okTw (e := ⟨46, f_need_rounds, []⟩) (by simp [tw]) ds m; rw [List.append_nil] at h; exact h
theorem Φ_sure_in_all (ds : List D) (m : Mem) : Φ 47 ds m = run Φ f_sure_in_all ds m := by have h := tower_eq okTw (e := ⟨47, f_sure_in_all, []⟩) (by simp [tw]) ds m; rw [List.append_nil] at h; exact h
theorem Φ_slowest_in_all (ds : List D) (m : Mem) : Φ 48 ds m = run Φ f_slowest_in_all ds m := by have h := tower_eq okTw (e := ⟨48, f_slowest_in_all, []⟩) (by simp [tw]) ds m; rw [List.append_nil] at h; exact h
theorem Φ_law_fitting (ds : List D) (m : Mem) : Φ 49 ds m = run Φ f_law_fitting ds m := by have h := tower_eq okTw (e := ⟨49, f_law_fitting, []⟩) (by simp [tw]) ds m; rw [List.append_nil] at h; exact h
theorem Φ_law_sets (ds : List D) (m : Mem) : Φ 50 ds m = run Φ f_law_sets ds m := by have h := tower_eq okTw (e := ⟨50, f_law_sets, []⟩) (by simp [tw]) ds m; rw [List.append_nil] at h; exact h
theorem Φ_law_ends (ds : List D) (m : Mem) : Φ 51 ds m = run Φ f_law_ends ds m := by have h := tower_eq okTw (e := ⟨51, f_law_ends, []⟩) (by simp [tw]) ds m; rw [List.append_nil] at h; exact h
theorem Φ_law_next_rule (ds : List D) (m : Mem) : Φ 53 ds m = run Φ f_law_next_rule ds m := by have h := tower_eq okTw (e := ⟨53, f_law_next_rule, []⟩) (by simp [tw]) ds m; rw [List.append_nil] at h; exact h
theorem Φ_law_ran (ds : List D) (m : Mem) : Φ 54 ds m = run Φ f_law_ran ds m := by have h := tower_eq okTw (e := ⟨54, f_law_ran, []⟩) (by simp [tw]) ds m; rw [List.append_nil] at h; exact h
theorem Φ_law_k06 (ds : List D) (m : Mem) : Φ 55 ds m = run Φ f_law_k06 ds m := by have h := tower_eq okTw (e := ⟨55, f_law_k06, []⟩) (by simp [tw]) ds m; rw [List.append_nil] at h; exact h
theorem Φ_need_set (ds : List D) (m : Mem) : Φ 56 ds m = run Φ f_need_set ds m := by have h := tower_eq okTw (e := ⟨56, f_need_set, []⟩) (by simp [tw]) ds m; rw [List.append_nil] at h; exact h
theorem Φ_bounds (ds : List D) (m : Mem) : Φ 57 ds m = run Φ f_bounds ds m := by have h := tower_eq okTw (e := ⟨57, f_bounds, []⟩) (by simp [tw]) ds m; rw [List.append_nil] at h; exact h
theorem Φ_others_of (ds : List D) (m : Mem) : Φ 58 ds m = run Φ f_others_of ds m := by have h := tower_eq okTw (e := ⟨58, f_others_of, []⟩) (by simp [tw]) ds m; rw [List.append_nil] at h; exact h
theorem Φ_meets (ds : List D) (m : Mem) : Φ 59 ds m = run Φ f_meets ds m := by have h := tower_eq okTw (e := ⟨59, f_meets, []⟩) (by simp [tw]) ds m; rw [List.append_nil] at h; exact h
theorem Φ_all_bounds (ds : List D) (m : Mem) : Φ 60 ds m = run Φ f_all_bounds ds m := by have h := tower_eq okTw (e := ⟨60, f_all_bounds, []⟩) (by simp [tw]) ds m; rw [List.append_nil] at h; exact h
theorem Φ_set_fits (ds : List D) (m : Mem) : Φ 61 ds m = run Φ f_set_fits ds m := by have h := tower_eq okTw (e := ⟨61, f_set_fits, []⟩) (by simp [tw]) ds m; rw [List.append_nil] at h; exact h
theorem Φ_can_be_direct (ds : List D) (m : Mem) : Φ 62 ds m = run Φ f_can_be_direct ds m := by have h := tower_eq okTw (e := ⟨62, f_can_be_direct, []⟩) (by simp [tw]) ds m; rw [List.append_nil] at h; exact h
theorem Φ_can_qualify (ds : List D) (m : Mem) : Φ 63 ds m = run Φ f_can_qualify ds m := by have h := tower_eq okTw (e := ⟨63, f_can_qualify, []⟩) (by simp [tw]) ds m; rw [List.append_nil] at h; exact h
theorem Φ_ways_from (ds : List D) (m : Mem) : Φ 64 ds m = run Φ f_ways_from ds m := by have h := tower_eq okTw (e := ⟨64, f_ways_from, []⟩) (by simp [tw]) ds m; rw [List.append_nil] at h; exact h
theorem Φ_count_direct (ds : List D) (m : Mem) : Φ 65 ds m = run Φ f_count_direct ds m := by have h := tower_eq okTw (e := ⟨65, f_count_direct, []⟩) (by simp [tw]) ds m; rw [List.append_nil] at h; exact h
theorem Φ_count_sets (ds : List D) (m : Mem) : Φ 66 ds m = run Φ f_count_sets ds m := by have h := tower_eq okTw (e := ⟨66, f_count_sets, []⟩) (by simp [tw]) ds m; rw [List.append_nil] at h; exact h
theorem Φ_draw_with (ds : List D) (m : Mem) : Φ 68 ds m = run Φ f_draw_with ds m := by have h := tower_eq okTw (e := ⟨68, f_draw_with, []⟩) (by simp [tw]) ds m; rw [List.append_nil] at h; exact h
theorem Φ_law_up (ds : List D) (m : Mem) : Φ 69 ds m = run Φ f_law_up ds m := by have h := tower_eq okTw (e := ⟨69, f_law_up, []⟩) (by simp [tw]) ds m; rw [List.append_nil] at h; exact h
theorem Φ_law_kept (ds : List D) (m : Mem) : Φ 70 ds m = run Φ f_law_kept ds m := by have h := tower_eq okTw (e := ⟨70, f_law_kept, []⟩) (by simp [tw]) ds m; rw [List.append_nil] at h; exact h
theorem Φ_law_k08 (ds : List D) (m : Mem) : Φ 71 ds m = run Φ f_law_k08 ds m := by have h := tower_eq okTw (e := ⟨71, f_law_k08, []⟩) (by simp [tw]) ds m; rw [List.append_nil] at h; exact h
theorem Φ_set_at (ds : List D) (m : Mem) : Φ 72 ds m = run Φ f_set_at ds m := by have h := tower_eq okTw (e := ⟨72, f_set_at, []⟩) (by simp [tw]) ds m; rw [List.append_nil] at h; exact h
theorem Φ_number_of (ds : List D) (m : Mem) : Φ 73 ds m = run Φ f_number_of ds m := by have h := tower_eq okTw (e := ⟨73, f_number_of, []⟩) (by simp [tw]) ds m; rw [List.append_nil] at h; exact h
theorem Φ_law_good (ds : List D) (m : Mem) : Φ 74 ds m = run Φ f_law_good ds m := by have h := tower_eq okTw (e := ⟨74, f_law_good, []⟩) (by simp [tw]) ds m; rw [List.append_nil] at h; exact h
theorem Φ_law_table (ds : List D) (m : Mem) : Φ 76 ds m = run Φ f_law_table ds m := by have h := tower_eq okTw (e := ⟨76, f_law_table, []⟩) (by simp [tw]) ds m; rw [List.append_nil] at h; exact h
theorem Φ_law_k10 (ds : List D) (m : Mem) : Φ 77 ds m = run Φ f_law_k10 ds m := by have h := tower_eq okTw (e := ⟨77, f_law_k10, []⟩) (by simp [tw]) ds m; rw [List.append_nil] at h; exact h
theorem Φ_filled (ds : List D) (m : Mem) : Φ 78 ds m = run Φ f_filled ds m := by have h := tower_eq okTw (e := ⟨78, f_filled, []⟩) (by simp [tw]) ds m; rw [List.append_nil] at h; exact h
theorem Φ_kind_of (ds : List D) (m : Mem) : Φ 79 ds m = run Φ f_kind_of ds m := by have h := tower_eq okTw (e := ⟨79, f_kind_of, []⟩) (by simp [tw]) ds m; rw [List.append_nil] at h; exact h
theorem Φ_need_groups (ds : List D) (m : Mem) : Φ 87 ds m = run Φ f_need_groups ds m := by have h := tower_eq okTw (e := ⟨87, f_need_groups, []⟩) (by simp [tw]) ds m; rw [List.append_nil] at h; exact h
theorem Φ_room_for (ds : List D) (m : Mem) : Φ 89 ds m = run Φ f_room_for ds m := by have h := tower_eq okTw (e := ⟨89, f_room_for, []⟩) (by simp [tw]) ds m; rw [List.append_nil] at h; exact h
theorem Φ_after_one (ds : List D) (m : Mem) : Φ 90 ds m = run Φ f_after_one ds m := by have h := tower_eq okTw (e := ⟨90, f_after_one, []⟩) (by simp [tw]) ds m; rw [List.append_nil] at h; exact h
theorem Φ_law_groups (ds : List D) (m : Mem) : Φ 93 ds m = run Φ f_law_groups ds m := by have h := tower_eq okTw (e := ⟨93, f_law_groups, []⟩) (by simp [tw]) ds m; rw [List.append_nil] at h; exact h
theorem Φ_law_keeps (ds : List D) (m : Mem) : Φ 94 ds m = run Φ f_law_keeps ds m := by have h := tower_eq okTw (e := ⟨94, f_law_keeps, []⟩) (by simp [tw]) ds m; rw [List.append_nil] at h; exact h
theorem Φ_missing_runners (ds : List D) (m : Mem) : Φ 97 ds m = run Φ f_missing_runners ds m := by have h := tower_eq okTw (e := ⟨97, f_missing_runners, []⟩) (by simp [tw]) ds m; rw [List.append_nil] at h; exact h
theorem Φ_fitting_rules (ds : List D) (m : Mem) : Φ 98 ds m = run Φ f_fitting_rules ds m := by have h := tower_eq okTw (e := ⟨98, f_fitting_rules, []⟩) (by simp [tw]) ds m; rw [List.append_nil] at h; exact h
theorem Φ_law_good_k15 (ds : List D) (m : Mem) : Φ 99 ds m = run Φ f_law_good_k15 ds m := by have h := tower_eq okTw (e := ⟨99, f_law_good_k15, []⟩) (by simp [tw]) ds m; rw [List.append_nil] at h; exact h
theorem Φ_need_pair (ds : List D) (m : Mem) : Φ 101 ds m = run Φ f_need_pair ds m := by have h := tower_eq okTw (e := ⟨101, f_need_pair, []⟩) (by simp [tw]) ds m; rw [List.append_nil] at h; exact h
theorem Φ_covers (ds : List D) (m : Mem) : Φ 102 ds m = run Φ f_covers ds m := by have h := tower_eq okTw (e := ⟨102, f_covers, []⟩) (by simp [tw]) ds m; rw [List.append_nil] at h; exact h
theorem Φ_lets_all (ds : List D) (m : Mem) : Φ 103 ds m = run Φ f_lets_all ds m := by have h := tower_eq okTw (e := ⟨103, f_lets_all, []⟩) (by simp [tw]) ds m; rw [List.append_nil] at h; exact h
theorem Φ_telling_set (ds : List D) (m : Mem) : Φ 104 ds m = run Φ f_telling_set ds m := by have h := tower_eq okTw (e := ⟨104, f_telling_set, []⟩) (by simp [tw]) ds m; rw [List.append_nil] at h; exact h
theorem Φ_law_others (ds : List D) (m : Mem) : Φ 105 ds m = run Φ f_law_others ds m := by have h := tower_eq okTw (e := ⟨105, f_law_others, []⟩) (by simp [tw]) ds m; rw [List.append_nil] at h; exact h
theorem Φ_law_k17 (ds : List D) (m : Mem) : Φ 107 ds m = run Φ f_law_k17 ds m := by have h := tower_eq okTw (e := ⟨107, f_law_k17, []⟩) (by simp [tw]) ds m; rw [List.append_nil] at h; exact h
theorem Φ_fates (ds : List D) (m : Mem) : Φ 108 ds m = run Φ f_fates ds m := by have h := tower_eq okTw (e := ⟨108, f_fates, []⟩) (by simp [tw]) ds m; rw [List.append_nil] at h; exact h
theorem Φ_has_run (ds : List D) (m : Mem) : Φ 109 ds m = run Φ f_has_run ds m := by have h := tower_eq okTw (e := ⟨109, f_has_run, []⟩) (by simp [tw]) ds m; rw [List.append_nil] at h; exact h
theorem Φ_law_left (ds : List D) (m : Mem) : Φ 110 ds m = run Φ f_law_left ds m := by have h := tower_eq okTw (e := ⟨110, f_law_left, []⟩) (by simp [tw]) ds m; rw [List.append_nil] at h; exact h
theorem Φ_law_small (ds : List D) (m : Mem) : Φ 116 ds m = run Φ f_law_small ds m := by have h := tower_eq okTw (e := ⟨116, f_law_small, []⟩) (by simp [tw]) ds m; rw [List.append_nil] at h; exact h
theorem Φ_law_k21 (ds : List D) (m : Mem) : Φ 123 ds m = run Φ f_law_k21 ds m := by have h := tower_eq okTw (e := ⟨123, f_law_k21, []⟩) (by simp [tw]) ds m; rw [List.append_nil] at h; exact h
theorem Φ_law_pairs_right (ds : List D) (m : Mem) : Φ 125 ds m = run Φ f_law_pairs_right ds m := by have h := tower_eq okTw (e := ⟨125, f_law_pairs_right, []⟩) (by simp [tw]) ds m; rw [List.append_nil] at h; exact h
theorem Φ_law_all_go_right (ds : List D) (m : Mem) : Φ 126 ds m = run Φ f_law_all_go_right ds m := by have h := tower_eq okTw (e := ⟨126, f_law_all_go_right, []⟩) (by simp [tw]) ds m; rw [List.append_nil] at h; exact h
theorem R_is_integer (a0 a1 a2 : D) (m : Mem) : Φ 0 [a0, a1, a2] m = shut m.length (evSs Φ f_is_integer.body [some a0, some a1, some a2] m).out := by rw [Φ_is_integer]; rfl
theorem R_is_rule (a0 : D) (m : Mem) : Φ 1 [a0] m = shut m.length (evSs Φ f_is_rule.body [some a0] m).out := by rw [Φ_is_rule]; rfl
theorem R_is_rising (a0 a1 a2 : D) (m : Mem) : Φ 2 [a0, a1, a2] m = shut m.length (evSs Φ f_is_rising.body [some a0, some a1, some a2, none, none] m).out := by rw [Φ_is_rising]; rfl
theorem R_need_rule (a0 a1 : D) (m : Mem) : Φ 203 [a0, a1] m = shut m.length (evSs Φ f_need_rule.body [some a0, some a1] m).out := by rw [Φ_need_rule2]; rfl
theorem R_draw_fits (a0 a1 : D) (m : Mem) : Φ 4 [a0, a1] m = shut m.length (evSs Φ f_draw_fits.body [some a0, some a1, none, none] m).out := by rw [Φ_draw_fits]; rfl
theorem R_is_draw (a0 a1 : D) (m : Mem) : Φ 5 [a0, a1] m = shut m.length (evSs Φ f_is_draw.body [some a0, some a1] m).out := by rw [Φ_is_draw]; rfl
theorem R_law_cell_at (a0 a1 : D) (m : Mem) : Φ 6 [a0, a1] m = shut m.length (evSs Φ f_law_cell_at.body [some a0, some a1] m).out := by rw [Φ_law_cell_at]; rfl
theorem R_law_draws (a0 a1 a2 : D) (m : Mem) : Φ 7 [a0, a1, a2] m = shut m.length (evSs Φ f_law_draws.body [some a0, some a1, some a2, none, none, none, none] m).out := by rw [Φ_law_draws]; rfl
theorem R_law_bag (a0 a1 : D) (m : Mem) : Φ 8 [a0, a1] m = shut m.length (evSs Φ f_law_bag.body [some a0, some a1] m).out := by rw [Φ_law_bag]; rfl
theorem R_law_bags (a0 a1 : D) (m : Mem) : Φ 9 [a0, a1] m = shut m.length (evSs Φ f_law_bags.body [some a0, some a1, none] m).out := by rw [Φ_law_bags]; rfl
theorem R_law_take (a0 a1 : D) (m : Mem) : Φ 10 [a0, a1] m = shut m.length (evSs Φ f_law_take.body [some a0, some a1] m).out := by rw [Φ_law_take]; rfl
theorem R_law_from (a0 a1 a2 : D) (m : Mem) : Φ 11 [a0, a1, a2] m = shut m.length (evSs Φ f_law_from.body [some a0, some a1, some a2] m).out := by rw [Φ_law_from]; rfl
theorem R_law_odd (a0 : D) (m : Mem) : Φ 13 [a0] m = shut m.length (evSs Φ f_law_odd.body [some a0, none] m).out := by rw [Φ_law_odd]; rfl
theorem R_law_rule (a0 a1 : D) (m : Mem) : Φ 14 [a0, a1] m = shut m.length (evSs Φ f_law_rule.body [some a0, some a1, none, none, none, none] m).out := by rw [Φ_law_rule]; rfl
theorem R_law_mixed (a0 a1 : D) (m : Mem) : Φ 15 [a0, a1] m = shut m.length (evSs Φ f_law_mixed.body [some a0, some a1, none, none] m).out := by rw [Φ_law_mixed]; rfl
theorem R_law_dealt (a0 a1 : D) (m : Mem) : Φ 16 [a0, a1] m = shut m.length (evSs Φ f_law_dealt.body [some a0, some a1, none, none, none] m).out := by rw [Φ_law_dealt]; rfl
theorem R_law_a_draw (a0 a1 : D) (m : Mem) : Φ 17 [a0, a1] m = shut m.length (evSs Φ f_law_a_draw.body [some a0, some a1, none, none, none] m).out := by rw [Φ_law_a_draw]; rfl
theorem R_law_rule_good (a0 : D) (m : Mem) : Φ 19 [a0] m = shut m.length (evSs Φ f_law_rule_good.body [some a0] m).out := by rw [Φ_law_rule_good]; rfl
theorem R_places_of (a0 : D) (m : Mem) : Φ 22 [a0] m = shut m.length (evSs Φ f_places_of.body [some a0] m).out := by rw [Φ_places_of]; rfl
theorem R_places (a0 : D) (m : Mem) : Φ 23 [a0] m = shut m.length (evSs Φ f_places.body [some a0] m).out := by rw [Φ_places]; rfl
theorem R_going_on (a0 a1 : D) (m : Mem) : Φ 24 [a0, a1] m = shut m.length (evSs Φ f_going_on.body [some a0, some a1, none, none, none] m).out := by rw [Φ_going_on]; rfl
theorem R_need_runner (a0 a1 : D) (m : Mem) : Φ 26 [a0, a1] m = shut m.length (evSs Φ f_need_runner.body [some a0, some a1] m).out := by rw [Φ_need_runner]; rfl
theorem R_bound (a0 a1 : D) (m : Mem) : Φ 27 [a0, a1] m = shut m.length (evSs Φ f_bound.body [some a0, some a1, none] m).out := by rw [Φ_bound]; rfl
theorem R_sure_of (a0 : D) (m : Mem) : Φ 28 [a0] m = shut m.length (evSs Φ f_sure_of.body [some a0] m).out := by rw [Φ_sure_of]; rfl
theorem R_direct_of (a0 : D) (m : Mem) : Φ 29 [a0] m = shut m.length (evSs Φ f_direct_of.body [some a0] m).out := by rw [Φ_direct_of]; rfl
theorem R_slowest_of (a0 : D) (m : Mem) : Φ 30 [a0] m = shut m.length (evSs Φ f_slowest_of.body [some a0] m).out := by rw [Φ_slowest_of]; rfl
theorem R_sure_rank (a0 : D) (m : Mem) : Φ 31 [a0] m = shut m.length (evSs Φ f_sure_rank.body [some a0] m).out := by rw [Φ_sure_rank]; rfl
theorem R_slowest_rank (a0 : D) (m : Mem) : Φ 32 [a0] m = shut m.length (evSs Φ f_slowest_rank.body [some a0] m).out := by rw [Φ_slowest_rank]; rfl
theorem R_slowest_direct (a0 : D) (m : Mem) : Φ 33 [a0] m = shut m.length (evSs Φ f_slowest_direct.body [some a0] m).out := by rw [Φ_slowest_direct]; rfl
theorem R_most_others (a0 a1 : D) (m : Mem) : Φ 34 [a0, a1] m = shut m.length (evSs Φ f_most_others.body [some a0, some a1, none, none] m).out := by rw [Φ_most_others]; rfl
theorem R_faster_of (a0 a1 : D) (m : Mem) : Φ 35 [a0, a1] m = shut m.length (evSs Φ f_faster_of.body [some a0, some a1] m).out := by rw [Φ_faster_of]; rfl
theorem R_least_faster (a0 a1 : D) (m : Mem) : Φ 36 [a0, a1] m = shut m.length (evSs Φ f_least_faster.body [some a0, some a1] m).out := by rw [Φ_least_faster]; rfl
theorem R_law_through (a0 a1 : D) (m : Mem) : Φ 37 [a0, a1] m = shut m.length (evSs Φ f_law_through.body [some a0, some a1, none, none, none] m).out := by rw [Φ_law_through]; rfl
theorem R_law_all_draws (a0 : D) (m : Mem) : Φ 38 [a0] m = shut m.length (evSs Φ f_law_all_draws.body [some a0, none, none, none, none, none, none] m).out := by rw [Φ_law_all_draws]; rfl
theorem R_law_little (a0 : D) (m : Mem) : Φ 39 [a0] m = shut m.length (evSs Φ f_law_little.body [some a0, none, none, none, none] m).out := by rw [Φ_law_little]; rfl
theorem R_law_far_draw (a0 a1 : D) (m : Mem) : Φ 41 [a0, a1] m = shut m.length (evSs Φ f_law_far_draw.body [some a0, some a1, none, none] m).out := by rw [Φ_law_far_draw]; rfl
theorem R_law_rule_k04 (a0 a1 : D) (m : Mem) : Φ 42 [a0, a1] m = shut m.length (evSs Φ f_law_rule_k04.body [some a0, some a1, none, none, none, none] m).out := by rw [Φ_law_rule_k04]; rfl
theorem R_law_far_rule (a0 : D) (m : Mem) : Φ 43 [a0] m = shut m.length (evSs Φ f_law_far_rule.body [some a0, none, none, none, none] m).out := by rw [Φ_law_far_rule]; rfl
theorem R_law_told_right (a0 a1 : D) (m : Mem) : Φ 44 [a0, a1] m = shut m.length (evSs Φ f_law_told_right.body [some a0, some a1, none, none, none, none] m).out := by rw [Φ_law_told_right]; rfl
theorem R_law_k04 (a0 : D) (m : Mem) : Φ 45 [a0] m = shut m.length (evSs Φ f_law_k04.body [some a0, none, none, none, none, none, none, none, none, none, none, none, none, none, none, none, none] m).out := by rw [Φ_law_k04]; rfl
theorem R_need_rounds (a0 : D) (m : Mem) : Φ 46 [a0] m = shut m.length (evSs Φ f_need_rounds.body [some a0, none, none, none, none] m).out := by rw [Φ_need_rounds]; rfl
theorem R_sure_in_all (a0 : D) (m : Mem) : Φ 47 [a0] m = shut m.length (evSs Φ f_sure_in_all.body [some a0, none] m).out := by rw [Φ_sure_in_all]; rfl
theorem R_slowest_in_all (a0 : D) (m : Mem) : Φ 48 [a0] m = shut m.length (evSs Φ f_slowest_in_all.body [some a0, none, none, none, none, none] m).out := by rw [Φ_slowest_in_all]; rfl
theorem R_law_fitting (a0 a1 : D) (m : Mem) : Φ 49 [a0, a1] m = shut m.length (evSs Φ f_law_fitting.body [some a0, some a1, none, none, none, none] m).out := by rw [Φ_law_fitting]; rfl
theorem R_law_sets (a0 : D) (m : Mem) : Φ 50 [a0] m = shut m.length (evSs Φ f_law_sets.body [some a0, none, none, none, none] m).out := by rw [Φ_law_sets]; rfl
theorem R_law_ends (a0 a1 : D) (m : Mem) : Φ 51 [a0, a1] m = shut m.length (evSs Φ f_law_ends.body [some a0, some a1, none, none, none, none] m).out := by rw [Φ_law_ends]; rfl
theorem R_law_next_rule (a0 a1 : D) (m : Mem) : Φ 53 [a0, a1] m = shut m.length (evSs Φ f_law_next_rule.body [some a0, some a1, none, none, none, none] m).out := by rw [Φ_law_next_rule]; rfl
theorem R_law_ran (a0 a1 : D) (m : Mem) : Φ 54 [a0, a1] m = shut m.length (evSs Φ f_law_ran.body [some a0, some a1, none, none, none, none, none] m).out := by rw [Φ_law_ran]; rfl
theorem R_law_k06 (a0 : D) (m : Mem) : Φ 55 [a0] m = shut m.length (evSs Φ f_law_k06.body [some a0, none, none, none, none, none, none, none, none, none, none, none, none] m).out := by rw [Φ_law_k06]; rfl
theorem R_need_set (a0 a1 : D) (m : Mem) : Φ 56 [a0, a1] m = shut m.length (evSs Φ f_need_set.body [some a0, some a1] m).out := by rw [Φ_need_set]; rfl
theorem R_bounds (a0 : D) (m : Mem) : Φ 57 [a0] m = shut m.length (evSs Φ f_bounds.body [some a0, none] m).out := by rw [Φ_bounds]; rfl
theorem R_others_of (a0 a1 : D) (m : Mem) : Φ 58 [a0, a1] m = shut m.length (evSs Φ f_others_of.body [some a0, some a1, none] m).out := by rw [Φ_others_of]; rfl
theorem R_meets (a0 a1 : D) (m : Mem) : Φ 59 [a0, a1] m = shut m.length (evSs Φ f_meets.body [some a0, some a1, none, none] m).out := by rw [Φ_meets]; rfl
theorem R_all_bounds (a0 : D) (m : Mem) : Φ 60 [a0] m = shut m.length (evSs Φ f_all_bounds.body [some a0, none] m).out := by rw [Φ_all_bounds]; rfl
theorem R_set_fits (a0 a1 : D) (m : Mem) : Φ 61 [a0, a1] m = shut m.length (evSs Φ f_set_fits.body [some a0, some a1] m).out := by rw [Φ_set_fits]; rfl
theorem R_can_be_direct (a0 a1 : D) (m : Mem) : Φ 62 [a0, a1] m = shut m.length (evSs Φ f_can_be_direct.body [some a0, some a1] m).out := by rw [Φ_can_be_direct]; rfl
theorem R_can_qualify (a0 a1 : D) (m : Mem) : Φ 63 [a0, a1] m = shut m.length (evSs Φ f_can_qualify.body [some a0, some a1] m).out := by rw [Φ_can_qualify]; rfl
theorem R_ways_from (a0 a1 : D) (m : Mem) : Φ 64 [a0, a1] m = shut m.length (evSs Φ f_ways_from.body [some a0, some a1, none, none, none, none] m).out := by rw [Φ_ways_from]; rfl
theorem R_count_direct (a0 : D) (m : Mem) : Φ 65 [a0] m = shut m.length (evSs Φ f_count_direct.body [some a0] m).out := by rw [Φ_count_direct]; rfl
theorem R_count_sets (a0 : D) (m : Mem) : Φ 66 [a0] m = shut m.length (evSs Φ f_count_sets.body [some a0] m).out := by rw [Φ_count_sets]; rfl
theorem R_draw_with (a0 a1 : D) (m : Mem) : Φ 68 [a0, a1] m = shut m.length (evSs Φ f_draw_with.body [some a0, some a1, none, none, none, none, none, none, none, none, none, none, none] m).out := by rw [Φ_draw_with]; rfl
theorem R_law_up (a0 a1 : D) (m : Mem) : Φ 69 [a0, a1] m = shut m.length (evSs Φ f_law_up.body [some a0, some a1] m).out := by rw [Φ_law_up]; rfl
theorem R_law_kept (a0 a1 a2 : D) (m : Mem) : Φ 70 [a0, a1, a2] m = shut m.length (evSs Φ f_law_kept.body [some a0, some a1, some a2, none, none, none] m).out := by rw [Φ_law_kept]; rfl
theorem R_law_k08 (a0 : D) (m : Mem) : Φ 71 [a0] m = shut m.length (evSs Φ f_law_k08.body [some a0, none, none, none, none, none, none, none, none, none, none, none, none, none, none] m).out := by rw [Φ_law_k08]; rfl
theorem R_set_at (a0 a1 : D) (m : Mem) : Φ 72 [a0, a1] m = shut m.length (evSs Φ f_set_at.body [some a0, some a1, none, none, none, none] m).out := by rw [Φ_set_at]; rfl
theorem R_number_of (a0 a1 : D) (m : Mem) : Φ 73 [a0, a1] m = shut m.length (evSs Φ f_number_of.body [some a0, some a1, none, none, none, none] m).out := by rw [Φ_number_of]; rfl
theorem R_law_good (a0 a1 : D) (m : Mem) : Φ 74 [a0, a1] m = shut m.length (evSs Φ f_law_good.body [some a0, some a1, none, none, none] m).out := by rw [Φ_law_good]; rfl
theorem R_law_table (a0 a1 : D) (m : Mem) : Φ 76 [a0, a1] m = shut m.length (evSs Φ f_law_table.body [some a0, some a1, none, none, none, none, none] m).out := by rw [Φ_law_table]; rfl
theorem R_law_k10 (a0 : D) (m : Mem) : Φ 77 [a0] m = shut m.length (evSs Φ f_law_k10.body [some a0, none, none, none, none, none, none, none, none, none, none, none] m).out := by rw [Φ_law_k10]; rfl
theorem R_filled (a0 a1 : D) (m : Mem) : Φ 78 [a0, a1] m = shut m.length (evSs Φ f_filled.body [some a0, some a1] m).out := by rw [Φ_filled]; rfl
theorem R_kind_of (a0 a1 a2 : D) (m : Mem) : Φ 79 [a0, a1, a2] m = shut m.length (evSs Φ f_kind_of.body [some a0, some a1, some a2, none] m).out := by rw [Φ_kind_of]; rfl
theorem R_need_groups (a0 a1 : D) (m : Mem) : Φ 87 [a0, a1] m = shut m.length (evSs Φ f_need_groups.body [some a0, some a1, none, none, none, none] m).out := by rw [Φ_need_groups]; rfl
theorem R_room_for (a0 a1 a2 a3 a4 : D) (m : Mem) : Φ 89 [a0, a1, a2, a3, a4] m = shut m.length (evSs Φ f_room_for.body [some a0, some a1, some a2, some a3, some a4] m).out := by rw [Φ_room_for]; rfl
theorem R_after_one (a0 a1 a2 : D) (m : Mem) : Φ 90 [a0, a1, a2] m = shut m.length (evSs Φ f_after_one.body [some a0, some a1, some a2] m).out := by rw [Φ_after_one]; rfl
theorem R_law_groups (a0 a1 : D) (m : Mem) : Φ 93 [a0, a1] m = shut m.length (evSs Φ f_law_groups.body [some a0, some a1, none, none, none, none] m).out := by rw [Φ_law_groups]; rfl
theorem R_law_keeps (a0 a1 : D) (m : Mem) : Φ 94 [a0, a1] m = shut m.length (evSs Φ f_law_keeps.body [some a0, some a1, none, none, none, none, none, none] m).out := by rw [Φ_law_keeps]; rfl
theorem R_missing_runners (a0 a1 : D) (m : Mem) : Φ 97 [a0, a1] m = shut m.length (evSs Φ f_missing_runners.body [some a0, some a1, none, none] m).out := by rw [Φ_missing_runners]; rfl
theorem R_fitting_rules (a0 a1 : D) (m : Mem) : Φ 98 [a0, a1] m = shut m.length (evSs Φ f_fitting_rules.body [some a0, some a1, none, none, none, none, none] m).out := by rw [Φ_fitting_rules]; rfl
theorem R_law_good_k15 (a0 a1 : D) (m : Mem) : Φ 99 [a0, a1] m = shut m.length (evSs Φ f_law_good_k15.body [some a0, some a1, none, none, none] m).out := by rw [Φ_law_good_k15]; rfl
theorem R_need_pair (a0 a1 : D) (m : Mem) : Φ 101 [a0, a1] m = shut m.length (evSs Φ f_need_pair.body [some a0, some a1] m).out := by rw [Φ_need_pair]; rfl
theorem R_covers (a0 a1 : D) (m : Mem) : Φ 102 [a0, a1] m = shut m.length (evSs Φ f_covers.body [some a0, some a1, none, none] m).out := by rw [Φ_covers]; rfl
theorem R_lets_all (a0 a1 : D) (m : Mem) : Φ 103 [a0, a1] m = shut m.length (evSs Φ f_lets_all.body [some a0, some a1] m).out := by rw [Φ_lets_all]; rfl
theorem R_telling_set (a0 a1 : D) (m : Mem) : Φ 104 [a0, a1] m = shut m.length (evSs Φ f_telling_set.body [some a0, some a1, none, none] m).out := by rw [Φ_telling_set]; rfl
theorem R_law_others (a0 a1 : D) (m : Mem) : Φ 105 [a0, a1] m = shut m.length (evSs Φ f_law_others.body [some a0, some a1, none, none, none, none] m).out := by rw [Φ_law_others]; rfl
theorem R_law_k17 (a0 : D) (m : Mem) : Φ 107 [a0] m = shut m.length (evSs Φ f_law_k17.body [some a0, none, none, none, none, none, none, none, none, none] m).out := by rw [Φ_law_k17]; rfl
theorem R_fates (a0 a1 : D) (m : Mem) : Φ 108 [a0, a1] m = shut m.length (evSs Φ f_fates.body [some a0, some a1, none, none, none, none, none, none, none, none, none, none, none, none, none, none, none, none, none] m).out := by rw [Φ_fates]; rfl
theorem R_has_run (a0 a1 : D) (m : Mem) : Φ 109 [a0, a1] m = shut m.length (evSs Φ f_has_run.body [some a0, some a1, none] m).out := by rw [Φ_has_run]; rfl
theorem R_law_left (a0 a1 : D) (m : Mem) : Φ 110 [a0, a1] m = shut m.length (evSs Φ f_law_left.body [some a0, some a1, none, none, none, none, none, none, none, none] m).out := by rw [Φ_law_left]; rfl
theorem R_law_small (a0 : D) (m : Mem) : Φ 116 [a0] m = shut m.length (evSs Φ f_law_small.body [some a0, none, none, none, none] m).out := by rw [Φ_law_small]; rfl
theorem R_law_k21 (a0 : D) (m : Mem) : Φ 123 [a0] m = shut m.length (evSs Φ f_law_k21.body [some a0, none, none, none, none, none, none, none, none, none, none] m).out := by rw [Φ_law_k21]; rfl
theorem R_law_pairs_right (a0 : D) (m : Mem) : Φ 125 [a0] m = shut m.length (evSs Φ f_law_pairs_right.body [some a0, none, none, none, none] m).out := by rw [Φ_law_pairs_right]; rfl
theorem R_law_all_go_right (a0 a1 : D) (m : Mem) : Φ 126 [a0, a1] m = shut m.length (evSs Φ f_law_all_go_right.body [some a0, some a1, none] m).out := by rw [Φ_law_all_go_right]; rfl
end HD
end

section
set_option Elab.async false
set_option linter.all false
set_option maxRecDepth 100000
/-! B1: reckoning with terms: rewrite rules. -/
namespace HD
def look (ρ : Env) (i : Nat) (m : Mem) : Res D := match ρ[i]? with | some (some d) => .ok d m | _ => .stk
@[simp] theorem look_zero (d : D) (ρ : Env) (m : Mem) : look (some d :: ρ) 0 m = .ok d m := (rfl)
@[simp] theorem look_succ (o : Option D) (ρ : Env) (i : Nat) (m : Mem) : look (o :: ρ) (i + 1) m = look ρ i m := (rfl)
section
variable {P : Phi} {ρ : Env} {m : Mem}
@[simp] theorem x_var (i : Nat) : ev P (.var i) ρ m = look ρ i m := by rw [ev]; rfl
@[simp] theorem x_int (i : Int) : ev P (.int i) ρ m = .ok (.int i) m := by rw [ev]
@[simp] theorem x_bl (b : Bool) : ev P (.bl b) ρ m = .ok (.bl b) m := by rw [ev]
@[simp] theorem x_non : ev P .non ρ m = .ok .non m := by rw [ev]
@[simp] theorem x_str (s : PySem.Str) : ev P (.str s) ρ m = .ok (.str s) m := by rw [ev]
@[simp] theorem x_tup (es : List C) : ev P (.tup es) ρ m = (evL P es ρ m).bind fun ds m1 => if ds.length ≤ LIM then .ok (.tup ds) m1 else .stk := by rw [ev]
@[simp] theorem x_lst (es : List C) : ev P (.lst es) ρ m = (evL P es ρ m).bind fun ds m1 => if ds.length ≤ LIM then .ok (.lst ds) m1 else .stk := by rw [ev]
@[simp] theorem x_ownL (es : List C) : ev P (.ownL es) ρ m = ((evL P es ρ m).bind fun ds m1 => if ds.length ≤ LIM then .ok (.lst ds) m1 else .stk).bind ownop := by rw [ev]
@[simp] theorem x_ownC (e : C) : ev P (.ownC e) ρ m = ((ev P e ρ m).bind listop).bind ownop := by rw [ev]
@[simp] theorem x_newkv (i j : Int) : ev P (.newkv i j) ρ m = .ok (.ref m.length) (m ++ [.dk [(.inl i, .int j)]]) := by rw [ev]
@[simp] theorem x_newk : ev P .newk ρ m = .ok (.ref m.length) (m ++ [.dk []]) := by rw [ev]
@[simp] theorem x_newt : ev P .newt ρ m = .ok (.ref m.length) (m ++ [.dt []]) := by rw [ev]
@[simp] theorem x_bin (o : Bop) (a b : C) : ev P (.bin o a b) ρ m = (ev P a ρ m).bind fun x m1 => (ev P b ρ m1).bind fun y m2 => binop o x y m2 := by rw [ev]
@[simp] theorem x_cmp (o : Cop) (a b : C) : ev P (.cmp o a b) ρ m = (ev P a ρ m).bind fun x m1 => (ev P b ρ m1).bind fun y m2 => cmpop o x y m2 := by rw [ev]
@[simp] theorem x_chain (o p : Cop) (a b c : C) : ev P (.chain o p a b c) ρ m = (ev P a ρ m).bind fun x m1 => (ev P b ρ m1).bind fun y m2 => (cmpop o x y m2).bind fun k m3 => (blOf k m3).bind fun k m3 =>
      if k = true then (ev P c ρ m3).bind fun z m4 => cmpop p y z m4 else .ok (.bl false) m3 := by rw [ev]
@[simp] theorem x_bop (c : Bool) (es : List C) : ev P (.bop c es) ρ m = evB P c es ρ m := by rw [ev]
@[simp] theorem x_not (a : C) : ev P (.not1 a) ρ m = (ev P a ρ m).bind fun x m1 => (blOf x m1).bind fun b m1 => .ok (.bl (!b)) m1 := by rw [ev]
@[simp] theorem x_ifx (t a b : C) : ev P (.ifx t a b) ρ m = (ev P t ρ m).bind fun x m1 => (blOf x m1).bind fun k m1 => if k = true then ev P a ρ m1 else ev P b ρ m1 := by rw [ev]
@[simp] theorem x_ix (a i : C) : ev P (.ix a i) ρ m = (ev P a ρ m).bind fun x m1 => (ev P i ρ m1).bind fun y m2 => ixop x y m2 := by rw [ev]
@[simp] theorem x_sl (a : C) (lo hi : Option C) : ev P (.sl a lo hi) ρ m = (ev P a ρ m).bind fun x m1 => (evO P lo ρ m1).bind fun l m2 => (evO P hi ρ m2).bind fun h m3 => slop x l h m3 := by rw [ev]
@[simp] theorem x_rev (a : C) : ev P (.rev a) ρ m = (ev P a ρ m).bind revop := by rw [ev]
@[simp] theorem x_call (f : Nat) (es : List C) : ev P (.call f es) ρ m = (evL P es ρ m).bind fun ds m1 => P f ds m1 := by rw [ev]
@[simp] theorem x_blt (b : Blt) (es : List C) : ev P (.blt b es) ρ m = (evL P es ρ m).bind fun ds m1 => bltop b ds m1 := by rw [ev]
@[simp] theorem x_get (d k x : C) : ev P (.get d k x) ρ m = (ev P d ρ m).bind fun a m1 => if isDic m1 a then (ev P k ρ m1).bind fun b m2 => (ev P x ρ m2).bind fun c m3 => getop a b c m3 else .stk := by rw [ev]
@[simp] theorem x_popAt (l i : C) : ev P (.popAt l i) ρ m = (ev P l ρ m).bind fun a m1 => if isLst m1 a then (ev P i ρ m1).bind fun b m2 => popop a b m2 else .stk := by rw [ev]
def negop (x : D) (m : Mem) : Res D := match x with
  | .int i => .ok (.int (-i)) m
  | _ => .stk
@[simp] theorem negop_int (i : Int) : negop (.int i) m = .ok (.int (-i)) m := (rfl)
@[simp] theorem x_neg (a : C) : ev P (.neg a) ρ m = (ev P a ρ m).bind negop := by rw [ev]; rfl
theorem x_comp (elt : C) (t : Tg) (k : ItK) (args ifs : List C) (own : List Nat) : ev P (.comp elt t k args ifs own) ρ m = (itsOf k (evL P args ρ m)).bind fun its m1 =>
      if its.length ≤ LIM then (compL (fun ρ m => (evT P ifs ρ m).calm) (fun ρ m => (ev P elt ρ m).calm) t (wipeE ρ own) its m1).calm.bind fun l m2 => .ok (.lst l) m2 else .stk := by rw [ev]
@[simp] theorem x_nil : evL P [] ρ m = .ok [] m := by rw [evL]
@[simp] theorem x_cons (e : C) (es : List C) : evL P (e :: es) ρ m = (ev P e ρ m).bind fun d m1 => (evL P es ρ m1).bind fun ds m2 => .ok (d :: ds) m2 := by rw [evL]
@[simp] theorem x_none : evO P none ρ m = .ok none m := by rw [evO]
@[simp] theorem x_some (e : C) : evO P (some e) ρ m = (ev P e ρ m).bind intO := by rw [evO]
@[simp] theorem x_b1 (c : Bool) (e : C) : evB P c [e] ρ m = ev P e ρ m := by rw [evB]
@[simp] theorem x_b2 (c : Bool) (e e2 : C) (es : List C) : evB P c (e :: e2 :: es) ρ m = (ev P e ρ m).bind fun x m1 => (blOf x m1).bind fun b m1 => if b = c then evB P c (e2 :: es) ρ m1 else .ok (.bl b) m1 := by rw [evB]; simp
@[simp] theorem x_t0 : evT P [] ρ m = .ok true m := by rw [evT]
@[simp] theorem x_t1 (e : C) (es : List C) : evT P (e :: es) ρ m = (ev P e ρ m).bind fun x m1 => (blOf x m1).bind fun b m1 => if b = true then evT P es ρ m1 else .ok false m1 := by rw [evT]
@[simp] theorem y_set (i : Nat) (e : C) : evS P (.set i e) ρ m = (ev P e ρ m).toS fun d m1 => .nx (ρ.set i (some d)) m1 := by rw [evS]
@[simp] theorem y_par (i j : Nat) (a b : C) : evS P (.par i j a b) ρ m = (ev P a ρ m).toS fun x m1 => (ev P b ρ m1).toS fun y m2 => .nx ((ρ.set i (some x)).set j (some y)) m2 := by rw [evS]
@[simp] theorem y_par3 (i j k : Nat) (a b c : C) : evS P (.par3 i j k a b c) ρ m = (ev P a ρ m).toS fun x m1 => (ev P b ρ m1).toS fun y m2 => (ev P c ρ m2).toS fun z m3 => .nx (((ρ.set i (some x)).set j (some y)).set k (some z)) m3 := by rw [evS]
@[simp] theorem y_unp (is : List Nat) (e : C) : evS P (.unp is e) ρ m = (ev P e ρ m).toS fun d m1 => okE (bindTg (.tp is) d ρ) m1 := by rw [evS]
@[simp] theorem y_put (d i v : C) : evS P (.put d i v) ρ m = (ev P v ρ m).toS fun x m1 => (ev P d ρ m1).toS fun a m2 => (ev P i ρ m2).toS fun k m3 => okM (putop a k x m3) ρ := by rw [evS]
@[simp] theorem y_app (l e : C) : evS P (.app l e) ρ m = (ev P l ρ m).toS fun a m1 => if isLst m1 a then (ev P e ρ m1).toS fun x m2 => okM (appop a x m2) ρ else .stk := by rw [evS]
@[simp] theorem y_rem (l e : C) : evS P (.rem l e) ρ m = (ev P l ρ m).toS fun a m1 => if isLst m1 a then (ev P e ρ m1).toS fun x m2 => okM (remop a x m2) ρ else .stk := by rw [evS]
@[simp] theorem y_drop (e : C) : evS P (.drop e) ρ m = (ev P e ρ m).toS fun _ m1 => .nx ρ m1 := by rw [evS]
@[simp] theorem y_ite (t : C) (a b : List S) : evS P (.ite t a b) ρ m = (ev P t ρ m).toS fun x m1 => (blOf x m1).toS fun k m1 => if k = true then evSs P a ρ m1 else evSs P b ρ m1 := by rw [evS]
theorem y_for (t : Tg) (k : ItK) (args : List C) (body : List S) : evS P (.for t k args body) ρ m = (itsOf k (evL P args ρ m)).toS fun its m1 => forL (evSs P body) t its ρ m1 := by rw [evS]
theorem y_whl (n : Nat) (t : C) (body : List S) : evS P (.whl n t body) ρ m = whlL (ev P t) (evSs P body) n ρ m := by rw [evS]
@[simp] theorem y_ret (e : C) : evS P (.ret e) ρ m = (ev P e ρ m).toS fun d m1 => .rt d m1 := by rw [evS]
@[simp] theorem y_raise (c : Nat) : evS P (.raise c) ρ m = .ex c m := by rw [evS]
@[simp] theorem y_frz (i : Nat) : evS P (.frz i) ρ m = frzop i ρ m := by rw [evS]
@[simp] theorem y_nil : evSs P [] ρ m = .nx ρ m := by rw [evSs]
@[simp] theorem y_cons (s : S) (ss : List S) : evSs P (s :: ss) ρ m = (evS P s ρ m).bind (evSs P ss) := by rw [evSs]
end
section
variable {m : Mem}
@[simp] theorem out_nx (ρ : Env) : (SRes.nx ρ m).out = .ok .non m := (rfl)
@[simp] theorem out_rt (d : D) : (SRes.rt d m).out = .ok d m := (rfl)
@[simp] theorem out_ex (c : Nat) : (SRes.ex c m).out = .exc c m := (rfl)
@[simp] theorem shut_ok (d : D) : shut m.length (.ok d m) = .ok d m := by
  show (if _ then _ else _) = _
  split <;> simp
@[simp] theorem shut_exc (c : Nat) : shut m.length (.exc c m : Res D) = .exc c m := by
  show (if _ then _ else _) = _
  split <;> simp
@[simp] theorem blOf_bl (b : Bool) : blOf (.bl b) m = .ok b m := (rfl)
@[simp] theorem intO_int (i : Int) : intO (.int i) m = .ok (some i) m := (rfl)
@[simp] theorem b_add (i j : Int) : binop .add (.int i) (.int j) m = .ok (.int (i + j)) m := (rfl)
@[simp] theorem b_sub (i j : Int) : binop .sub (.int i) (.int j) m = .ok (.int (i - j)) m := (rfl)
@[simp] theorem b_mul {i j : Int} (h : (-18446744073709551616 < i ∧ i < 18446744073709551616) ∨ (-18446744073709551616 < j ∧ j < 18446744073709551616)) : binop .mul (.int i) (.int j) m = .ok (.int (i * j)) m := if_pos h
@[simp] theorem b_fdiv {i j : Int} (h : 0 < j ∧ j < 1073741824) : binop .fdiv (.int i) (.int j) m = .ok (.int (i / j)) m := if_pos h
@[simp] theorem b_mod {i j : Int} (h : 0 < j) : binop .mod (.int i) (.int j) m = .ok (.int (i % j)) m := if_pos h
theorem b_pow {i j : Int} (h : 0 ≤ j ∧ j ≤ 1000000 ∧ i.natAbs < 18446744073709551616) : binop .pow (.int i) (.int j) m = .ok (.int (i ^ j.toNat)) m := if_pos h
@[simp] theorem b_addT (a b : List D) : binop .add (.tup a) (.tup b) m = if a.length + b.length ≤ LIM then .ok (.tup (a ++ b)) m else .stk := by simp [binop, addSeq, seqD, mkSeq]
@[simp] theorem b_addL (a b : List D) : binop .add (.lst a) (.lst b) m = if a.length + b.length ≤ LIM then .ok (.lst (a ++ b)) m else .stk := by simp [binop, addSeq, seqD, mkSeq]
@[simp] theorem c_lt (i j : Int) : cmpop .lt (.int i) (.int j) m = .ok (.bl (decide (i < j))) m := (rfl)
@[simp] theorem c_le (i j : Int) : cmpop .le (.int i) (.int j) m = .ok (.bl (decide (i ≤ j))) m := (rfl)
@[simp] theorem c_gt (i j : Int) : cmpop .gt (.int i) (.int j) m = .ok (.bl (decide (j < i))) m := (rfl)
@[simp] theorem c_ge (i j : Int) : cmpop .ge (.int i) (.int j) m = .ok (.bl (decide (j ≤ i))) m := (rfl)
@[simp] theorem c_isN (x : D) : cmpop .isN x .non m = .ok (.bl (isNon x)) m := (rfl)
@[simp] theorem c_notN (x : D) : cmpop .notN x .non m = .ok (.bl (!isNon x)) m := (rfl)
@[simp] theorem c_isB (a b : Bool) : cmpop .isB (.bl a) (.bl b) m = .ok (.bl (decide (a = b))) m := (rfl)
@[simp] theorem c_notB (a b : Bool) : cmpop .notB (.bl a) (.bl b) m = .ok (.bl (!decide (a = b))) m := (rfl)
@[simp] theorem c_eq (x y : D) : cmpop .eq x y m = okB (eqv x y m) m := (rfl)
@[simp] theorem c_ne (x y : D) : cmpop .ne x y m = okB ((eqv x y m).map (!·)) m := (rfl)
@[simp] theorem okB_yes (b : Bool) : okB (some b) m = .ok (.bl b) m := (rfl)
@[simp] theorem isNon_non : isNon .non = true := (rfl)
@[simp] theorem isNon_int (i : Int) : isNon (.int i) = false := (rfl)
@[simp] theorem isNon_bl (i : Bool) : isNon (.bl i) = false := (rfl)
@[simp] theorem isNon_tup (i : List D) : isNon (.tup i) = false := (rfl)
@[simp] theorem isNon_lst (i : List D) : isNon (.lst i) = false := (rfl)
theorem toPyL_ints : ∀ a : List Int, toPyL (a.map D.int) = some (a.map PySem.PyData.int)
  | [] => rfl
  | i :: r => by simp [toPyL, toPy, toPyL_ints r]
theorem eqvAll_ints : ∀ a b : List Int, PySem.PyData.eqvAll (a.map .int) (b.map .int) = decide (a = b)
  | [], [] => rfl
  | [], _ :: _ => by simp [PySem.PyData.eqvAll]
  | _ :: _, [] => by simp [PySem.PyData.eqvAll]
  | i :: r, j :: t => by
    simp only [List.map_cons, PySem.PyData.eqvAll, PySem.PyData.eqv, eqvAll_ints r t]
    by_cases h : i = j <;> by_cases h' : r = t <;> simp [h, h']
theorem shaped_tup (a : List Int) : PySem.SeqAt.shaped (.tuple (a.map PySem.PyData.int)) = true := by
  simp [PySem.SeqAt.shaped, PySem.PyData.canLay0, PySem.PyData.depth, PySem.W.ke_canLayAll0, PySem.W.ke_depthAll]
@[simp] theorem eqv_int (i j : Int) : eqv (.int i) (.int j) m = some (decide (i = j)) := by
  simp [eqv, viewPy, toPy, PySem.SeqAt.shaped, PySem.PyData.canLay0, PySem.PyData.depth, PySem.PyData.eqv]
  by_cases h : i = j <;> simp [h]
@[simp] theorem eqv_ints (a b : List Int) : eqv (.lst (a.map .int)) (.lst (b.map .int)) m = some (decide (a = b)) := by
  simp [eqv, viewPy, toPy, toPyL_ints, PySem.W.ke_shaped_ints, PySem.PyData.eqv, eqvAll_ints]
@[simp] theorem eqv_tints (a b : List Int) : eqv (.tup (a.map .int)) (.tup (b.map .int)) m = some (decide (a = b)) := by
  simp [eqv, viewPy, toPy, toPyL_ints, shaped_tup, PySem.PyData.eqv, eqvAll_ints]
@[simp] theorem eqv_ints0 (a : List Int) : eqv (.lst (a.map .int)) (.lst []) m = some (decide (a = [])) := eqv_ints a []
theorem eqv_ref {n : Nat} {l : List D} (h : m[n]? = some (.lst l)) (y : D) : eqv (.ref n) y m = eqv (.lst l) y m := by
  unfold eqv
  have : viewPy m (.ref n) = viewPy m (.lst l) := by
    simp [viewPy, h]
  rw [this]
end
end HD
end

section
set_option Elab.async false
set_option linter.all false
set_option maxRecDepth 100000
/-! B2: rules; the functions of one rule. -/
namespace HD
open L2 (atI ixN)
theorem atI_nat {α : Type} (l : List α) (i : Nat) : atI l (i : Int) = l[i]? := by
  unfold atI ixN
  rw [if_pos (by omega)]
  by_cases h : i < l.length
  · rw [if_pos (by omega)]; simp
  · rw [if_neg (by omega), List.getElem?_eq_none (by omega)]; rfl
abbrev RU (h s w l : Int) : D := .tup [.int h, .int s, .int w, .int l]
section
variable {m : Mem}
@[simp] theorem l_isInt (x : D) : bltop .isInt [x] m = isop isIntD x m := (rfl)
@[simp] theorem l_isBool (x : D) : bltop .isBool [x] m = isop isBlD x m := (rfl)
@[simp] theorem l_isTuple (x : D) : bltop .isTuple [x] m = isop isTupD x m := (rfl)
@[simp] theorem l_len (x : D) : bltop .len [x] m = lenop x m := (rfl)
@[simp] theorem l_max2 (i j : Int) : bltop .max2 [.int i, .int j] m = .ok (.int (max i j)) m := by
  show Res.ok (D.int (if j > i then j else i)) m = _
  congr 2
  split <;> omega
@[simp] theorem l_min2 (i j : Int) : bltop .min2 [.int i, .int j] m = .ok (.int (min i j)) m := by
  show Res.ok (D.int (if j < i then j else i)) m = _
  congr 2
  split <;> omega
@[simp] theorem l_intOf (b : Bool) : bltop .intOf [.bl b] m = .ok (.int (if b then 1 else 0)) m := (rfl)
@[simp] theorem isop_int (f : D → Bool) (i : Int) : isop f (.int i) m = .ok (.bl (f (.int i))) m := (rfl)
@[simp] theorem isop_tup (f : D → Bool) (l : List D) : isop f (.tup l) m = .ok (.bl (f (.tup l))) m := (rfl)
@[simp] theorem isIntD_int (i : Int) : isIntD (.int i) = true := (rfl)
@[simp] theorem isBlD_int (i : Int) : isBlD (.int i) = false := (rfl)
@[simp] theorem isTupD_tup (l : List D) : isTupD (.tup l) = true := (rfl)
@[simp] theorem lenop_tup (l : List D) : lenop (.tup l) m = .ok (.int l.length) m := (rfl)
@[simp] theorem lenop_lst (l : List D) : lenop (.lst l) m = .ok (.int l.length) m := (rfl)
@[simp] theorem lenop_scr (l : List Int) : lenop (.scr l) m = .ok (.int l.length) m := (rfl)
@[simp] theorem ixop_tup (l : List D) (i : Int) : ixop (.tup l) (.int i) m = okO (atI l i) m := (rfl)
@[simp] theorem ixop_lst (l : List D) (i : Int) : ixop (.lst l) (.int i) m = okO (atI l i) m := (rfl)
@[simp] theorem okO_some (d : D) : okO (some d) m = .ok d m := (rfl)
@[simp] theorem at0 (a : D) (l : List D) : atI (a :: l) 0 = some a := atI_nat (a :: l) 0
@[simp] theorem at1 (a b : D) (l : List D) : atI (a :: b :: l) 1 = some b := atI_nat (a :: b :: l) 1
@[simp] theorem at2 (a b c : D) (l : List D) : atI (a :: b :: c :: l) 2 = some c := atI_nat (a :: b :: c :: l) 2
@[simp] theorem at3 (a b c d : D) (l : List D) : atI (a :: b :: c :: d :: l) 3 = some d := atI_nat (a :: b :: c :: d :: l) 3
end
theorem is_integer_int (v lo hi : Int) (m : Mem) : Φ 0 [.int v, .int lo, .int hi] m = .ok (.bl (decide (lo ≤ v ∧ v ≤ hi))) m := by
  rw [R_is_integer]
  simp [f_is_integer]
  by_cases h : lo ≤ v <;> simp [h]
/-- the bounds of a rule -/
def GoodR (h s w l : Int) : Prop := (1 ≤ h ∧ h ≤ 100) ∧ (1 ≤ s ∧ s ≤ 100) ∧ (1 ≤ w ∧ w ≤ s) ∧ 0 ≤ l ∧ l ≤ h * (s - w)
instance (h s w l : Int) : Decidable (GoodR h s w l) := by unfold GoodR; infer_instance
theorem is_rule_ints (h s w l : Int) (m : Mem) : Φ 1 [RU h s w l] m = .ok (.bl (decide (GoodR h s w l))) m := by
  rw [R_is_rule]
  by_cases h1 : 1 ≤ h ∧ h ≤ 100
  · by_cases h2 : 1 ≤ s ∧ s ≤ 100
    · by_cases h3 : 1 ≤ w ∧ w ≤ s
      · simp (disch := omega) [-Bool.decide_and, f_is_rule, is_integer_int, h1, h2, h3, GoodR]
      · simp [-Bool.decide_and, f_is_rule, is_integer_int, h1, h2, h3, GoodR]
    · simp [-Bool.decide_and, f_is_rule, is_integer_int, h1, h2, GoodR]
  · simp [-Bool.decide_and, f_is_rule, is_integer_int, h1, GoodR]
section
variable {h s w l : Int} {m : Mem}
theorem need_rule_ok (g : GoodR h s w l) (hm : h * s ≤ 10000) : Φ 3 [RU h s w l] m = .ok .non m := by
  rw [Φ_need_rule]
  show Φ 203 [RU h s w l, .int 10000] m = _
  rw [R_need_rule]
  have e1 := g.1
  have e2 : ¬ 10000 < h * s := by omega
  simp (disch := omega) [-Bool.decide_and, f_need_rule, is_rule_ints, g, e2]
theorem need_rule2_ok {k : Int} (g : GoodR h s w l) (hm : h * s ≤ k) : Φ 203 [RU h s w l, .int k] m = .ok .non m := by
  rw [R_need_rule]
  have e1 := g.1
  have e2 : ¬ k < h * s := by omega
  simp (disch := omega) [-Bool.decide_and, f_need_rule, is_rule_ints, g, e2]
end
end HD
end

section
set_option Elab.async false
set_option linter.all false
set_option maxRecDepth 100000
/-! B3: loops, comprehensions, lists of ints. -/
namespace HD
open L2 (atI ixN)
/-! comprehensions -/
theorem compL_map {α : Type} {tst : Env → Mem → Res Bool} {elt : Env → Mem → Res D} {t : Tg} {ρ : Env} {m : Mem} (g : α → D) (p : α → Bool) (f : α → D) : ∀ xs : List α,
    (∀ x ∈ xs, ∃ ρ', bindTg t (g x) ρ = some ρ' ∧ tst ρ' m = .ok (p x) m ∧ (p x = true → elt ρ' m = .ok (f x) m)) → compL tst elt t ρ (xs.map g) m = .ok ((xs.filter p).map f) m
  | [], _ => rfl
  | x :: xs, h => by
    obtain ⟨ρ', h1, h2, h3⟩ := h x List.mem_cons_self
    have ih := compL_map g p f xs fun y hy => h y (List.mem_cons_of_mem _ hy)
    rw [List.map_cons]
    unfold compL
    rw [h1]
    simp only [h2, Res.bind_ok]
    cases hp : p x with
    | true => simp [h3 hp, ih, hp]
    | false => simp [ih, hp]
theorem compL_all {α : Type} {tst : Env → Mem → Res Bool} {elt : Env → Mem → Res D} {t : Tg} {ρ : Env} {m : Mem} (g : α → D) (f : α → D) (xs : List α)
    (h : ∀ x ∈ xs, ∃ ρ', bindTg t (g x) ρ = some ρ' ∧ tst ρ' m = .ok true m ∧ elt ρ' m = .ok (f x) m) : compL tst elt t ρ (xs.map g) m = .ok (xs.map f) m := by
  have := compL_map (tst := tst) (elt := elt) (t := t) (ρ := ρ) (m := m) g (fun _ => true) f xs fun x hx => by
    obtain ⟨ρ', h1, h2, h3⟩ := h x hx
    exact ⟨ρ', h1, h2, fun _ => h3⟩
  have e : xs.filter (fun _ => true) = xs := List.filter_eq_self.mpr fun _ _ => rfl
  rw [e] at this
  exact this
/-! for -/
theorem forL_rel {α β : Type} {body : Env → Mem → SRes} {t : Tg} (g : α → D) (I : β → Env → Mem → Prop) (st : β → α → β) : ∀ (xs : List α) (b : β) (ρ : Env) (m : Mem),
    (∀ b x ρ m, x ∈ xs → I b ρ m → ∃ ρ' ρ2 m2, bindTg t (g x) ρ = some ρ' ∧ body ρ' m = .nx ρ2 m2 ∧ I (st b x) ρ2 m2) → I b ρ m → ∃ ρ2 m2, forL body t (xs.map g) ρ m = .nx ρ2 m2 ∧ I (xs.foldl st b) ρ2 m2
  | [], b, ρ, m, _, h => ⟨ρ, m, rfl, h⟩
  | x :: xs, b, ρ, m, hs, h => by
    obtain ⟨ρ', ρ2, m2, h1, h2, h3⟩ := hs b x ρ m List.mem_cons_self h
    obtain ⟨ρ3, m3, h4, h5⟩ := forL_rel g I st xs (st b x) ρ2 m2 (fun b y ρ m hy => hs b y ρ m (List.mem_cons_of_mem _ hy)) h3
    refine ⟨ρ3, m3, ?_, h5⟩
    rw [List.map_cons]
    unfold forL
    rw [h1]
    simp only [h2, SRes.bind_nx, h4]
/-- a loop that keeps I -/
theorem forL_keep {α : Type} {body : Env → Mem → SRes} {t : Tg} (g : α → D) (I : Env → Mem → Prop) (xs : List α) (ρ : Env) (m : Mem)
    (hs : ∀ x ρ m, x ∈ xs → I ρ m → ∃ ρ' ρ2 m2, bindTg t (g x) ρ = some ρ' ∧ body ρ' m = .nx ρ2 m2 ∧ I ρ2 m2) (h : I ρ m) : ∃ ρ2 m2, forL body t (xs.map g) ρ m = .nx ρ2 m2 ∧ I ρ2 m2 := by
  obtain ⟨ρ2, m2, h1, h2⟩ := forL_rel (β := Unit) g (fun _ => I) (fun _ _ => ()) xs () ρ m (fun _ x ρ m hx hI => hs x ρ m hx hI) h
  exact ⟨ρ2, m2, h1, h2⟩
@[simp] theorem bindTg_nm (i : Nat) (d : D) (ρ : Env) : bindTg (.nm i) d ρ = some (ρ.set i (some d)) := (rfl)
@[simp] theorem bindTg_tp2 (i j : Nat) (d e : D) (ρ : Env) : bindTg (.tp [i, j]) (.tup [d, e]) ρ = some ((ρ.set i (some d)).set j (some e)) := (rfl)
@[simp] theorem okE_some (ρ : Env) (m : Mem) : okE (some ρ) m = .nx ρ m := (rfl)
@[simp] theorem okM_some (ρ : Env) (m : Mem) : okM (some m) ρ = .nx ρ m := (rfl)
/-! items -/
@[simp] theorem its_rng1 (j : Int) (h1 : -4611686018427387904 ≤ j ∧ j < 4611686018427387904) (m : Mem) : itsOf .rng1 (.ok [.int j] m) = .ok (rngD 0 j.toNat) m := by
  have : small62 j = true := by simp [small62]; omega
  simp [itsOf, itemsOf, i1, rng1i, this]
@[simp] theorem its_rng2 (i j : Int) (h1 : -4611686018427387904 ≤ i ∧ i < 4611686018427387904 ∧ -4611686018427387904 ≤ j ∧ j < 4611686018427387904) (m : Mem) : itsOf .rng2 (.ok [.int i, .int j] m) = .ok (rngD i (j - i).toNat) m := by
  have e1 : small62 i = true := by simp [small62]; omega
  have e2 : small62 j = true := by simp [small62]; omega
  simp [itsOf, itemsOf, i2, rng2i, e1, e2]
@[simp] theorem its_lst (l : List D) (m : Mem) : itsOf .seq (.ok [.lst l] m) = .ok l m := (rfl)
@[simp] theorem its_tup (l : List D) (m : Mem) : itsOf .seq (.ok [.tup l] m) = .ok l m := (rfl)
/-- the ints from a on, n of them -/
def rg (a : Int) (n : Nat) : List Int := (List.range n).map fun (i : Nat) => a + i
theorem rngD_rg (a : Int) (n : Nat) : rngD a n = (rg a n).map .int := by simp [rngD, rg]
@[simp] theorem rg_length (a : Int) (n : Nat) : (rg a n).length = n := by simp [rg]
theorem rg_mem {a x : Int} {n : Nat} : x ∈ rg a n ↔ a ≤ x ∧ x < a + n := by
  simp only [rg, List.mem_map, List.mem_range]
  constructor
  · rintro ⟨i, hi, rfl⟩; omega
  · rintro ⟨h1, h2⟩; exact ⟨(x - a).toNat, by omega, by omega⟩
theorem rg_get {a : Int} {n i : Nat} (h : i < n) : (rg a n)[i]? = some (a + i) := by
  simp [rg, List.getElem?_map, List.getElem?_range h]
@[simp] theorem l_listRg1 {j : Int} (h : j ≤ 16777216 ∧ -4611686018427387904 ≤ j) (m : Mem) : bltop .listRg1 [.int j] m = .ok (.lst ((rg 0 j.toNat).map .int)) m := by
  show (if j ≤ 16777216 ∧ -(2 ^ 62) ≤ j then Res.ok (D.lst (rngD 0 j.toNat)) m else Res.stk) = _
  rw [if_pos (by omega), rngD_rg]
@[simp] theorem l_listRg2 {i j : Int} (h : -4611686018427387904 ≤ i ∧ i < 4611686018427387904 ∧ -4611686018427387904 ≤ j ∧ j < 4611686018427387904 ∧ j - i ≤ 16777216) (m : Mem) : bltop .listRg2 [.int i, .int j] m = .ok (.lst ((rg i (j - i).toNat).map .int)) m := by
  have e1 : small62 i = true := by simp [small62]; omega
  have e2 : small62 j = true := by simp [small62]; omega
  show (if small62 i && small62 j && decide (j - i ≤ 16777216) then Res.ok (D.lst (rngD i (j - i).toNat)) m else Res.stk) = _
  rw [e1, e2, rngD_rg]
  simp [h.2.2.2.2]
@[simp] theorem l_list (x : D) (m : Mem) : bltop .list [x] m = listop x m := (rfl)
@[simp] theorem l_tuple (x : D) (m : Mem) : bltop .tuple [x] m = tupleop x m := (rfl)
@[simp] theorem listop_tup (l : List D) (m : Mem) : listop (.tup l) m = .ok (.lst l) m := (rfl)
@[simp] theorem listop_lst (l : List D) (m : Mem) : listop (.lst l) m = .ok (.lst l) m := (rfl)
@[simp] theorem tupleop_tup (l : List D) (m : Mem) : tupleop (.tup l) m = .ok (.tup l) m := (rfl)
@[simp] theorem tupleop_lst (l : List D) (m : Mem) : tupleop (.lst l) m = .ok (.tup l) m := (rfl)
theorem intsOf_ints : ∀ l : List Int, intsOf (l.map .int) = some l
  | [] => rfl
  | i :: r => by simp [intsOf, intsOf_ints r]
@[simp] theorem intsAt_lst (l : List Int) (m : Mem) : intsAt false m (.lst (l.map .int)) = some l := by simp [intsAt, seqD, intsOf_ints]
@[simp] theorem l_sorted (l : List Int) (m : Mem) : bltop .sorted [.lst (l.map .int)] m = .ok (.lst ((sortI l).map .int)) m := by
  show sortedop _ m = _
  unfold sortedop
  rw [intsAt_lst]
/-! slices -/
theorem cut_take (l : List D) (j : Int) (h : 0 ≤ j) : cutD l none (some j) = l.take j.toNat := by
  have : HT.sIx l.length l.length (some j) = min j.toNat l.length := by
    have := HT.sIx_nat l.length l.length j.toNat
    rw [Int.toNat_of_nonneg h] at this
    exact this
  unfold cutD
  rw [this, HT.sIx_none]
  simp only [List.drop_zero, Nat.sub_zero]
  rw [List.take_eq_take_iff]
  omega
theorem cut_drop (l : List D) (i : Int) (h : 0 ≤ i) : cutD l (some i) none = l.drop i.toNat := by
  have : HT.sIx l.length 0 (some i) = min i.toNat l.length := by
    have := HT.sIx_nat l.length 0 i.toNat
    rw [Int.toNat_of_nonneg h] at this
    exact this
  unfold cutD
  rw [this, HT.sIx_none]
  by_cases hi : i.toNat ≤ l.length
  · rw [Nat.min_eq_left hi, List.take_of_length_le (by simp)]
  · rw [Nat.min_eq_right (by omega), List.drop_eq_nil_of_le (as := l) (i := i.toNat) (by omega)]
    simp
theorem cut_mid (l : List D) (i j : Int) (h : 0 ≤ i) (hj : 0 ≤ j) : cutD l (some i) (some j) = (l.drop i.toNat).take (j.toNat - i.toNat) := by
  have e1 : HT.sIx l.length 0 (some i) = min i.toNat l.length := by
    have := HT.sIx_nat l.length 0 i.toNat
    rw [Int.toNat_of_nonneg h] at this
    exact this
  have e2 : HT.sIx l.length l.length (some j) = min j.toNat l.length := by
    have := HT.sIx_nat l.length l.length j.toNat
    rw [Int.toNat_of_nonneg hj] at this
    exact this
  unfold cutD
  rw [e1, e2]
  by_cases hi : i.toNat ≤ l.length
  · rw [Nat.min_eq_left hi, List.take_eq_take_iff, List.length_drop]
    omega
  · rw [Nat.min_eq_right (show l.length ≤ i.toNat by omega), List.drop_eq_nil_of_le (as := l) (i := i.toNat) (by omega), List.drop_eq_nil_of_le (as := l) (i := l.length) (Nat.le_refl _)]
    simp
section
variable {m : Mem}
@[simp] theorem slop_tup (l : List D) (lo hi : Option Int) : slop (.tup l) lo hi m = .ok (.tup (cutD l lo hi)) m := (rfl)
@[simp] theorem slop_lst (l : List D) (lo hi : Option Int) : slop (.lst l) lo hi m = .ok (.lst (cutD l lo hi)) m := (rfl)
/-- of lists of ints -/
@[simp] theorem cutI_take (l : List Int) {j : Int} (h : 0 ≤ j) : cutD (l.map .int) none (some j) = (l.take j.toNat).map .int := by rw [cut_take _ _ h, List.map_take]
@[simp] theorem cutI_drop (l : List Int) {i : Int} (h : 0 ≤ i) : cutD (l.map .int) (some i) none = (l.drop i.toNat).map .int := by rw [cut_drop _ _ h, List.map_drop]
@[simp] theorem cutI_mid (l : List Int) {i j : Int} (h : 0 ≤ i ∧ 0 ≤ j) : cutD (l.map .int) (some i) (some j) = ((l.drop i.toNat).take (j.toNat - i.toNat)).map .int := by rw [cut_mid _ _ _ h.1 h.2, List.map_take, List.map_drop]
theorem ixI_nat (l : List Int) {i : Int} (h : 0 ≤ i ∧ i < l.length) : atI (l.map D.int) i = some (.int (l.getD i.toNat 0)) := by
  have := atI_nat (l.map D.int) i.toNat
  rw [Int.toNat_of_nonneg h.1] at this
  rw [this, List.getElem?_map, List.getElem?_eq_getElem (by omega)]
  simp [List.getD, List.getElem?_eq_getElem (show i.toNat < l.length by omega)]
theorem ixI_last (l : List Int) (h : l ≠ []) : atI (l.map D.int) (-1) = some (.int (l.getLastD 0)) := by
  obtain ⟨r, x, rfl⟩ : ∃ r x, l = r ++ [x] := ⟨l.dropLast, l.getLast h, (List.dropLast_concat_getLast h).symm⟩
  unfold atI ixN
  rw [if_neg (by omega), List.length_map, List.length_append, List.length_singleton, if_pos (by omega)]
  have e : (-1 + ((r.length + 1 : Nat) : Int)).toNat = r.length := by omega
  rw [e]
  simp
end
end HD
end

section
set_option Elab.async false
set_option linter.all false
set_option maxRecDepth 100000
/-! B4: bags. -/
namespace HD
open L2 (atI ixN)
def bagM (ds : List Int) (c : Int) : Mob := .lst [.lst (ds.map .int), .int c]
def IsBag (o : Mob) : Prop := ∃ ds c, o = bagM ds c ∧ ds ≠ []
/-- the bag b of m -/
def BagAt (m : Mem) (b : Nat) : Prop := ∃ o, m[b]? = some o ∧ IsBag o
theorem BagAt.lt {m : Mem} {b : Nat} (h : BagAt m b) : b < m.length := by
  obtain ⟨o, h1, _⟩ := h
  exact (List.getElem?_eq_some_iff.mp h1).1
theorem BagAt.set {m : Mem} {b : Nat} (h : BagAt m b) {o : Mob} (ho : IsBag o) : BagAt (m.set b o) b := ⟨o, by rw [List.getElem?_set_self h.lt], ho⟩
theorem BagAt.set' {m : Mem} {b c : Nat} (h : BagAt m b) (hc : BagAt m c) {o : Mob} (ho : IsBag o) : BagAt (m.set c o) b := by
  by_cases e : c = b
  · subst e; exact h.set ho
  · obtain ⟨o', h1, h2⟩ := h
    exact ⟨o', by rw [List.getElem?_set_ne e]; exact h1, h2⟩
theorem BagAt.app {m : Mem} {b : Nat} (h : BagAt m b) (n : Mem) : BagAt (m ++ n) b := by
  obtain ⟨o, h1, h2⟩ := h
  exact ⟨o, by rw [List.getElem?_append_left (List.getElem?_eq_some_iff.mp h1).1]; exact h1, h2⟩
section
variable {m : Mem} {b : Nat}
theorem ixop_ref {l : List D} (h : m[b]? = some (.lst l)) (i : Int) : ixop (.ref b) (.int i) m = okO (atI l i) m := by
  simp [ixop, seqD, h]
theorem lenop_ref {l : List D} (h : m[b]? = some (.lst l)) : lenop (.ref b) m = .ok (.int l.length) m := by
  simp [lenop, seqD, h]
theorem putop_ref {l : List D} (h : m[b]? = some (.lst l)) {i : Int} {j : Nat} (hi : ixN l.length i = some j) (v : D) : putop (.ref b) (.int i) v m = some (m.set b (.lst (l.set j v))) := by
  simp [putop, h, hi]
theorem isLst_ref {l : List D} (h : m[b]? = some (.lst l)) : isLst m (.ref b) = true := by
  simp [isLst, h]
theorem appop_ref {l : List D} (h : m[b]? = some (.lst l)) (hl : l.length < 16777216) (v : D) : appop (.ref b) v m = some (m.set b (.lst (l ++ [v]))) := by
  simp [appop, h, LIM, hl]
@[simp] theorem shut_set (d : D) (o : Mob) : shut m.length (.ok d (m.set b o)) = .ok d (m.set b o) := by
  show (if _ then _ else _) = _
  have : (m.set b o).take m.length = m.set b o := List.take_of_length_le (by simp)
  rw [this]
  split <;> rfl
end
theorem take_ok {m : Mem} {b : Nat} {n : Int} (h : BagAt m b) (hn : 0 < n) : ∃ v o, Φ 10 [.ref b, .int n] m = .ok (.int v) (m.set b o) ∧ IsBag o ∧ 0 ≤ v ∧ v < n := by
  obtain ⟨_, hb, ds, c, rfl, hd⟩ := h
  have hlt := (List.getElem?_eq_some_iff.mp hb).1
  have hl : 0 < ds.length := List.length_pos_iff.mpr hd
  have h2 : (m.set b (bagM ds (c + 1)))[b]? = some (bagM ds (c + 1)) := by rw [List.getElem?_set_self hlt]
  refine ⟨ds.getD ((c + 1) % (ds.length : Int)).toNat 0 % n, bagM ds (c + 1), ?_, ⟨ds, c + 1, rfl, hd⟩, Int.emod_nonneg _ (by omega), Int.emod_lt_of_pos _ hn⟩
  rw [R_law_take]
  have e1 : 0 ≤ (c + 1) % (ds.length : Int) ∧ (c + 1) % (ds.length : Int) < ds.length := ⟨Int.emod_nonneg _ (by omega), Int.emod_lt_of_pos _ (by omega)⟩
  have e2 : putop (.ref b) (.int 1) (.int (c + 1)) m = some (m.set b (bagM ds (c + 1))) := putop_ref (i := 1) (j := 1) hb (by rfl) _
  have e3 : ∀ i : Int, ixop (.ref b) (.int i) (m.set b (bagM ds (c + 1))) = okO (atI [.lst (ds.map .int), .int (c + 1)] i) (m.set b (bagM ds (c + 1))) := fun i => ixop_ref h2 i
  have e4 : ∀ i : Int, ixop (.ref b) (.int i) m = okO (atI [.lst (ds.map .int), .int c] i) m := fun i => ixop_ref hb i
  simp (disch := omega) [f_law_take, e2, e3, e4, ixI_nat _ e1]
end HD
end

section
set_option Elab.async false
set_option linter.all false
set_option maxRecDepth 100000
/-! B5: how bags are made. -/
namespace HD
open L2 (atI ixN)
theorem forL_idx {body : Env → Mem → SRes} {t : Tg} {α : Type} (g : α → D) (xs : List α) (I : Nat → Env → Mem → Prop) (step : ∀ i x ρ m, xs[i]? = some x → I i ρ m → ∃ ρ' ρ2 m2, bindTg t (g x) ρ = some ρ' ∧ body ρ' m = .nx ρ2 m2 ∧ I (i + 1) ρ2 m2)
    {ρ : Env} {m : Mem} (h : I 0 ρ m) : ∃ ρ2 m2, forL body t (xs.map g) ρ m = .nx ρ2 m2 ∧ I xs.length ρ2 m2 := by
  have key : ∀ (ys : List α) (i : Nat) (ρ : Env) (m : Mem), (∀ j x, ys[j]? = some x → xs[i + j]? = some x) → I i ρ m → ∃ ρ2 m2, forL body t (ys.map g) ρ m = .nx ρ2 m2 ∧ I (i + ys.length) ρ2 m2 := by
    intro ys
    induction ys with
    | nil => intro i ρ m _ h; exact ⟨ρ, m, rfl, h⟩
    | cons y ys ih =>
      intro i ρ m hy h
      obtain ⟨ρ', ρ2, m2, h1, h2, h3⟩ := step i y ρ m (by simpa using hy 0 y rfl) h
      obtain ⟨ρ3, m3, h4, h5⟩ := ih (i + 1) ρ2 m2 (fun j x hx => by
        have := hy (j + 1) x (by simpa using hx)
        rw [← this]; congr 1; omega) h3
      refine ⟨ρ3, m3, ?_, by rw [List.length_cons]; rw [show i + (ys.length + 1) = i + 1 + ys.length by omega]; exact h5⟩
      rw [List.map_cons]
      unfold forL
      rw [h1]
      simp only [h2, SRes.bind_nx, h4]
  have := key xs 0 ρ m (fun j x hx => by rw [Nat.zero_add]; exact hx) h
  rw [Nat.zero_add] at this
  exact this
/-- nothing in m names what is not in m -/
def Cl (m : Mem) : Prop := m.all (closedM m.length) = true
theorem closedL_ints (n : Nat) : ∀ l : List Int, closedL n (l.map .int) = true
  | [] => rfl
  | i :: r => by simp [closedL, closedD, closedL_ints n r]
theorem closed_bag (n : Nat) {o : Mob} (h : IsBag o) : closedM n o = true := by
  obtain ⟨ds, c, rfl, _⟩ := h
  simp [bagM, closedM, closedL, closedD, closedL_ints]
mutual
theorem closedD_up {n k : Nat} (h : n ≤ k) : ∀ d : D, closedD n d = true → closedD k d = true
  | .tup l, c => by simp only [closedD] at c ⊢; exact closedL_up h l c
  | .lst l, c => by simp only [closedD] at c ⊢; exact closedL_up h l c
  | .dk l, c => by simp only [closedD] at c ⊢; exact closedK_up h l c
  | .dt l, c => by simp only [closedD] at c ⊢; exact closedK2_up h l c
  | .ref j, c => by simp only [closedD, decide_eq_true_eq] at c ⊢; omega
  | .non, _ => rfl
  | .bl _, _ => rfl
  | .int _, _ => rfl
  | .str _, _ => rfl
  | .scr _, _ => rfl
theorem closedL_up {n k : Nat} (h : n ≤ k) : ∀ l : List D, closedL n l = true → closedL k l = true
  | [], _ => rfl
  | d :: r, c => by
    simp only [closedL, Bool.and_eq_true] at c ⊢
    exact ⟨closedD_up h d c.1, closedL_up h r c.2⟩
theorem closedK_up {n k : Nat} (h : n ≤ k) : ∀ l : List (L2.Key × D), closedK n l = true → closedK k l = true
  | [], _ => rfl
  | (_, d) :: r, c => by
    simp only [closedK, Bool.and_eq_true] at c ⊢
    exact ⟨closedD_up h d c.1, closedK_up h r c.2⟩
theorem closedK2_up {n k : Nat} (h : n ≤ k) : ∀ l : List (List L2.Key × D), closedK2 n l = true → closedK2 k l = true
  | [], _ => rfl
  | (_, d) :: r, c => by
    simp only [closedK2, Bool.and_eq_true] at c ⊢
    exact ⟨closedD_up h d c.1, closedK2_up h r c.2⟩
end
theorem closedM_up {n k : Nat} (h : n ≤ k) (o : Mob) (c : closedM n o = true) : closedM k o = true := by
  cases o with
  | lst l => exact closedL_up h l c
  | dk l => exact closedK_up h l c
  | dt l => exact closedK2_up h l c
  | dead => rfl
section
variable {m : Mem} {b : Nat}
theorem Cl.nil : Cl [] := rfl
theorem Cl.set (h : Cl m) {o : Mob} (ho : closedM m.length o = true) : Cl (m.set b o) := by
  unfold Cl at h ⊢
  rw [List.length_set, List.all_eq_true]
  intro x hx
  rcases List.mem_or_eq_of_mem_set hx with z | rfl
  · exact List.all_eq_true.mp h x z
  · exact ho
theorem Cl.app (h : Cl m) {o : Mob} (ho : closedM (m.length + 1) o = true) : Cl (m ++ [o]) := by
  unfold Cl at h ⊢
  rw [List.length_append, List.length_singleton, List.all_append, Bool.and_eq_true]
  refine ⟨List.all_eq_true.mpr fun x hx => closedM_up (by omega) x (List.all_eq_true.mp h x hx), by simp [ho]⟩
/-- what is behind m is forgotten -/
theorem shut_app (h : Cl m) (n : Mem) (d : D) (hd : closedD m.length d = true) : shut m.length (.ok d (m ++ n)) = .ok d m := by
  show (if _ then _ else _) = _
  have : (m ++ n).take m.length = m := by simp
  rw [this, hd]
  rw [if_pos (by rw [Bool.true_and]; exact h)]
theorem shut_app_set (h : Cl m) (n : Mem) {o : Mob} (ho : IsBag o) (d : D) (hd : closedD m.length d = true) : shut m.length (.ok d (m.set b o ++ n)) = .ok d (m.set b o) := by
  have := shut_app (m := m.set b o) (h.set (closed_bag _ ho)) n d (by rw [List.length_set]; exact hd)
  rw [List.length_set] at this
  exact this
end
@[simp] theorem pow18 (m : Mem) : binop .pow (.int 10) (.int 18) m = .ok (.int 1000000000000000000) m := by
  rw [b_pow (by decide)]; rfl
theorem cell_ok (ns : List Int) (k : Int) (hk : 0 ≤ k) (m : Mem) : ∃ v, Φ 6 [.scr ns, .int k] m = .ok (.int v) m := by
  rw [R_law_cell_at]
  by_cases h : k < ns.length
  · have e : ixop (.scr ns) (.int k) m = .ok (.int (ns.getD k.toNat 0)) m := by
      have : atI ns k = some (ns.getD k.toNat 0) := by
        have := atI_nat ns k.toNat
        rw [Int.toNat_of_nonneg hk] at this
        rw [this, List.getElem?_eq_getElem (by omega)]
        simp [List.getD, List.getElem?_eq_getElem (show k.toNat < ns.length by omega)]
      simp [ixop, seqD, this]
    exact ⟨_, by simp [f_law_cell_at, h, e]; rfl⟩
  · exact ⟨0, by simp [f_law_cell_at, h]⟩
@[simp] theorem ownop_lst (l : List D) (m : Mem) : ownop (.lst l) m = .ok (.ref m.length) (m ++ [.lst l]) := (rfl)
theorem get_app (m : Mem) (o : Mob) : (m ++ [o])[m.length]? = some o := by simp
theorem set_app (m : Mem) (o o' : Mob) : (m ++ [o]).set m.length o' = m ++ [o'] := by simp
theorem draws_ok (cell : Int) {m : Mem} (h : Cl m) : ∃ ds : List Int, Φ 7 [.int cell, .int 400, .int 1000] m = .ok (.lst (ds.map .int)) m ∧ ds ≠ [] := by
  rw [R_law_draws]
  let I : Nat → Env → Mem → Prop := fun i ρ m' => ∃ (ds : List Int) (r s : Int) (x : Option D), ρ = [some (.int cell), some (.int 400), some (.int 1000), some (.ref m.length), some (.int r), some (.int s), x] ∧ m' = m ++ [.lst (ds.map .int)] ∧ 0 ≤ r ∧ 0 ≤ s ∧ s < 2305843009213693951 ∧ ds.length = i - 3
  have hI : ∀ r : Int, 0 ≤ r → I 0 [some (.int cell), some (.int 400), some (.int 1000), some (.ref m.length), some (.int r), some (.int (cell % 2305843009213693951)), none] (m ++ [.lst []]) := fun r hr =>
    ⟨[], r, cell % 2305843009213693951, none, rfl, rfl, hr, Int.emod_nonneg _ (by omega), Int.emod_lt_of_pos _ (by omega), rfl⟩
  have step : ∀ i x ρ m', (rg 0 403)[i]? = some x → I i ρ m' → ∃ ρ' ρ2 m2, bindTg (.nm 6) (.int x) ρ = some ρ' ∧ evSs Φ f_law_draws_b1 ρ' m' = .nx ρ2 m2 ∧ I (i + 1) ρ2 m2 := by
    rintro i x ρ m' hx ⟨ds, r, s, x0, rfl, rfl, hr, hs1, hs2, hl⟩
    have hi : i < 403 := by
      have := (List.getElem?_eq_some_iff.mp hx).1
      simpa using this
    rw [rg_get hi] at hx
    have ex : x = i := by simp at hx; omega
    subst ex
    have hd := get_app m (.lst (ds.map .int))
    have hz : (ds.map D.int).length < 16777216 := by rw [List.length_map]; omega
    by_cases h1 : (2 : Int) < (i : Int)
    · by_cases h2 : 0 < r
      · refine ⟨_, _, _, rfl, ?_, ds ++ [r % 1000], r / 1000, (s * s + 48271 * s + (i : Int) + 1) % 2305843009213693951, some (.int i), rfl, rfl, by omega, Int.emod_nonneg _ (by omega), Int.emod_lt_of_pos _ (by omega), by simp; omega⟩
        simp (disch := omega) [f_law_draws_b1, h1, h2, isLst_ref hd, appop_ref hd hz]
      · refine ⟨_, _, _, rfl, ?_, ds ++ [(s * s + 48271 * s + (i : Int) + 1) % 2305843009213693951 / 4096 % 1000], r, (s * s + 48271 * s + (i : Int) + 1) % 2305843009213693951, some (.int i), rfl, rfl, by omega, Int.emod_nonneg _ (by omega), Int.emod_lt_of_pos _ (by omega), by simp; omega⟩
        simp (disch := omega) [f_law_draws_b1, h1, h2, isLst_ref hd, appop_ref hd hz]
    · refine ⟨_, _, _, rfl, ?_, ds, r, (s * s + 48271 * s + (i : Int) + 1) % 2305843009213693951, some (.int i), rfl, rfl, hr, Int.emod_nonneg _ (by omega), Int.emod_lt_of_pos _ (by omega), by omega⟩
      simp (disch := omega) [f_law_draws_b1, h1]
  have fin : ∀ r : Int, 0 ≤ r → ∃ ds : List Int, ds ≠ [] ∧ ∃ r' s' x', forL (evSs Φ f_law_draws_b1) (.nm 6) ((rg 0 403).map .int)
        [some (.int cell), some (.int 400), some (.int 1000), some (.ref m.length), some (.int r), some (.int (cell % 2305843009213693951)), none] (m ++ [.lst []]) =
        .nx [some (.int cell), some (.int 400), some (.int 1000), some (.ref m.length), some (.int r'), some (.int s'), x'] (m ++ [.lst (ds.map .int)]) := fun r hr => by
    obtain ⟨ρ2, m2, e1, ds, r', s', x', rfl, rfl, _, _, _, hl⟩ := forL_idx D.int (rg 0 403) I step (hI r hr)
    refine ⟨ds, fun z => ?_, _, _, _, e1⟩
    subst z
    simp at hl
  by_cases h1 : (1000000000000000000 : Int) ≤ cell
  · obtain ⟨ds, hd, r', s', x', e1⟩ := fin cell (by omega)
    have hf := get_app m (.lst (ds.map .int))
    exact ⟨ds, by simp (disch := omega) [f_law_draws, y_for, h1, rngD_rg, e1, frzop, List.getElem?_cons_zero, hf, set_app, shut_app h [.dead] (.lst (ds.map .int)) (by simp [closedD, closedL_ints])], hd⟩
  · obtain ⟨ds, hd, r', s', x', e1⟩ := fin 0 (by omega)
    have hf := get_app m (.lst (ds.map .int))
    exact ⟨ds, by simp (disch := omega) [f_law_draws, y_for, h1, rngD_rg, e1, frzop, List.getElem?_cons_zero, hf, set_app, shut_app h [.dead] (.lst (ds.map .int)) (by simp [closedD, closedL_ints])], hd⟩
theorem bag_ok (ns : List Int) (k : Int) (hk : 0 ≤ k) {m : Mem} (h : Cl m) : ∃ o, Φ 8 [.scr ns, .int k] m = .ok (.ref m.length) (m ++ [o]) ∧ IsBag o := by
  rw [R_law_bag]
  obtain ⟨v, e1⟩ := cell_ok ns k hk m
  obtain ⟨ds, e2, hd⟩ := draws_ok v h
  refine ⟨bagM ds 0, ?_, ds, 0, rfl, hd⟩
  have e3 : shut m.length (.ok (.ref m.length) (m ++ [bagM ds 0])) = .ok (.ref m.length) (m ++ [bagM ds 0]) := by
    show (if _ then _ else _) = _
    rw [if_neg (by simp [closedD])]
  have e4 : (2 : Nat) ≤ LIM := by decide
  rw [bagM] at e3
  simp (disch := omega) [f_law_bag, e1, e2, e4, e3, bagM]
/-- the bags of a script -/
structure Bags (m : Mem) (n : Nat) : Prop where
  cl : Cl m
  le : n ≤ m.length
  bag : ∀ b, b < n → BagAt m b
theorem bags_ok (ns : List Int) : ∃ (n : Nat) (m : Mem), Φ 9 [.scr ns, .int 8] [] = .ok (.lst ((List.range n).map .ref)) m ∧ Bags m n := by
  let n := (max 1 (min 8 (ns.length : Int))).toNat
  have hn : n ≤ 8 := by omega
  have key : ∀ (k : Nat) (i : Nat) (m : Mem), i + k = n → Bags m i → m.length = i →
      ∃ m', compL (fun ρ m => (evT Φ [] ρ m).calm) (fun ρ m => (ev Φ (.call 8 [.var 0, .var 2]) ρ m).calm) (.nm 2) (wipeE [some (.scr ns), some (.int 8), none] [2]) (((List.range' i k).map fun (j : Nat) => D.int (j : Int))) m = .ok ((List.range' i k).map .ref) m' ∧ Bags m' n := by
    intro k
    induction k with
    | zero => intro i m hi hb _; exact ⟨m, rfl, (show i = n by omega) ▸ hb⟩
    | succ k ih =>
      intro i m hi hb hl
      obtain ⟨o, e1, ho⟩ := bag_ok ns i (by omega) hb.cl
      have hb' : Bags (m ++ [o]) (i + 1) := by
        refine ⟨hb.cl.app (closed_bag _ ho), by simp; omega, fun b hb2 => ?_⟩
        by_cases h : b < i
        · exact (hb.bag b h).app _
        · have : b = m.length := by omega
          subst this
          exact ⟨o, by simp, ho⟩
      obtain ⟨m', e2, h2⟩ := ih (i + 1) (m ++ [o]) (by omega) hb' (by simp; omega)
      refine ⟨m', ?_, h2⟩
      rw [List.range'_succ, List.map_cons, List.map_cons]
      unfold compL
      simp [wipeE, e1]
      simp [wipeE] at e2
      rw [e2, hl]
      rfl
  obtain ⟨m', e1, h1⟩ := key n 0 [] (by omega) ⟨Cl.nil, Nat.le_refl _, fun b hb => absurd hb (Nat.not_lt_zero _)⟩ rfl
  refine ⟨n, m', ?_, h1⟩
  rw [R_law_bags]
  have e2 : rngD 0 (max 1 (min 8 (ns.length : Int))).toNat = (List.range' 0 n).map fun (j : Nat) => D.int (j : Int) := by
    rw [← List.range_eq_range']
    simp [rngD, n]
  have e3 : n ≤ LIM := by unfold LIM; omega
  have e4 : shut ([] : Mem).length (.ok (.lst ((List.range n).map .ref)) m') = .ok (.lst ((List.range n).map .ref)) m' := by
    show (if _ then _ else _) = _
    rw [if_neg]
    have : n ≠ 0 := by omega
    obtain ⟨k, hk⟩ := Nat.exists_eq_succ_of_ne_zero this
    rw [hk, List.range_succ_eq_map]
    simp [closedD, closedL]
  rw [List.range_eq_range'] at e4 ⊢
  have e5 : ev Φ f_law_bags_c1 [some (.scr ns), some (.int 8), none] [] = .ok (.lst ((List.range' 0 n).map .ref)) m' := by
    rw [f_law_bags_c1, x_comp]
    simp (disch := omega) only [x_cons, x_nil, x_blt, x_int, x_var, look_zero, look_succ, Res.bind_ok, l_len, lenop_scr, l_min2, l_max2, its_rng1, e2, List.length_map, List.length_range', e3, if_true, e1, Res.calm_ok]
  simp [f_law_bags, e5]
  exact e4
end HD
end

section
set_option Elab.async false
set_option linter.all false
set_option maxRecDepth 100000
/-! B6: draws out of a bag. -/
namespace HD
open L2 (atI ixN)
section
variable {m : Mem} {b : Nat} {o : Mob}
theorem take_set (h : BagAt m b) (ho : IsBag o) {n : Int} (hn : 0 < n) : ∃ v o', Φ 10 [.ref b, .int n] (m.set b o) = .ok (.int v) (m.set b o') ∧ IsBag o' ∧ 0 ≤ v ∧ v < n := by
  obtain ⟨v, o', e, h1, h2⟩ := take_ok (h.set ho) hn
  rw [List.set_set] at e
  exact ⟨v, o', e, h1, h2⟩
theorem far_ok (h : BagAt m b) {n : Int} (hn : 0 < n) (hb : n < 1000 ^ 100) : ∃ v o', Φ 41 [.ref b, .int n] m = .ok (.int v) (m.set b o') ∧ IsBag o' ∧ 0 ≤ v ∧ v < n := by
  have loop : ∀ (k fuel : Nat) (found much : Int) (o : Mob), IsBag o → 0 ≤ much → much < 1000 ^ k → k < fuel →
      ∃ found' much' o', whlL (ev Φ (.cmp .gt (.var 3) (.int 0))) (evSs Φ f_law_far_draw_b1) fuel [some (.ref b), some (.int n), some (.int found), some (.int much)] (m.set b o) =
        .nx [some (.ref b), some (.int n), some (.int found'), some (.int much')] (m.set b o') ∧ IsBag o' := by
    intro k
    induction k with
    | zero =>
      intro fuel found much o ho h0 h1 hf
      obtain ⟨fuel, rfl⟩ : ∃ j, fuel = j + 1 := ⟨fuel - 1, by omega⟩
      have : ¬ 0 < much := by simp at h1; omega
      exact ⟨found, much, o, by unfold whlL; simp [this], ho⟩
    | succ k ih =>
      intro fuel found much o ho h0 h1 hf
      obtain ⟨fuel, rfl⟩ : ∃ j, fuel = j + 1 := ⟨fuel - 1, by omega⟩
      by_cases hp : 0 < much
      · obtain ⟨v, o1, e1, ho1, _⟩ := take_set h ho (n := 1000) (by omega)
        have h2 : much / 1000 < 1000 ^ k := by
          rw [Int.pow_succ] at h1
          exact Int.ediv_lt_of_lt_mul (by omega) h1
        obtain ⟨f', m', o', e2, ho'⟩ := ih fuel (1000 * found + v) (much / 1000) o1 ho1 (by omega) h2 (by omega)
        refine ⟨f', m', o', ?_, ho'⟩
        unfold whlL
        simp (disch := omega) [hp, f_law_far_draw_b1, e1]
        exact e2
      · exact ⟨found, much, o, by unfold whlL; simp [hp], ho⟩
  obtain ⟨o0, hb0, ho0⟩ := h
  have hs : m.set b o0 = m := by
    apply List.ext_getElem?
    intro i
    by_cases e : b = i
    · subst e; rw [List.getElem?_set_self (List.getElem?_eq_some_iff.mp hb0).1, hb0]
    · rw [List.getElem?_set_ne e]
  obtain ⟨f', m', o1, e1, ho1⟩ := loop 100 1000000 0 n o0 ho0 (by omega) hb (by omega)
  rw [hs] at e1
  obtain ⟨v, o2, e2, ho2, h1, h2⟩ := take_set ⟨o0, hb0, ho0⟩ ho1 (n := 4) (by omega)
  have h4 : (4 : Nat) ≤ LIM := by decide
  rw [R_law_far_draw]
  have hv : v = 0 ∨ v = 1 ∨ v = 2 ∨ v = 3 := by omega
  rcases hv with rfl | rfl | rfl | rfl
  · exact ⟨f' % n, o2, by simp (disch := omega) [f_law_far_draw, y_whl, e1, e2, h4], ho2, Int.emod_nonneg _ (by omega), Int.emod_lt_of_pos _ hn⟩
  · exact ⟨0, o2, by simp (disch := omega) [f_law_far_draw, y_whl, e1, e2, h4], ho2, by omega, hn⟩
  · exact ⟨n - 1, o2, by simp (disch := omega) [f_law_far_draw, y_whl, e1, e2, h4], ho2, by omega, by omega⟩
  · exact ⟨f' % n, o2, by simp (disch := omega) [f_law_far_draw, y_whl, e1, e2, h4], ho2, Int.emod_nonneg _ (by omega), Int.emod_lt_of_pos _ hn⟩
end
end HD
end

section
set_option Elab.async false
set_option linter.all false
set_option maxRecDepth 100000
set_option maxHeartbeats 1000000
/-! B7: rules out of a bag. -/
namespace HD
open L2 (atI ixN)
@[simp] theorem lim2 : (2 : Nat) ≤ LIM := by decide
@[simp] theorem lim3 : (3 : Nat) ≤ LIM := by decide
@[simp] theorem lim4 : (4 : Nat) ≤ LIM := by decide
@[simp] theorem lim1 : (1 : Nat) ≤ LIM := by decide
section
variable {m : Mem} {b : Nat} {o : Mob}
theorem far_set (h : BagAt m b) (ho : IsBag o) {n : Int} (hn : 0 < n) (hb : n < 1000 ^ 100) : ∃ v o', Φ 41 [.ref b, .int n] (m.set b o) = .ok (.int v) (m.set b o') ∧ IsBag o' ∧ 0 ≤ v ∧ v < n := by
  obtain ⟨v, o', e, h1, h2⟩ := far_ok (h.set ho) hn hb
  rw [List.set_set] at e
  exact ⟨v, o', e, h1, h2⟩
/-- one of two, of three -/
theorem ix2 (x y : Int) {v : Int} (h : 0 ≤ v ∧ v < 2) : ∃ z, (∀ m, ixop (.lst [.int x, .int y]) (.int v) m = .ok (.int z) m) ∧ (z = x ∨ z = y) := by
  have hv : v = 0 ∨ v = 1 := by omega
  rcases hv with rfl | rfl
  · exact ⟨x, fun m => by simp, .inl rfl⟩
  · exact ⟨y, fun m => by simp, .inr rfl⟩
theorem ix3 (x y u : Int) {v : Int} (h : 0 ≤ v ∧ v < 3) : ∃ z, (∀ m, ixop (.lst [.int x, .int y, .int u]) (.int v) m = .ok (.int z) m) ∧ (z = x ∨ z = y ∨ z = u) := by
  have hv : v = 0 ∨ v = 1 ∨ v = 2 := by omega
  rcases hv with rfl | rfl | rfl
  · exact ⟨x, fun m => by simp, .inl rfl⟩
  · exact ⟨y, fun m => by simp, .inr (.inl rfl)⟩
  · exact ⟨u, fun m => by simp, .inr (.inr rfl)⟩
theorem far_rule_ok (h : BagAt m b) : ∃ a s w l o', Φ 43 [.ref b] m = .ok (RU a s w l) (m.set b o') ∧ IsBag o' ∧ GoodR a s w l ∧ a * s ≤ 10000 := by
  obtain ⟨v1, o1, e1, ho1, b1⟩ := take_ok h (n := 100) (by omega)
  obtain ⟨v2, o2, e2, ho2, b2⟩ := take_set h ho1 (n := 100) (by omega)
  obtain ⟨v3, o3, e3, ho3, b3⟩ := take_set h ho2 (n := 2) (by omega)
  obtain ⟨z, ez, hz⟩ := ix2 (1 + v2) (min (1 + v2) 4) b3
  obtain ⟨v4, o4, e4, ho4, b4⟩ := take_set h ho3 (n := z) (by omega)
  obtain ⟨v5, o5, e5, ho5, b5⟩ := take_set h ho4 (n := 3) (by omega)
  obtain ⟨y, ey, hy⟩ := ix3 ((1 + v1) * ((1 + v2) - (1 + v4))) (min ((1 + v1) * ((1 + v2) - (1 + v4))) 12) 0 b5
  have hp : 0 ≤ (1 + v1) * ((1 + v2) - (1 + v4)) := Int.mul_nonneg (by omega) (by omega)
  have hq : (1 + v1) * ((1 + v2) - (1 + v4)) ≤ 100 * 100 := Int.mul_le_mul (by omega) (by omega) (by omega) (by omega)
  have hy0 : 0 ≤ y ∧ y ≤ (1 + v1) * ((1 + v2) - (1 + v4)) := by omega
  obtain ⟨v6, o6, e6, ho6, b6⟩ := far_set h ho5 (n := y + 1) (by omega) (by omega)
  have hs : (1 + v1) * (1 + v2) ≤ 100 * 100 := Int.mul_le_mul (by omega) (by omega) (by omega) (by omega)
  refine ⟨1 + v1, 1 + v2, 1 + v4, v6, o6, ?_, ho6, ⟨⟨by omega, by omega⟩, ⟨by omega, by omega⟩, ⟨by omega, by omega⟩, by omega, by omega⟩, by omega⟩
  rw [R_law_far_rule]
  simp (disch := omega) [f_law_far_rule, e1, e2, e3, ez, e4, e5, ey, e6]
/-- the rule of at most so many runners, heats and sizes up to 100 -/
theorem rule_k04_ok (h : BagAt m b) {most : Int} (hm : 1 ≤ most ∧ most ≤ 10000) : ∃ a s w l o', Φ 42 [.ref b, .int most] m = .ok (RU a s w l) (m.set b o') ∧ IsBag o' ∧ GoodR a s w l ∧ a * s ≤ most := by
  obtain ⟨v1, o1, e1, ho1, b1⟩ := take_ok h (n := 3) (by omega)
  obtain ⟨z, ez, hz⟩ := ix3 (min 100 most) (max 1 (min 100 (most / 2))) (min most 4) b1
  obtain ⟨v2, o2, e2, ho2, b2⟩ := take_set h ho1 (n := z) (by omega)
  have hd : 0 ≤ most / (1 + v2) := Int.ediv_nonneg (by omega) (by omega)
  obtain ⟨v3, o3, e3, ho3, b3⟩ := take_set h ho2 (n := max 1 (min 100 (most / (1 + v2)))) (by omega)
  obtain ⟨v4, o4, e4, ho4, b4⟩ := take_set h ho3 (n := 3) (by omega)
  obtain ⟨u, eu, hu⟩ := ix3 (1 + v3) (max 1 ((1 + v3) / 2)) 1 b4
  obtain ⟨v5, o5, e5, ho5, b5⟩ := take_set h ho4 (n := u) (by omega)
  obtain ⟨v6, o6, e6, ho6, b6⟩ := take_set h ho5 (n := 3) (by omega)
  have hp : 0 ≤ (1 + v2) * ((1 + v3) - (1 + v5)) := Int.mul_nonneg (by omega) (by omega)
  obtain ⟨y, ey, hy⟩ := ix3 ((1 + v2) * ((1 + v3) - (1 + v5)) + 1) (min ((1 + v2) * ((1 + v3) - (1 + v5))) 4 + 1) 1 b6
  obtain ⟨v7, o7, e7, ho7, b7⟩ := take_set h ho6 (n := y) (by omega)
  have hs : (1 + v2) * (1 + v3) ≤ most := by
    by_cases hc : 1 + v3 ≤ most / (1 + v2)
    · have := Int.mul_le_mul_of_nonneg_left hc (show 0 ≤ 1 + v2 by omega)
      have := Int.mul_ediv_self_le (x := most) (k := 1 + v2) (by omega)
      omega
    · have h3 : v3 = 0 := by omega
      subst h3
      omega
  refine ⟨1 + v2, 1 + v3, 1 + v5, v7, o7, ?_, ho7, ⟨⟨by omega, by omega⟩, ⟨by omega, by omega⟩, ⟨by omega, by omega⟩, by omega, by omega⟩, hs⟩
  rw [R_law_rule_k04]
  simp (disch := omega) [f_law_rule_k04, e1, ez, e2, e3, e4, eu, e5, e6, ey, e7]
end
end HD
end

section
set_option Elab.async false
set_option linter.all false
set_option maxRecDepth 100000
set_option maxHeartbeats 1000000
/-! B8: items mixed; draws dealt. -/
namespace HD
open L2 (atI ixN)
section
variable {m : Mem} {b : Nat} {o : Mob}
theorem two0 (m : Mem) (A B : Mob) : (m ++ [A, B])[m.length]? = some A := by simp
theorem two1 (m : Mem) (A B : Mob) : (m ++ [A, B])[m.length + 1]? = some B := by simp
theorem two0s (m : Mem) (A B A' : Mob) : (m ++ [A, B]).set m.length A' = m ++ [A', B] := by simp
theorem two1s (m : Mem) (A B B' : Mob) : (m ++ [A, B]).set (m.length + 1) B' = m ++ [A, B'] := by
  rw [List.set_append_right _ _ (by omega)]
  simp
theorem popop_ref {n : Nat} {l : List D} (h : m[n]? = some (.lst l)) {i : Int} {d : D} (hi : 0 ≤ i ∧ i < l.length) (hs : i < 4611686018427387904) (hd : l[i.toNat]? = some d) : popop (.ref n) (.int i) m = .ok d (m.set n (.lst (l.eraseIdx i.toNat))) := by
  have e1 : ixN l.length i = some i.toNat := by
    unfold ixN
    rw [if_pos hi.1, if_pos hi.2]
  have e2 : small62 i = true := by simp [small62]; omega
  simp [popop, h, e1, hd, e2]
theorem take_in (h : BagAt m b) (X : Mem) {n : Int} (hn : 0 < n) : ∃ v o', Φ 10 [.ref b, .int n] (m ++ X) = .ok (.int v) (m.set b o' ++ X) ∧ IsBag o' ∧ 0 ≤ v ∧ v < n := by
  obtain ⟨v, o', e, h1, h2⟩ := take_ok (h.app X) hn
  rw [List.set_append_left _ _ h.lt] at e
  exact ⟨v, o', e, h1, h2⟩
theorem erase_perm {α : Type} : ∀ (ls : List α) (i : Nat) (y : α), ls[i]? = some y → ([y] ++ ls.eraseIdx i).Perm ls
  | [], _, _, h => by simp at h
  | x :: ls, 0, y, h => by simp at h; subst h; exact List.Perm.refl _
  | x :: ls, i + 1, y, h => by
    have ih := erase_perm ls i y (by simpa using h)
    show (y :: x :: ls.eraseIdx i).Perm (x :: ls)
    exact (List.Perm.swap x y _).trans (List.Perm.cons x ih)
theorem erase_map {α β : Type} (f : α → β) : ∀ (l : List α) (i : Nat), (l.map f).eraseIdx i = (l.eraseIdx i).map f
  | [], _ => rfl
  | _ :: _, 0 => rfl
  | x :: l, i + 1 => by
    show f x :: (l.map f).eraseIdx i = f x :: (l.eraseIdx i).map f
    rw [erase_map f l i]
theorem perm_erase {α : Type} {fs ls xs : List α} (h : (fs ++ ls).Perm xs) {i : Nat} {y : α} (hy : ls[i]? = some y) : (fs ++ [y] ++ ls.eraseIdx i).Perm xs := by
  refine List.Perm.trans ?_ h
  rw [List.append_assoc]
  refine List.Perm.append_left fs ?_
  exact erase_perm ls i y hy
theorem set_same (h : m[b]? = some o) : m.set b o = m := by
  apply List.ext_getElem?
  intro i
  by_cases e : b = i
  · subst e; rw [List.getElem?_set_self (List.getElem?_eq_some_iff.mp h).1, h]
  · rw [List.getElem?_set_ne e]
theorem mixed_ok {α : Type} (g : α → D) (xs : List α) (h : BagAt m b) (hc : Cl m) (hx : xs.length ≤ 100000) (hcl : ∀ x, closedD m.length (g x) = true) (he : ∀ (ls : List α) (M : Mem), eqv (.lst (ls.map g)) (.lst []) M = some (decide (ls = []))) :
    ∃ (ys : List α) (o' : Mob), Φ 15 [.ref b, .lst (xs.map g)] m = .ok (.lst (ys.map g)) (m.set b o') ∧ IsBag o' ∧ ys.Perm xs := by
  have hcl2 : ∀ l : List α, closedL m.length (l.map g) = true := fun l => by
    induction l with
    | nil => rfl
    | cons x r ih => simp [closedL, hcl, ih]
  have loop : ∀ (fuel : Nat) (fs ls : List α) (o : Mob), IsBag o → (fs ++ ls).Perm xs → ls.length < fuel →
      ∃ (ys : List α) (o' : Mob), whlL (ev Φ (.cmp .ne (.var 2) (.lst []))) (evSs Φ f_law_mixed_b1) fuel [some (.ref b), some (.lst (xs.map g)), some (.ref m.length), some (.ref (m.length + 1))] (m.set b o ++ [.lst (ls.map g), .lst (fs.map g)]) =
        .nx [some (.ref b), some (.lst (xs.map g)), some (.ref m.length), some (.ref (m.length + 1))] (m.set b o' ++ [.lst [], .lst (ys.map g)]) ∧ IsBag o' ∧ ys.Perm xs := by
    intro fuel
    induction fuel with
    | zero => intro fs ls o _ _ hf; exact absurd hf (Nat.not_lt_zero _)
    | succ fuel ih =>
      intro fs ls o ho hp hf
      have g0 := two0 (m.set b o) (.lst (ls.map g)) (.lst (fs.map g))
      rw [List.length_set] at g0
      have q := eqv_ref g0 (.lst [])
      rw [he] at q
      cases ls with
      | nil =>
        refine ⟨fs, o, ?_, ho, by simpa using hp⟩
        unfold whlL
        simp at q ⊢
        simp [q]
      | cons l0 ls0 =>
        generalize hls : l0 :: ls0 = ls at *
        have hne : ls ≠ [] := by rw [← hls]; simp
        have hl0 : 0 < ls.length := List.length_pos_iff.mpr hne
        have hlen := hp.length_eq
        rw [List.length_append] at hlen
        obtain ⟨v, o2, e2, ho2, hv1, hv2⟩ := take_in (h.set ho) [.lst (ls.map g), .lst (fs.map g)] (n := (ls.length : Int)) (by omega)
        rw [List.set_set] at e2
        have hg : ls[v.toNat]? = some (ls[v.toNat]'(by omega)) := List.getElem?_eq_getElem (by omega)
        have gl : (ls.map g)[v.toNat]? = some (g (ls[v.toNat]'(by omega))) := by rw [List.getElem?_map, hg]; rfl
        have g2 := two0 (m.set b o2) (.lst (ls.map g)) (.lst (fs.map g))
        rw [List.length_set] at g2
        have pp := popop_ref g2 (i := v) (by rw [List.length_map]; omega) (by omega) gl
        have s2 := two0s (m.set b o2) (.lst (ls.map g)) (.lst (fs.map g)) (.lst ((ls.map g).eraseIdx v.toNat))
        rw [List.length_set] at s2
        rw [s2] at pp
        have g3 := two1 (m.set b o2) (.lst ((ls.map g).eraseIdx v.toNat)) (.lst (fs.map g))
        rw [List.length_set] at g3
        have ap := appop_ref g3 (by rw [List.length_map]; omega) (g (ls[v.toNat]'(by omega)))
        have s3 := two1s (m.set b o2) (.lst ((ls.map g).eraseIdx v.toNat)) (.lst (fs.map g)) (.lst (fs.map g ++ [g (ls[v.toNat]'(by omega))]))
        rw [List.length_set] at s3
        rw [s3] at ap
        have g1 := two1 (m.set b o) (.lst (ls.map g)) (.lst (fs.map g))
        rw [List.length_set] at g1
        have hE : (ls.map g).eraseIdx v.toNat = (ls.eraseIdx v.toNat).map g := erase_map g ls _
        have hF : fs.map g ++ [g (ls[v.toNat]'(by omega))] = (fs ++ [ls[v.toNat]'(by omega)]).map g := by simp
        rw [hE, hF] at ap
        rw [hE] at pp
        obtain ⟨ys, o', e3, ho', hp'⟩ := ih (fs ++ [ls[v.toNat]'(by omega)]) (ls.eraseIdx v.toNat) o2 ho2 (perm_erase hp hg) (by rw [List.length_eraseIdx]; split <;> omega)
        refine ⟨ys, o', ?_, ho', hp'⟩
        have ln := lenop_ref g0
        rw [List.length_map] at ln
        have body : evSs Φ f_law_mixed_b1 [some (.ref b), some (.lst (xs.map g)), some (.ref m.length), some (.ref (m.length + 1))] (m.set b o ++ [.lst (ls.map g), .lst (fs.map g)]) =
            .nx [some (.ref b), some (.lst (xs.map g)), some (.ref m.length), some (.ref (m.length + 1))] (m.set b o2 ++ [.lst ((ls.eraseIdx v.toNat).map g), .lst ((fs ++ [ls[v.toNat]'(by omega)]).map g)]) := by
          simp only [x_var, look_zero, look_succ, Res.bind_ok, x_nil, if_true, Res.toS_ok, f_law_mixed_b1, y_cons, y_app, isLst_ref g1, x_popAt, isLst_ref g0, x_call, x_cons, x_blt, l_len, ln, e2, pp, ap, okM_some, SRes.bind_nx, y_nil]
        unfold whlL
        simp only [x_cmp, x_var, look_zero, look_succ, Res.bind_ok, x_lst, x_nil, List.length_nil, Nat.zero_le, if_true, c_ne, q, hne, decide_false, Option.map_some, Bool.not_false, okB_yes, Res.toS_ok, blOf_bl, body, SRes.bind_nx, e3]
  obtain ⟨o0, hb0, ho0⟩ := h
  obtain ⟨ys, o', e1, ho', hp⟩ := loop 1000000 [] xs o0 ho0 (List.Perm.refl _) (by omega)
  rw [set_same hb0] at e1
  refine ⟨ys, o', ?_, ho', hp⟩
  rw [R_law_mixed]
  have g3 := two1 (m.set b o') (.lst []) (.lst (ys.map g))
  rw [List.length_set] at g3
  have s3 := two1s (m.set b o') (.lst []) (.lst (ys.map g)) .dead
  rw [List.length_set] at s3
  have sh := shut_app_set (b := b) hc [.lst [], .dead] ho' (.lst (ys.map g)) (by simp [closedD, hcl2])
  simp [f_law_mixed, y_whl] at e1 ⊢
  simp [e1, frzop, g3, s3, sh]
end
end HD
end

section
set_option Elab.async false
set_option linter.all false
set_option maxRecDepth 100000
set_option maxHeartbeats 1000000
/-! B9: draws dealt, and who goes on. -/
namespace HD
open L2 (atI ixN)
abbrev LI (l : List Int) : D := .lst (l.map .int)
abbrev TI (l : List Int) : D := .tup (l.map .int)
abbrev TT (hs : List (List Int)) : D := .tup (hs.map fun x => .tup (x.map .int))
/-- a row dealt to h heats of s -/
def dealF (h s : Nat) (row : List Int) : List (List Int) := (List.range h).map fun i => sortI ((row.drop (i * s)).take s)
def someF (w : Nat) (hs : List (List Int)) : List Int := hs.flatMap fun x => x.take w
def othersF (w : Nat) (hs : List (List Int)) : List Int := hs.flatMap fun x => x.drop w
section
variable {m : Mem} {b : Nat} {o : Mob}
def dealtE : C := .blt .tuple [.blt .sorted [.sl (.var 1) (some (.bin .mul (.var 4) (.var 3))) (some (.bin .mul (.bin .add (.var 4) (.int 1)) (.var 3)))]]
theorem dealtE_ok {r : D} {h s : Int} (hs : 0 ≤ s ∧ s ≤ 10000) (row : List Int) (i : Nat) : ev Φ dealtE [some r, some (LI row), some (.int h), some (.int s), some (.int (i : Int))] m = .ok (.tup ((sortI ((row.drop (i * s.toNat)).take s.toNat)).map .int)) m := by
  have e1 : ((i : Int) * s).toNat = i * s.toNat := by
    rw [Int.toNat_mul (by omega) (by omega)]; simp
  have e2 : (((i : Int) + 1) * s).toNat = i * s.toNat + s.toNat := by
    rw [Int.toNat_mul (by omega) (by omega)]
    rw [show ((i : Int) + 1).toNat = i + 1 by omega, Nat.add_mul, Nat.one_mul]
  have p1 : 0 ≤ (i : Int) * s := Int.mul_nonneg (by omega) (by omega)
  have p2 : 0 ≤ ((i : Int) + 1) * s := Int.mul_nonneg (by omega) (by omega)
  have k1 : binop .mul (.int (i : Int)) (.int s) m = .ok (.int ((i : Int) * s)) m := b_mul (.inr ⟨by omega, by omega⟩)
  have k2 : binop .mul (.int ((i : Int) + 1)) (.int s) m = .ok (.int (((i : Int) + 1) * s)) m := b_mul (.inr ⟨by omega, by omega⟩)
  have k3 := cutI_mid row ⟨p1, p2⟩
  rw [e1, e2, Nat.add_sub_cancel_left] at k3
  simp only [dealtE, x_blt, x_cons, x_nil, x_sl, x_some, x_var, x_bin, x_int, look_zero, look_succ, Res.bind_ok, k1, k2, b_add, intO_int, slop_lst, k3, l_sorted, l_tuple, tupleop_lst]
theorem dealtC_ok {r : D} {h s : Int} (hh : 0 ≤ h ∧ h ≤ 10000) (hs : 0 ≤ s ∧ s ≤ 10000) (row : List Int) : ev Φ f_law_dealt_c1 [some r, some (LI row), some (.int h), some (.int s), none] m = .ok (.lst ((dealF h.toNat s.toNat row).map fun x => .tup (x.map .int))) m := by
  have key := compL_all (tst := fun ρ m => (evT Φ [] ρ m).calm) (elt := fun ρ m => (ev Φ dealtE ρ m).calm)
    (t := .nm 4) (ρ := [some r, some (LI row), some (.int h), some (.int s), none]) (m := m) (fun (i : Nat) => D.int (i : Int)) (fun i => .tup ((sortI ((row.drop (i * s.toNat)).take s.toNat)).map .int)) (List.range h.toNat) (fun i hi =>
      ⟨[some r, some (LI row), some (.int h), some (.int s), some (.int (i : Int))], rfl, by rw [x_t0]; rfl, by rw [dealtE_ok hs]; rfl⟩)
  have hl : (List.range h.toNat).length ≤ LIM := by unfold LIM; simp; omega
  have e0 : rngD 0 h.toNat = (List.range h.toNat).map fun (i : Nat) => D.int (i : Int) := by simp [rngD]
  have e1 : itsOf .rng1 (evL Φ [.var 2] [some r, some (LI row), some (.int h), some (.int s), none] m) = .ok ((List.range h.toNat).map fun (i : Nat) => D.int (i : Int)) m := by
    rw [← e0]
    simp (disch := omega) only [x_cons, x_nil, x_var, look_zero, look_succ, Res.bind_ok, its_rng1]
  rw [f_law_dealt_c1, x_comp, e1]
  rw [Res.bind_ok, List.length_map, if_pos hl]
  show (compL _ (fun ρ m => (ev Φ dealtE ρ m).calm) _ [some r, some (LI row), some (.int h), some (.int s), none] _ m).calm.bind _ = _
  rw [key, Res.calm_ok, Res.bind_ok, dealF, List.map_map]
  rfl
theorem dealt_ok {h s w l : Int} (hh : 0 ≤ h ∧ h ≤ 10000) (hs : 0 ≤ s ∧ s ≤ 10000) (row : List Int) : Φ 16 [RU h s w l, LI row] m = .ok (TT (dealF h.toNat s.toNat row)) m := by
  have c1 := dealtC_ok (r := RU h s w l) (m := m) hh hs row
  rw [R_law_dealt]
  simp [f_law_dealt, c1]
theorem flat_len {f : List Int → List Int} (hf : ∀ x, (f x).length ≤ x.length) : ∀ hs : List (List Int), (hs.flatMap f).length ≤ hs.flatten.length
  | [] => Nat.le_refl _
  | x :: hs => by
    have := flat_len hf hs
    have := hf x
    simp only [List.flatMap_cons, List.flatten_cons, List.length_append]
    omega
theorem flat_take (hs : List (List Int)) (i : Nat) : (hs.take i).flatten.length ≤ hs.flatten.length := by
  have := congrArg List.length (congrArg List.flatten (List.take_append_drop i hs))
  rw [List.flatten_append, List.length_append] at this
  omega
theorem through_ok {h s w l : Int} (hw : 0 ≤ w) (hl : 0 ≤ l) (hs : List (List Int)) (hb : hs.flatten.length ≤ 1000000) :
    Φ 37 [RU h s w l, TT hs] m = .ok (.tup [LI (sortI (someF w.toNat hs)), LI ((sortI (othersF w.toNat hs)).take l.toNat)]) m := by
  let I : Nat → Env → Mem → Prop := fun i ρ m' => ∃ x, ρ = [some (RU h s w l), some (TT hs), some (LI (someF w.toNat (hs.take i))), some (LI (othersF w.toNat (hs.take i))), x] ∧ m = m'
  obtain ⟨ρ2, m2, e1, x2, rfl, rfl⟩ := forL_idx (body := evSs Φ f_law_through_b1) (t := .nm 4) (fun x : List Int => D.tup (x.map .int)) hs I (fun i x ρ m' hx ⟨x0, e0, em⟩ => by
    subst e0 em
    have t1 : hs.take (i + 1) = hs.take i ++ [x] := by rw [List.take_succ, hx]; rfl
    have b1 : (someF w.toNat (hs.take (i + 1))).length ≤ 1000000 := Nat.le_trans (flat_len (f := fun x => x.take w.toNat) (fun x => by simp; omega) _) (Nat.le_trans (flat_take hs _) hb)
    have b2 : (othersF w.toNat (hs.take (i + 1))).length ≤ 1000000 := Nat.le_trans (flat_len (f := fun x => x.drop w.toNat) (fun x => by simp) _) (Nat.le_trans (flat_take hs _) hb)
    have s1 : someF w.toNat (hs.take (i + 1)) = someF w.toNat (hs.take i) ++ x.take w.toNat := by rw [t1]; simp [someF]
    have s2 : othersF w.toNat (hs.take (i + 1)) = othersF w.toNat (hs.take i) ++ x.drop w.toNat := by rw [t1]; simp [othersF]
    rw [s1, List.length_append] at b1
    rw [s2, List.length_append] at b2
    refine ⟨_, _, _, rfl, ?_, some (.tup (x.map .int)), rfl, rfl⟩
    rw [s1, s2]
    have c1 : ((someF w.toNat (hs.take i)).map D.int).length + ((x.take w.toNat).map D.int).length ≤ LIM := by rw [List.length_map, List.length_map]; unfold LIM; omega
    have c2 : ((othersF w.toNat (hs.take i)).map D.int).length + ((x.drop w.toNat).map D.int).length ≤ LIM := by rw [List.length_map, List.length_map]; unfold LIM; omega
    simp (disch := omega) only [f_law_through_b1, y_cons, y_set, x_bin, x_var, look_zero, look_succ, List.set, Res.bind_ok, x_blt, x_cons, x_nil, x_sl, x_none, x_some, x_ix, x_int, ixop_tup, at2, okO_some, intO_int, slop_tup, cutI_take, cutI_drop, l_list, listop_tup, b_addL, c1, c2, if_true, Res.toS_ok, SRes.bind_nx, y_nil, List.map_append, LI]) ⟨none, rfl, rfl⟩
  rw [R_law_through]
  have e1 : forL (evSs Φ f_law_through_b1) (.nm 4) (hs.map fun x => D.tup (x.map .int)) [some (RU h s w l), some (TT hs), some (.lst []), some (.lst []), none] m = _ := e1
  rw [List.take_length] at e1
  simp (disch := omega) [f_law_through, y_for, e1]
end
end HD
end

section
set_option Elab.async false
set_option linter.all false
/-! M1: draws, plain. -/
namespace HD
abbrev Inc (l : List Int) : Prop := l.Pairwise (· < ·)
/-- how many are below r -/
def cnt (r : Int) (l : List Int) : Nat := l.countP fun x => decide (x < r)
@[simp] theorem cnt_nil (r : Int) : cnt r [] = 0 := (rfl)
theorem cnt_cons (r x : Int) (l : List Int) : cnt r (x :: l) = cnt r l + if x < r then 1 else 0 := by
  unfold cnt
  rw [List.countP_cons]
  by_cases h : x < r <;> simp [h]
theorem cnt_append (r : Int) (a b : List Int) : cnt r (a ++ b) = cnt r a + cnt r b := List.countP_append
theorem cnt_perm {a b : List Int} (h : a.Perm b) (r : Int) : cnt r a = cnt r b := h.countP_eq _
theorem cnt_le (r : Int) (l : List Int) : cnt r l ≤ l.length := List.countP_le_length
theorem cnt_zero {r : Int} {l : List Int} (h : ∀ x ∈ l, r ≤ x) : cnt r l = 0 := by
  unfold cnt
  rw [List.countP_eq_zero]
  intro x hx
  have := h x hx
  simp; omega
theorem cnt_mono {r q : Int} (h : r ≤ q) (l : List Int) : cnt r l ≤ cnt q l := by
  unfold cnt
  apply List.countP_mono_left
  intro x _ hx
  simp at hx ⊢
  omega
theorem cnt_take {l : List Int} (h : Inc l) (r : Int) : ∀ k, cnt r (l.take k) = min k (cnt r l) := by
  induction l with
  | nil => intro k; simp
  | cons x l ih =>
    intro k
    have h' := List.pairwise_cons.mp h
    cases k with
    | zero => simp
    | succ k =>
      rw [List.take_succ_cons, cnt_cons, cnt_cons, ih h'.2]
      by_cases hx : x < r
      · simp only [hx, if_true]; omega
      · have : cnt r l = 0 := cnt_zero fun y hy => by have := h'.1 y hy; omega
        simp only [hx, if_false, this]; omega
theorem cnt_drop {l : List Int} (h : Inc l) (r : Int) (k : Nat) : cnt r (l.drop k) = cnt r l - k := by
  have e := cnt_append r (l.take k) (l.drop k)
  rw [List.take_append_drop, cnt_take h] at e
  omega
theorem mem_take {l : List Int} (h : Inc l) {x : Int} (hx : x ∈ l) : ∀ k, x ∈ l.take k ↔ cnt x l < k := by
  induction l with
  | nil => cases hx
  | cons y l ih =>
    intro k
    have h' := List.pairwise_cons.mp h
    cases k with
    | zero => simp
    | succ k =>
      rw [List.take_succ_cons, cnt_cons]
      rcases List.mem_cons.mp hx with rfl | hx
      · have : cnt x l = 0 := cnt_zero fun z hz => by have := h'.1 z hz; omega
        simp [this]
      · have hy := h'.1 x hx
        have ih := ih h'.2 hx k
        simp only [List.mem_cons, hy, if_true]
        constructor
        · rintro (e | e)
          · omega
          · have := ih.mp e; omega
        · intro e
          exact .inr (ih.mpr (by omega))
theorem cnt_succ {l : List Int} (h : Inc l) {x : Int} (hx : x ∈ l) : cnt (x + 1) l = cnt x l + 1 := by
  induction l with
  | nil => cases hx
  | cons y l ih =>
    have h' := List.pairwise_cons.mp h
    rw [cnt_cons, cnt_cons]
    rcases List.mem_cons.mp hx with rfl | hx
    · have e1 : cnt x l = 0 := cnt_zero fun z hz => by have := h'.1 z hz; omega
      have e2 : cnt (x + 1) l = 0 := cnt_zero fun z hz => by have := h'.1 z hz; omega
      rw [e1, e2]
      simp; omega
    · have hy := h'.1 x hx
      rw [ih h'.2 hx]
      simp only [hy, if_true, show y < x + 1 by omega]
theorem rg_succ (a : Int) (n : Nat) : rg a (n + 1) = rg a n ++ [a + n] := by
  simp [rg, List.range_succ]
theorem rg_inc (a : Int) (n : Nat) : Inc (rg a n) := by
  show List.Pairwise _ (List.map _ _)
  rw [List.pairwise_map]
  exact List.pairwise_lt_range.imp fun h => by omega
theorem cnt_rg (r a : Int) : ∀ n : Nat, cnt r (rg a n) = min (r - a).toNat n
  | 0 => by simp [rg]
  | n + 1 => by
    rw [rg_succ, cnt_append, cnt_rg r a n, cnt_cons, cnt_nil]
    split <;> omega
theorem inc_nodup {l : List Int} (h : Inc l) : l.Nodup := h.imp fun h => by omega
/-- sorted and without repeats -/
theorem sort_inc {l : List Int} (h : l.Nodup) : Inc (sortI l) := by
  have h1 : (sortI l).Nodup := (sortI_perm l).nodup_iff.mpr h
  have h2 := sortI_pw l
  rw [List.Nodup] at h1
  have := List.Pairwise.and h2 h1
  exact this.imp fun ⟨a, b⟩ => by omega
/-! heats -/
structure Draw (h s : Nat) (hs : List (List Int)) : Prop where
  len : hs.length = h
  each : ∀ x ∈ hs, x.length = s ∧ Inc x
  perm : hs.flatten.Perm (rg 1 (h * s))
theorem cnt_flat (r : Int) : ∀ hs : List (List Int), cnt r hs.flatten = (hs.map (cnt r)).sum
  | [] => rfl
  | x :: hs => by rw [List.flatten_cons, cnt_append, cnt_flat r hs]; simp
theorem cnt_some {hs : List (List Int)} (w : Nat) (r : Int) (h : ∀ x ∈ hs, Inc x) : cnt r (someF w hs) = (hs.map fun x => min w (cnt r x)).sum := by
  induction hs with
  | nil => rfl
  | cons x hs ih =>
    have : someF w (x :: hs) = x.take w ++ someF w hs := rfl
    rw [this, cnt_append, cnt_take (h x List.mem_cons_self), ih fun y hy => h y (List.mem_cons_of_mem _ hy)]
    simp
theorem cnt_others {hs : List (List Int)} (w : Nat) (r : Int) (h : ∀ x ∈ hs, Inc x) : cnt r (othersF w hs) = (hs.map fun x => cnt r x - w).sum := by
  induction hs with
  | nil => rfl
  | cons x hs ih =>
    have : othersF w (x :: hs) = x.drop w ++ othersF w hs := rfl
    rw [this, cnt_append, cnt_drop (h x List.mem_cons_self), ih fun y hy => h y (List.mem_cons_of_mem _ hy)]
    simp
theorem split_perm (w : Nat) : ∀ hs : List (List Int), (someF w hs ++ othersF w hs).Perm hs.flatten
  | [] => List.Perm.refl _
  | x :: hs => by
    have ih := split_perm w hs
    have e1 : someF w (x :: hs) = x.take w ++ someF w hs := rfl
    have e2 : othersF w (x :: hs) = x.drop w ++ othersF w hs := rfl
    rw [e1, e2, List.flatten_cons]
    have : (x.take w ++ someF w hs ++ (x.drop w ++ othersF w hs)).Perm (x.take w ++ x.drop w ++ (someF w hs ++ othersF w hs)) := by
      rw [List.append_assoc, List.append_assoc]
      refine List.Perm.append_left _ ?_
      rw [← List.append_assoc, ← List.append_assoc]
      exact List.Perm.append_right _ List.perm_append_comm
    refine this.trans ?_
    rw [List.take_append_drop]
    exact List.Perm.append_left _ ih
/-- lots of sums -/
theorem sum_split (w s : Nat) (hw : w ≤ s) : ∀ c : List Nat, (∀ x ∈ c, x ≤ s) → ∃ k, (c.map fun x => x - w).sum ≤ k * (s - w) ∧ k * w + (c.map fun x => x - w).sum ≤ c.sum
  | [], _ => ⟨0, by simp⟩
  | x :: c, h => by
    obtain ⟨k, h1, h2⟩ := sum_split w s hw c fun y hy => h y (List.mem_cons_of_mem _ hy)
    have hx := h x List.mem_cons_self
    by_cases hc : x ≤ w
    · refine ⟨k, ?_, ?_⟩ <;> simp only [List.map_cons, List.sum_cons] <;> omega
    · refine ⟨k + 1, ?_, ?_⟩ <;> simp only [List.map_cons, List.sum_cons, Nat.add_mul, Nat.one_mul] <;> omega
/-- the most others among n runners -/
def mostN (s w n : Nat) : Nat := n / s * (s - w) + (n % s - w)
theorem mostN_step {s w : Nat} (hs : 0 < s) (hw : w ≤ s) (n x : Nat) (hx : x ≤ s) : mostN s w n + (x - w) ≤ mostN s w (n + x) := by
  unfold mostN
  have hlt := Nat.mod_lt n hs
  have hd := Nat.div_add_mod n s
  by_cases hc : n % s + x < s
  · have e1 : (n + x) / s = n / s := by
      rw [Nat.div_eq_iff hs]
      have : n / s * s = s * (n / s) := Nat.mul_comm _ _
      omega
    have e2 : (n + x) % s = n % s + x := by
      have := Nat.div_add_mod (n + x) s
      rw [e1] at this
      omega
    rw [e1, e2]
    omega
  · have e1 : (n + x) / s = n / s + 1 := by
      rw [Nat.div_eq_iff hs]
      have : n / s * s = s * (n / s) := Nat.mul_comm _ _
      have : (n / s + 1) * s = s * (n / s) + s := by rw [Nat.add_mul, Nat.one_mul, Nat.mul_comm]
      omega
    have e2 : (n + x) % s = n % s + x - s := by
      have := Nat.div_add_mod (n + x) s
      rw [e1, Nat.mul_add, Nat.mul_one] at this
      omega
    rw [e1, e2, Nat.add_mul, Nat.one_mul]
    omega
theorem most_sum {s w : Nat} (hs : 0 < s) (hw : w ≤ s) : ∀ c : List Nat, (∀ x ∈ c, x ≤ s) → (c.map fun x => x - w).sum ≤ mostN s w c.sum
  | [], _ => by simp
  | x :: c, h => by
    have ih := most_sum hs hw c fun y hy => h y (List.mem_cons_of_mem _ hy)
    have := mostN_step hs hw c.sum x (h x List.mem_cons_self)
    simp only [List.map_cons, List.sum_cons]
    rw [Nat.add_comm x c.sum]
    omega
end HD
end

section
set_option Elab.async false
set_option linter.all false
/-! M2: who goes on, plain. -/
namespace HD
section
variable {h s w l : Nat} {hs : List (List Int)}
theorem Draw.inc (d : Draw h s hs) : ∀ x ∈ hs, Inc x := fun x hx => (d.each x hx).2
theorem Draw.len_flat (d : Draw h s hs) : hs.flatten.length = h * s := by rw [d.perm.length_eq]; simp
theorem Draw.nodup (d : Draw h s hs) : hs.flatten.Nodup := d.perm.nodup_iff.mpr (inc_nodup (rg_inc _ _))
/-- the counts of the heats -/
theorem Draw.cnts (d : Draw h s hs) (r : Int) : (hs.map (cnt r)).sum = min (r - 1).toNat (h * s) := by
  rw [← cnt_flat, cnt_perm d.perm, cnt_rg]
theorem Draw.cle (d : Draw h s hs) (r : Int) : ∀ c ∈ hs.map (cnt r), c ≤ s := fun c hc => by
  obtain ⟨x, hx, rfl⟩ := List.mem_map.mp hc
  rw [← (d.each x hx).1]
  exact cnt_le r x
theorem Draw.pm (d : Draw h s hs) (w : Nat) : (someF w hs ++ othersF w hs).Perm (rg 1 (h * s)) := (split_perm w hs).trans d.perm
theorem Draw.both (d : Draw h s hs) (w : Nat) (r : Int) : cnt r (someF w hs) + cnt r (othersF w hs) = min (r - 1).toNat (h * s) := by
  rw [← cnt_append, cnt_perm (d.pm w), cnt_rg]
theorem Draw.mem (d : Draw h s hs) (w : Nat) {r : Int} : r ∈ someF w hs ∨ r ∈ othersF w hs ↔ 1 ≤ r ∧ r ≤ (h * s : Nat) := by
  rw [← List.mem_append, (d.pm w).mem_iff, rg_mem]
  omega
theorem Draw.nds (d : Draw h s hs) (w : Nat) : (someF w hs).Nodup ∧ (othersF w hs).Nodup ∧ ∀ x ∈ someF w hs, x ∉ othersF w hs := by
  have := (d.pm w).nodup_iff.mpr (inc_nodup (rg_inc _ _))
  rw [List.nodup_append] at this
  exact ⟨this.1, this.2.1, fun x h1 h2 => this.2.2 x h1 x h2 rfl⟩
theorem len_some : ∀ {hs : List (List Int)}, (∀ x ∈ hs, x.length = s) → w ≤ s → (someF w hs).length = hs.length * w
  | [], _, _ => by simp [someF]
  | x :: hs, h, hw => by
    have e : someF w (x :: hs) = x.take w ++ someF w hs := rfl
    rw [e, List.length_append, len_some (fun y hy => h y (List.mem_cons_of_mem _ hy)) hw, List.length_take, h x List.mem_cons_self, List.length_cons, Nat.add_mul, Nat.one_mul, Nat.min_eq_left hw, Nat.add_comm]
theorem len_others : ∀ {hs : List (List Int)}, (∀ x ∈ hs, x.length = s) → (othersF w hs).length = hs.length * (s - w)
  | [], _ => by simp [othersF]
  | x :: hs, h => by
    have e : othersF w (x :: hs) = x.drop w ++ othersF w hs := rfl
    rw [e, List.length_append, len_others (fun y hy => h y (List.mem_cons_of_mem _ hy)), List.length_drop, h x List.mem_cons_self, List.length_cons, Nat.add_mul, Nat.one_mul, Nat.add_comm]
/-- the lucky ones -/
def luckyF (w l : Nat) (hs : List (List Int)) : List Int := (sortI (othersF w hs)).take l
/-- all who go on, in order -/
def onF (w l : Nat) (hs : List (List Int)) : List Int := sortI (sortI (someF w hs) ++ luckyF w l hs)
theorem Draw.oinc (d : Draw h s hs) (w : Nat) : Inc (sortI (othersF w hs)) := sort_inc (d.nds w).2.1
theorem Draw.lucky (d : Draw h s hs) (w l : Nat) {r : Int} : r ∈ luckyF w l hs ↔ r ∈ othersF w hs ∧ cnt r (othersF w hs) < l := by
  unfold luckyF
  constructor
  · intro hr
    have hm : r ∈ sortI (othersF w hs) := List.mem_of_mem_take hr
    refine ⟨(sortI_perm _).mem_iff.mp hm, ?_⟩
    rw [← cnt_perm (sortI_perm (othersF w hs))]
    exact (mem_take (d.oinc w) hm l).mp hr
  · rintro ⟨h1, h2⟩
    rw [← cnt_perm (sortI_perm (othersF w hs))] at h2
    exact (mem_take (d.oinc w) ((sortI_perm _).mem_iff.mpr h1) l).mpr h2
theorem Draw.cnt_lucky (d : Draw h s hs) (w l : Nat) (r : Int) : cnt r (luckyF w l hs) = min l (cnt r (othersF w hs)) := by
  unfold luckyF
  rw [cnt_take (d.oinc w), cnt_perm (sortI_perm _)]
theorem Draw.on_nodup (d : Draw h s hs) (w l : Nat) : (sortI (someF w hs) ++ luckyF w l hs).Nodup := by
  rw [List.nodup_append]
  refine ⟨(sortI_perm _).nodup_iff.mpr (d.nds w).1, inc_nodup ((d.oinc w).sublist (List.take_sublist _ _)), fun x h1 y h2 e => ?_⟩
  subst e
  exact (d.nds w).2.2 x ((sortI_perm _).mem_iff.mp h1) ((d.lucky w l).mp h2).1
theorem Draw.on_inc (d : Draw h s hs) (w l : Nat) : Inc (onF w l hs) := sort_inc (d.on_nodup w l)
theorem Draw.on_mem (d : Draw h s hs) (w l : Nat) {r : Int} : r ∈ onF w l hs ↔ r ∈ someF w hs ∨ (r ∈ othersF w hs ∧ cnt r (othersF w hs) < l) := by
  unfold onF
  rw [(sortI_perm _).mem_iff, List.mem_append, (sortI_perm _).mem_iff, d.lucky]
theorem Draw.on_cnt (d : Draw h s hs) (w l : Nat) (r : Int) : cnt r (onF w l hs) = cnt r (someF w hs) + min l (cnt r (othersF w hs)) := by
  unfold onF
  rw [cnt_perm (sortI_perm _), cnt_append, cnt_perm (sortI_perm _), d.cnt_lucky]
theorem Draw.on_len (d : Draw h s hs) (hw : w ≤ s) (hl : l ≤ h * (s - w)) : (onF w l hs).length = h * w + l := by
  unfold onF luckyF
  rw [(sortI_perm _).length_eq, List.length_append, (sortI_perm _).length_eq, len_some (fun x hx => (d.each x hx).1) hw, List.length_take, (sortI_perm _).length_eq, len_others (fun x hx => (d.each x hx).1), d.len]
  omega
theorem Draw.on_bnd (d : Draw h s hs) (w l : Nat) {r : Int} (hr : r ∈ onF w l hs) : 1 ≤ r ∧ r ≤ (h * s : Nat) :=
  (d.mem w).mp (((d.on_mem w l).mp hr).imp id fun z => z.1)
/-- one who does not go on has many before him -/
theorem Draw.out (d : Draw h s hs) (hw : w ≤ s) {r : Int} (h1 : 1 ≤ r ∧ r ≤ (h * s : Nat)) (hr : r ∉ onF w l hs) : ∃ k : Nat, l + 1 ≤ k * (s - w) ∧ (k * w + (l + 1) : Nat) ≤ r := by
  have ho : r ∈ othersF w hs := by
    rcases (d.mem w).mpr h1 with z | z
    · exact absurd ((d.on_mem w l).mpr (.inl z)) hr
    · exact z
  have hc : l ≤ cnt r (othersF w hs) := by
    by_cases hc : cnt r (othersF w hs) < l
    · exact absurd ((d.on_mem w l).mpr (.inr ⟨ho, hc⟩)) hr
    · omega
  have hc1 : l + 1 ≤ cnt (r + 1) (othersF w hs) := by
    have e := cnt_succ (d.oinc w) ((sortI_perm _).mem_iff.mpr ho)
    rw [cnt_perm (sortI_perm _), cnt_perm (sortI_perm _)] at e
    omega
  rw [cnt_others w (r + 1) d.inc] at hc1
  obtain ⟨k, k1, k2⟩ := sum_split w s hw (hs.map (cnt (r + 1))) (d.cle (r + 1))
  rw [List.map_map] at k1 k2
  rw [d.cnts] at k2
  have e : (List.map ((fun x => x - w) ∘ cnt (r + 1)) hs).sum = (hs.map fun x => cnt (r + 1) x - w).sum := rfl
  rw [e] at k1 k2
  exact ⟨k, by omega, by omega⟩
/-- who is directly through is not too slow -/
theorem Draw.some_le (d : Draw h s hs) (hw : w ≤ s) {r : Int} (hr : r ∈ someF w hs) : r ≤ ((h * s : Nat) : Int) - (s - w : Nat) := by
  have h1 := (d.mem w).mp (.inl hr)
  obtain ⟨x, hx, hxr⟩ := List.mem_flatMap.mp hr
  have hx2 := d.each x hx
  have hm : r ∈ x := List.mem_of_mem_take hxr
  have hc : cnt (r + 1) x ≤ w := by
    rw [cnt_succ hx2.2 hm]
    exact (mem_take hx2.2 hm w).mp hxr
  have e := d.cnts (r + 1)
  obtain ⟨a, b, rfl⟩ := List.append_of_mem hx
  rw [List.map_append, List.map_cons, List.sum_append, List.sum_cons] at e
  have la : ∀ (c : List (List Int)), (∀ y ∈ c, y.length = s) → (c.map (cnt (r + 1))).sum ≤ c.length * s := fun c => by
    induction c with
    | nil => simp
    | cons y c ih =>
      intro hy
      have := ih fun z hz => hy z (List.mem_cons_of_mem _ hz)
      have := cnt_le (r + 1) y
      rw [hy y List.mem_cons_self] at this
      simp only [List.map_cons, List.sum_cons, List.length_cons, Nat.add_mul, Nat.one_mul]
      omega
  have ha := la a fun y hy => (d.each y (List.mem_append_left _ hy)).1
  have hb := la b fun y hy => (d.each y (List.mem_append_right _ (List.mem_cons_of_mem _ hy))).1
  have hl : a.length + (b.length + 1) = h := by rw [← d.len]; simp
  have hm2 : h * s = a.length * s + b.length * s + s := by rw [← hl, Nat.add_mul, Nat.add_mul, Nat.one_mul]; omega
  omega
theorem Draw.lucky_le (d : Draw h s hs) (hw : w ≤ s) {r : Int} (ho : r ∈ othersF w hs) (hc : cnt r (othersF w hs) < l) : r ≤ (h * w + l : Nat) := by
  have h1 := (d.mem w).mp (.inr ho)
  have e := cnt_succ (d.oinc w) ((sortI_perm _).mem_iff.mpr ho)
  rw [cnt_perm (sortI_perm _), cnt_perm (sortI_perm _)] at e
  have b := d.both w (r + 1)
  have c := cnt_le (r + 1) (someF w hs)
  rw [len_some (fun x hx => (d.each x hx).1) hw, d.len] at c
  omega
/-- how many others can be among the first -/
theorem Draw.most (d : Draw h s hs) (hs0 : 0 < s) (hw : w ≤ s) {r : Int} (h1 : 1 ≤ r ∧ r ≤ (h * s : Nat)) : cnt r (othersF w hs) ≤ mostN s w (r - 1).toNat := by
  rw [cnt_others w r d.inc]
  have := most_sum hs0 hw (hs.map (cnt r)) (d.cle r)
  rw [List.map_map, d.cnts] at this
  have e : min (r - 1).toNat (h * s) = (r - 1).toNat := by omega
  rw [e] at this
  exact this
end
end HD
end

section
set_option Elab.async false
set_option linter.all false
set_option maxRecDepth 100000
set_option maxHeartbeats 1000000
/-! B10: a draw out of a bag. -/
namespace HD
open L2 (atI ixN)
section
variable {m : Mem} {b : Nat} {o : Mob}
theorem mixed_set (xs : List Int) (h : BagAt m b) (ho : IsBag o) (hc : Cl m) (hx : xs.length ≤ 100000) : ∃ (ys : List Int) (o' : Mob), Φ 15 [.ref b, LI xs] (m.set b o) = .ok (LI ys) (m.set b o') ∧ IsBag o' ∧ ys.Perm xs := by
  obtain ⟨ys, o', e, h1, h2⟩ := mixed_ok D.int xs (h.set ho) (hc.set (closed_bag _ ho)) hx (fun _ => rfl) (fun ls M => eqv_ints0 ls)
  rw [List.set_set] at e
  exact ⟨ys, o', e, h1, h2⟩
theorem a_draw_ok {h s w l : Int} (hb : BagAt m b) (hc : Cl m) (g : GoodR h s w l) (hN : h * s ≤ 10000) :
    ∃ (row : List Int) (o' : Mob), Φ 17 [.ref b, RU h s w l] m = .ok (TT (dealF h.toNat s.toNat row)) (m.set b o') ∧ IsBag o' ∧ row.Perm (rg 1 (h * s).toNat) := by
  obtain ⟨g1, g2, g3, g4⟩ := g
  have hp : 1 ≤ h * s := by
    have := Int.mul_le_mul g1.1 g2.1 (by omega) (by omega)
    omega
  have k1 : binop .mul (.int h) (.int s) m = .ok (.int (h * s)) m := b_mul (by omega)
  generalize hn : (h * s).toNat = n
  have hn0 : 0 < n ∧ n ≤ 10000 := by omega
  have hn1 : (h * s : Int) = n := by omega
  obtain ⟨v1, o1, e1, ho1, b1⟩ := take_ok hb (n := (n : Int)) (by omega)
  obtain ⟨v2, o2, e2, ho2, b2⟩ := take_set hb ho1 (n := 4) (by omega)
  have r0 : bltop .listRg2 [.int 1, .int (h * s + 1)] m = .ok (LI (rg 1 n)) m := by
    rw [l_listRg2 (by omega)]
    have : (h * s + 1 - 1).toNat = n := by omega
    rw [this]
  have len : ((rg 1 n).map D.int).length = n := by simp
  have nl : n ≤ LIM := by unfold LIM; omega
  rw [R_law_a_draw]
  have fin : ∀ (row : List Int) (o' : Mob), shut m.length ((Res.toS (Φ 16 [RU h s w l, LI row] (m.set b o')) fun d m1 => SRes.rt d m1).bind (evSs Φ [])).out = .ok (TT (dealF h.toNat s.toNat row)) (m.set b o') := fun row o' => by
    rw [dealt_ok (by omega) (by omega)]
    exact shut_set _ _
  have hv : v2 = 0 ∨ v2 = 1 ∨ v2 = 2 ∨ v2 = 3 := by omega
  rcases hv with rfl | rfl | rfl | rfl
  · refine ⟨rg 1 n, o2, ?_, ho2, List.Perm.refl _⟩
    rw [← fin]
    simp (disch := omega) [f_law_a_draw, k1, r0, len, e1, e2]
  · refine ⟨(rg 1 n).drop v1.toNat ++ (rg 1 n).take v1.toNat, o2, ?_, ho2, ?_⟩
    · rw [← fin]
      have c1 : (((rg 1 n).drop v1.toNat).map D.int).length + (((rg 1 n).take v1.toNat).map D.int).length ≤ LIM := by unfold LIM; simp; omega
      have c2 := cutI_drop (rg 1 n) (i := v1) (by omega)
      have c3 := cutI_take (rg 1 n) (j := v1) (by omega)
      simp (disch := omega) [-List.map_take, -List.map_drop, f_law_a_draw, k1, r0, len, e1, e2, c1, c2, c3, nl, LI]
    · refine (List.perm_append_comm).trans ?_
      rw [List.take_append_drop]
  · obtain ⟨ys, o3, e3, ho3, hp3⟩ := mixed_set (rg 1 n) hb ho2 hc (by simp; omega)
    refine ⟨ys, o3, ?_, ho3, hp3⟩
    rw [← fin]
    simp (disch := omega) [f_law_a_draw, k1, r0, len, e1, e2, e3]
  · obtain ⟨ys, o3, e3, ho3, hp3⟩ := mixed_set ((rg 1 n).drop v1.toNat) hb ho2 hc (by simp; omega)
    refine ⟨(rg 1 n).take v1.toNat ++ ys, o3, ?_, ho3, ?_⟩
    · rw [← fin]
      have hl3 := hp3.length_eq
      have c1 : (((rg 1 n).take v1.toNat).map D.int).length + (ys.map D.int).length ≤ LIM := by
        unfold LIM
        rw [List.length_map, List.length_map, hl3]; simp; omega
      have c2 := cutI_drop (rg 1 n) (i := v1) (by omega)
      have c3 := cutI_take (rg 1 n) (j := v1) (by omega)
      have nl2 : v1.toNat + ys.length ≤ LIM := by unfold LIM; rw [hl3]; simp; omega
      simp (disch := omega) [-List.map_take, -List.map_drop, f_law_a_draw, k1, r0, len, e1, e2, c1, c2, c3, e3, nl, nl2, LI]
    · have := List.Perm.append_left ((rg 1 n).take v1.toNat) hp3
      rw [List.take_append_drop] at this
      exact this
end
end HD
end

section
set_option Elab.async false
set_option linter.all false
set_option maxRecDepth 100000
set_option maxHeartbeats 1000000
/-! B11: ranks. -/
namespace HD
open L2 (atI ixN)
def placesI (h _s w l : Int) : Int := h * w + l
def boundI (_h s w _l n : Int) : Int := n + w * ((n + (s - w) - 1) / (s - w))
def sureI (h s w l : Int) : Int := if placesI h s w l = h * s then h * s else boundI h s w l (l + 1) - 1
def directI (h s w _l : Int) : Int := (h - 1) * s + w
def slowI (h s w l : Int) : Int := max (directI h s w l) (placesI h s w l)
def mostI (_h s w _l n : Int) : Int := n / s * (s - w) + max 0 (n % s - w)
def fasterI (h s w l r : Int) : D := if r > slowI h s w l then .non else if r > directI h s w l then .int (r - 1) else .int (r - 1 - max 0 (mostI h s w l (r - 1) - l))
section
variable {m : Mem} {h s w l : Int}
theorem GoodR.b (g : GoodR h s w l) : 1 ≤ h ∧ h ≤ 100 ∧ 1 ≤ s ∧ s ≤ 100 ∧ 1 ≤ w ∧ w ≤ s ∧ 0 ≤ l ∧ l ≤ h * (s - w) := ⟨g.1.1, g.1.2, g.2.1.1, g.2.1.2, g.2.2.1.1, g.2.2.1.2, g.2.2.2.1, g.2.2.2.2⟩
theorem places_of_ok (g : GoodR h s w l) : Φ 22 [RU h s w l] m = .ok (.int (placesI h s w l)) m := by
  have := g.b
  rw [R_places_of]
  simp (disch := omega) [f_places_of, placesI]
theorem places_ok (g : GoodR h s w l) (hN : h * s ≤ 10000) : Φ 23 [RU h s w l] m = .ok (.int (placesI h s w l)) m := by
  rw [R_places]
  simp (disch := omega) [f_places, need_rule_ok g hN, places_of_ok g]
theorem bound_ok (g : GoodR h s w l) (hw : w < s) (n : Int) : Φ 27 [RU h s w l, .int n] m = .ok (.int (boundI h s w l n)) m := by
  have := g.b
  rw [R_bound]
  simp (disch := omega) [f_bound, boundI]
theorem sure_of_ok (g : GoodR h s w l) : Φ 28 [RU h s w l] m = .ok (.int (sureI h s w l)) m := by
  have := g.b
  rw [R_sure_of]
  by_cases e : placesI h s w l = h * s
  · simp (disch := omega) [f_sure_of, places_of_ok g, sureI, e]
  · have hw : w < s := by
      rcases Int.lt_or_eq_of_le this.2.2.2.2.2.1 with z | z
      · exact z
      · subst z
        have hl : l = 0 := by have := this.2.2.2.2.2.2.2; simp at this; omega
        subst hl
        exact absurd (by simp [placesI]) e
    simp (disch := omega) [f_sure_of, places_of_ok g, sureI, e, bound_ok g hw]
theorem direct_of_ok (g : GoodR h s w l) : Φ 29 [RU h s w l] m = .ok (.int (directI h s w l)) m := by
  have := g.b
  rw [R_direct_of]
  simp (disch := omega) [f_direct_of, directI]
theorem slowest_of_ok (g : GoodR h s w l) : Φ 30 [RU h s w l] m = .ok (.int (slowI h s w l)) m := by
  rw [R_slowest_of]
  simp (disch := omega) [f_slowest_of, direct_of_ok g, places_of_ok g, slowI]
theorem sure_rank_ok (g : GoodR h s w l) (hN : h * s ≤ 10000) : Φ 31 [RU h s w l] m = .ok (.int (sureI h s w l)) m := by
  rw [R_sure_rank]
  simp (disch := omega) [f_sure_rank, need_rule_ok g hN, sure_of_ok g]
theorem slowest_rank_ok (g : GoodR h s w l) (hN : h * s ≤ 10000) : Φ 32 [RU h s w l] m = .ok (.int (slowI h s w l)) m := by
  rw [R_slowest_rank]
  simp (disch := omega) [f_slowest_rank, need_rule_ok g hN, slowest_of_ok g]
theorem slowest_direct_ok (g : GoodR h s w l) (hN : h * s ≤ 10000) : Φ 33 [RU h s w l] m = .ok (.int (directI h s w l)) m := by
  rw [R_slowest_direct]
  simp (disch := omega) [f_slowest_direct, need_rule_ok g hN, direct_of_ok g]
theorem most_others_ok (g : GoodR h s w l) (n : Int) : Φ 34 [RU h s w l, .int n] m = .ok (.int (mostI h s w l n)) m := by
  have := g.b
  rw [R_most_others]
  simp (disch := omega) [f_most_others, mostI]
theorem faster_of_ok (g : GoodR h s w l) (r : Int) : Φ 35 [RU h s w l, .int r] m = .ok (fasterI h s w l r) m := by
  rw [R_faster_of]
  by_cases h1 : slowI h s w l < r
  · simp (disch := omega) [f_faster_of, slowest_of_ok g, h1, fasterI]
  · by_cases h2 : directI h s w l < r
    · simp (disch := omega) [f_faster_of, slowest_of_ok g, direct_of_ok g, h1, h2, fasterI]
    · simp (disch := omega) [f_faster_of, slowest_of_ok g, direct_of_ok g, most_others_ok g, h1, h2, fasterI]
theorem need_runner_ok (g : GoodR h s w l) {r : Int} (hr : 1 ≤ r ∧ r ≤ h * s) : Φ 26 [RU h s w l, .int r] m = .ok .non m := by
  have := g.b
  rw [R_need_runner]
  simp (disch := omega) [-Bool.decide_and, f_need_runner, is_integer_int, hr]
theorem least_faster_ok (g : GoodR h s w l) (hN : h * s ≤ 10000) {r : Int} (hr : 1 ≤ r ∧ r ≤ h * s) : Φ 36 [RU h s w l, .int r] m = .ok (fasterI h s w l r) m := by
  rw [R_least_faster]
  simp (disch := omega) [f_least_faster, need_rule_ok g hN, need_runner_ok g hr, faster_of_ok g]
end
end HD
end

section
set_option Elab.async false
set_option linter.all false
/-! M3: ranks beside draws, plain. -/
namespace HD
theorem rg_cons (a : Int) (n : Nat) : rg a (n + 1) = a :: rg (a + 1) n := by
  simp [rg, List.range_succ_eq_map, List.map_map]
  intro i _
  omega
theorem take_rg : ∀ (k : Nat) (a : Int) (l : List Int), Inc l → (∀ x ∈ l, a ≤ x) → (∀ i : Nat, i < k → a + i ∈ l) → l.take k = rg a k
  | 0, a, l, _, _, _ => by simp [rg]
  | k + 1, a, l, hi, hl, hm => by
    have ha := hm 0 (by omega)
    simp at ha
    cases l with
    | nil => cases ha
    | cons y l =>
      have hp := List.pairwise_cons.mp hi
      have e : y = a := by
        have := hl y List.mem_cons_self
        rcases List.mem_cons.mp ha with z | z
        · exact z.symm
        · have := hp.1 a z; omega
      subst e
      rw [List.take_succ_cons, rg_cons, take_rg k (y + 1) l hp.2 (fun x hx => by have := hp.1 x hx; omega) fun i hi => ?_]
      have := hm (i + 1) (by omega)
      rcases List.mem_cons.mp this with z | z
      · omega
      · rw [show y + 1 + (i : Int) = y + ((i + 1 : Nat) : Int) by omega]; exact z
theorem cnt_at : ∀ {l : List Int} {i : Nat} {x : Int}, Inc l → l[i]? = some x → cnt x l = i
  | [], _, _, _, h => by simp at h
  | y :: l, 0, x, hi, h => by
    simp at h
    subst h
    have hp := List.pairwise_cons.mp hi
    rw [cnt_cons, cnt_zero fun z hz => by have := hp.1 z hz; omega]
    simp
  | y :: l, i + 1, x, hi, h => by
    have hp := List.pairwise_cons.mp hi
    have h' : l[i]? = some x := by simpa using h
    rw [cnt_cons, cnt_at hp.2 h', if_pos (hp.1 x (List.mem_of_getElem? h'))]
section
variable {h s w l : Nat} {hs : List (List Int)}
theorem good_nat (g : GoodR h s w l) : 1 ≤ h ∧ 1 ≤ s ∧ 1 ≤ w ∧ w ≤ s ∧ l ≤ h * (s - w) := by
  have b := g.b
  have e : ((h : Int) * ((s : Int) - w)) = ((h * (s - w) : Nat) : Int) := by
    rw [Int.natCast_mul, Int.natCast_sub (by omega)]
  refine ⟨by omega, by omega, by omega, by omega, ?_⟩
  have := b.2.2.2.2.2.2.2
  rw [e] at this
  omega
theorem ceil_le {a k f : Int} (hf : 0 < f) (h : a ≤ k * f) : (a + f - 1) / f ≤ k := by
  have : (a + f - 1) / f < k + 1 := Int.ediv_lt_of_lt_mul hf (by rw [Int.add_mul, Int.one_mul]; omega)
  omega
theorem sure_in (d : Draw h s hs) (g : GoodR h s w l) {r : Int} (h1 : 1 ≤ r) (h2 : r ≤ sureI h s w l) : r ∈ onF w l hs := by
  obtain ⟨g1, g2, g3, g4, g5⟩ := good_nat g
  have hle : sureI h s w l ≤ (h * s : Nat) := by
    unfold sureI
    split
    · rw [Int.natCast_mul]; exact Int.le_refl _
    · rename_i hne
      -- the bound lies within
      have hws : w < s := by
        rcases Nat.lt_or_eq_of_le g4 with z | z
        · exact z
        · subst z
          have : l = 0 := by simp at g5; exact g5
          subst this
          exact absurd (by simp [placesI]) hne
      have hlt : l < h * (s - w) := by
        rcases Nat.lt_or_eq_of_le g5 with z | z
        · exact z
        · exfalso
          apply hne
          unfold placesI
          rw [z, Int.natCast_mul, Int.natCast_sub g4, ← Int.mul_add]
          congr 1
          omega
      have hc : ((l : Int) + 1 + ((s : Int) - w) - 1) / ((s : Int) - w) ≤ h := ceil_le (by omega) (by
        have : ((l + 1 : Nat) : Int) ≤ ((h * (s - w) : Nat) : Int) := by omega
        rw [Int.natCast_mul, Int.natCast_sub g4] at this
        omega)
      have hm := Int.mul_le_mul_of_nonneg_left hc (show (0 : Int) ≤ w by omega)
      have e : ((h * s : Nat) : Int) = (w : Int) * h + ((h * (s - w) : Nat) : Int) := by
        rw [Int.natCast_mul, Int.natCast_mul, Int.natCast_sub g4, Int.mul_sub, Int.mul_comm (w : Int)]
        omega
      unfold boundI
      omega
  refine Classical.byContradiction fun hn => ?_
  obtain ⟨k, k1, k2⟩ := d.out g4 ⟨h1, by omega⟩ hn
  have k1' : ((l : Int) + 1) ≤ (k : Int) * ((s : Int) - w) := by
    have : ((l + 1 : Nat) : Int) ≤ ((k * (s - w) : Nat) : Int) := by omega
    rw [Int.natCast_mul, Int.natCast_sub g4] at this
    omega
  have k2' : (k : Int) * w + (l + 1) ≤ r := by
    have : ((k * w + (l + 1) : Nat) : Int) = (k : Int) * w + (l + 1) := by simp
    omega
  unfold sureI at h2
  split at h2
  · rename_i he
    unfold placesI at he
    have hl : (l : Int) = h * ((s : Int) - w) := by rw [Int.mul_sub]; omega
    have hk : (h : Int) < k := by
      refine Classical.byContradiction fun z => ?_
      have := Int.mul_le_mul_of_nonneg_right (show (k : Int) ≤ h by omega) (show (0 : Int) ≤ (s : Int) - w by omega)
      omega
    have := Int.mul_le_mul_of_nonneg_right (show (h : Int) ≤ k by omega) (show (0 : Int) ≤ w by omega)
    rw [Int.mul_sub] at hl
    omega
  · rename_i hne
    have hws : w < s := by
      rcases Nat.lt_or_eq_of_le g4 with z | z
      · exact z
      · subst z
        have : l = 0 := by simp at g5; exact g5
        subst this
        exact absurd (by simp [placesI]) hne
    have hc := ceil_le (f := (s : Int) - w) (by omega) k1'
    have hm := Int.mul_le_mul_of_nonneg_left hc (show (0 : Int) ≤ w by omega)
    unfold boundI at h2
    rw [Int.mul_comm (w : Int) (k : Int)] at hm
    omega
theorem sure_le (g : GoodR h s w l) (d : Draw h s hs) : (onF w l hs).take (sureI h s w l).toNat = rg 1 (sureI h s w l).toNat :=
  take_rg _ 1 _ (d.on_inc w l) (fun x hx => (d.on_bnd w l hx).1) fun i hi => sure_in d g (by omega) (by omega)
theorem direct_nat (g : GoodR h s w l) : directI h s w l = ((h * s : Nat) : Int) - (s - w : Nat) := by
  obtain ⟨g1, g2, g3, g4, g5⟩ := good_nat g
  unfold directI
  rw [Int.natCast_mul, Int.natCast_sub g4, Int.sub_mul, Int.one_mul]
  omega
theorem places_nat : placesI h s w l = ((h * w + l : Nat) : Int) := by simp [placesI]
theorem some_direct (d : Draw h s hs) (g : GoodR h s w l) {r : Int} (hr : r ∈ someF w hs) : r ≤ directI h s w l := by
  rw [direct_nat g]
  exact d.some_le (good_nat g).2.2.2.1 hr
theorem on_slow (d : Draw h s hs) (g : GoodR h s w l) {r : Int} (hr : r ∈ onF w l hs) : r ≤ slowI h s w l := by
  unfold slowI
  rcases (d.on_mem w l).mp hr with z | ⟨z1, z2⟩
  · have := some_direct d g z; omega
  · have := d.lucky_le (good_nat g).2.2.2.1 z1 z2
    rw [places_nat]; omega
theorem most_nat (g : GoodR h s w l) (n : Nat) : mostI h s w l n = (mostN s w n : Nat) := by
  obtain ⟨g1, g2, g3, g4, g5⟩ := good_nat g
  unfold mostI mostN
  rw [Int.natCast_add, Int.natCast_mul, Int.natCast_sub g4, Int.natCast_ediv]
  have : ((n % s : Nat) : Int) = (n : Int) % s := Int.natCast_emod n s
  omega
/-- at its place a runner that goes on has not fewer before him than told -/
theorem faster_told (d : Draw h s hs) (g : GoodR h s w l) {p : Nat} {r : Int} (hr : (onF w l hs)[p]? = some r) : ∃ z : Int, fasterI h s w l r = .int z ∧ z ≤ p := by
  obtain ⟨g1, g2, g3, g4, g5⟩ := good_nat g
  have hm : r ∈ onF w l hs := List.mem_of_getElem? hr
  have hc := cnt_at (d.on_inc w l) hr
  rw [d.on_cnt] at hc
  have hb := d.on_bnd w l hm
  have hs1 := on_slow d g hm
  have both := d.both w r
  have e : min (r - 1).toNat (h * s) = (r - 1).toNat := by omega
  rw [e] at both
  unfold fasterI
  rw [if_neg (by omega)]
  by_cases hd : r > directI h s w l
  · rw [if_pos hd]
    refine ⟨r - 1, rfl, ?_⟩
    rcases (d.on_mem w l).mp hm with z | ⟨z1, z2⟩
    · have := some_direct d g z; omega
    · omega
  · rw [if_neg hd]
    refine ⟨_, rfl, ?_⟩
    have hmost := d.most (by omega) g4 hb
    have e2 := most_nat g (r - 1).toNat
    rw [Int.toNat_of_nonneg (by omega)] at e2
    rw [e2]
    omega
end
end HD
end

section
set_option Elab.async false
set_option linter.all false
/-! M4: rows dealt; the draw with the fastest together. -/
namespace HD
theorem chunk_flat (row : List Int) (s : Nat) : ∀ n : Nat, ((List.range n).map fun i => (row.drop (i * s)).take s).flatten = row.take (n * s)
  | 0 => by simp
  | n + 1 => by
    rw [List.range_succ, List.map_append, List.flatten_append, chunk_flat row s n, Nat.add_mul, Nat.one_mul, List.take_add]
    simp
theorem deal_perm (h s : Nat) (row : List Int) : (dealF h s row).flatten.Perm (((List.range h).map fun i => (row.drop (i * s)).take s).flatten) := by
  unfold dealF
  generalize List.range h = l
  induction l with
  | nil => exact List.Perm.refl _
  | cons x l ih =>
    simp only [List.map_cons, List.flatten_cons]
    exact (List.Perm.append_right _ (sortI_perm _)).trans (List.Perm.append_left _ ih)
theorem deal_draw {h s : Nat} {row : List Int} (hp : row.Perm (rg 1 (h * s))) : Draw h s (dealF h s row) := by
  have hl : row.length = h * s := by rw [hp.length_eq]; simp
  have hn : row.Nodup := hp.nodup_iff.mpr (inc_nodup (rg_inc _ _))
  refine ⟨by simp [dealF], fun x hx => ?_, ?_⟩
  · unfold dealF at hx
    obtain ⟨i, hi, rfl⟩ := List.mem_map.mp hx
    rw [List.mem_range] at hi
    refine ⟨?_, sort_inc (hn.sublist ((List.take_sublist _ _).trans (List.drop_sublist _ _)))⟩
    rw [(sortI_perm _).length_eq, List.length_take, List.length_drop, hl]
    have := Nat.mul_le_mul_right s (show i + 1 ≤ h by omega)
    rw [Nat.add_mul, Nat.one_mul] at this
    omega
  · refine (deal_perm h s row).trans ?_
    rw [chunk_flat, List.take_of_length_le (by omega)]
    exact hp
theorem rg_drop (a : Int) (n k : Nat) : (rg a n).drop k = rg (a + k) (n - k) := by
  induction k generalizing a n with
  | zero => simp
  | succ k ih =>
    cases n with
    | zero => simp [rg]
    | succ n =>
      rw [rg_cons, List.drop_succ_cons, ih]
      congr 1 <;> omega
theorem rg_take (a : Int) (n k : Nat) (h : k ≤ n) : (rg a n).take k = rg a k := by
  induction k generalizing a n with
  | zero => simp [rg]
  | succ k ih =>
    obtain ⟨n, rfl⟩ : ∃ j, n = j + 1 := ⟨n - 1, by omega⟩
    rw [rg_cons, rg_cons, List.take_succ_cons, ih _ _ (by omega)]
theorem sort_rg (a : Int) (n : Nat) : sortI (rg a n) = rg a n := (sortI_unique (List.Perm.refl _) ((rg_inc a n).imp fun h => by omega)).symm
theorem block_eq (h s : Nat) : dealF h s (rg 1 (h * s)) = (List.range h).map fun i => rg (1 + (i * s : Nat)) s := by
  unfold dealF
  apply List.map_congr_left
  intro i hi
  rw [List.mem_range] at hi
  have := Nat.mul_le_mul_right s (show i + 1 ≤ h by omega)
  rw [Nat.add_mul, Nat.one_mul] at this
  rw [rg_drop, rg_take _ _ _ (by omega), sort_rg]
theorem full_sum (s w : Nat) (n : Nat) : ∀ h : Nat, h * s ≤ n → ((List.range h).map fun i => min (n - i * s) s - w).sum = h * (s - w)
  | 0, _ => by simp
  | h + 1, hn => by
    rw [Nat.add_mul, Nat.one_mul] at hn
    rw [List.range_succ, List.map_append, List.sum_append, full_sum s w n h (by omega)]
    simp only [List.map_cons, List.map_nil, List.sum_cons, List.sum_nil]
    rw [Nat.min_eq_right (by omega), Nat.add_mul, Nat.one_mul]
    omega
theorem block_sum {s w : Nat} (hs : 0 < s) (hw : w ≤ s) (n : Nat) : ∀ h : Nat, n ≤ h * s → ((List.range h).map fun i => min (n - i * s) s - w).sum = mostN s w n
  | 0, hn => by
    have : n = 0 := by simp at hn; exact hn
    subst this
    simp [mostN]
  | h + 1, hn => by
    rw [Nat.add_mul, Nat.one_mul] at hn
    rw [List.range_succ, List.map_append, List.sum_append]
    simp only [List.map_cons, List.map_nil, List.sum_cons, List.sum_nil]
    by_cases hc : n ≤ h * s
    · rw [block_sum hs hw n h hc]
      omega
    · rw [full_sum s w n h (by omega)]
      unfold mostN
      by_cases he : n = h * s + s
      · have e1 : n / s = h + 1 := by
          rw [he, show h * s + s = (h + 1) * s by rw [Nat.add_mul, Nat.one_mul]]
          exact Nat.mul_div_cancel _ hs
        have e2 : n % s = 0 := by
          rw [he, show h * s + s = (h + 1) * s by rw [Nat.add_mul, Nat.one_mul]]
          exact Nat.mul_mod_left _ _
        rw [e1, e2, Nat.add_mul, Nat.one_mul]
        omega
      · have e1 : n / s = h := by
          rw [Nat.div_eq_iff hs]
          omega
        have e2 : n % s = n - h * s := by
          have := Nat.div_add_mod n s
          rw [e1, Nat.mul_comm] at this
          omega
        rw [e1, e2]
        omega
section
variable {h s w l : Nat}
abbrev block (h s : Nat) : List (List Int) := dealF h s (rg 1 (h * s))
theorem block_draw : Draw h s (block h s) := deal_draw (List.Perm.refl _)
theorem block_others (hs : 0 < s) (hw : w ≤ s) {r : Int} (h1 : 1 ≤ r ∧ r ≤ (h * s : Nat)) : cnt r (othersF w (block h s)) = mostN s w (r - 1).toNat := by
  rw [cnt_others w r block_draw.inc, block, block_eq, List.map_map, ← block_sum hs hw (r - 1).toNat h (by omega)]
  congr 1
  apply List.map_congr_left
  intro i _
  show cnt r (rg (1 + (i * s : Nat)) s) - w = _
  rw [cnt_rg]
  congr 2
  omega
theorem block_some {i j : Nat} (hi : i < h) (hj : j < w) (hw : w ≤ s) : (1 + (i * s : Nat) + (j : Nat) : Int) ∈ someF w (block h s) := by
  rw [block, block_eq]
  unfold someF
  rw [List.mem_flatMap]
  refine ⟨_, List.mem_map.mpr ⟨i, List.mem_range.mpr hi, rfl⟩, ?_⟩
  rw [rg_take _ _ _ hw, rg_mem]
  omega
theorem block_other {i j : Nat} (hi : i < h) (hj : j < s - w) : (1 + (i * s : Nat) + (w : Nat) + (j : Nat) : Int) ∈ othersF w (block h s) := by
  rw [block, block_eq]
  unfold othersF
  rw [List.mem_flatMap]
  refine ⟨_, List.mem_map.mpr ⟨i, List.mem_range.mpr hi, rfl⟩, ?_⟩
  rw [rg_drop, rg_mem]
  omega
/-- the first who does not go on -/
theorem block_out (g : GoodR h s w l) (hne : placesI h s w l ≠ (h : Int) * s) : sureI h s w l + 1 ∉ onF w l (block h s) ∧ sureI h s w l + 1 ≤ (h * s : Nat) := by
  obtain ⟨g1, g2, g3, g4, g5⟩ := good_nat g
  have hws : w < s := by
    rcases Nat.lt_or_eq_of_le g4 with z | z
    · exact z
    · subst z
      have : l = 0 := by simp at g5; exact g5
      subst this
      exact absurd (by simp [placesI]) hne
  have hlt : l < h * (s - w) := by
    rcases Nat.lt_or_eq_of_le g5 with z | z
    · exact z
    · exfalso
      apply hne
      unfold placesI
      rw [z, Int.natCast_mul, Int.natCast_sub g4, ← Int.mul_add]
      congr 1
      omega
  have hf : 0 < s - w := by omega
  have hq : l / (s - w) < h := (Nat.div_lt_iff_lt_mul hf).mpr hlt
  have hr := Nat.mod_lt l hf
  have hd := Nat.div_add_mod l (s - w)
  -- where it stands
  have hv : sureI h s w l + 1 = 1 + ((l / (s - w) * s : Nat) : Int) + (w : Nat) + ((l % (s - w) : Nat) : Int) := by
    unfold sureI
    rw [if_neg hne]
    unfold boundI
    have e1 : ((l : Int) + 1 + ((s : Int) - w) - 1) / ((s : Int) - w) = ((l / (s - w) + 1 : Nat) : Int) := by
      have e : ((l : Int) + 1 + ((s : Int) - w) - 1) = ((l + (s - w) : Nat) : Int) := by omega
      rw [e, show ((s : Int) - w) = ((s - w : Nat) : Int) by omega, ← Int.natCast_ediv, Nat.add_div_right _ hf]
    rw [e1]
    have e2 : l / (s - w) * s = l / (s - w) * (s - w) + l / (s - w) * w := by rw [← Nat.mul_add]; congr 1; omega
    have e3 : (s - w) * (l / (s - w)) = l / (s - w) * (s - w) := Nat.mul_comm _ _
    rw [e2, Int.natCast_add, Int.natCast_add, Int.mul_add, Int.natCast_mul (l / (s - w)) w, Int.mul_comm (w : Int)]
    omega
  have ho := block_other (h := h) (s := s) (w := w) hq hr
  rw [← hv] at ho
  have hb := (block_draw.mem w).mp (.inr ho)
  refine ⟨fun hon => ?_, hb.2⟩
  rcases (block_draw.on_mem w l).mp hon with z | ⟨_, z⟩
  · exact (block_draw.nds w).2.2 _ z ho
  · rw [block_others (by omega) g4 hb] at z
    have e : (sureI h s w l + 1 - 1).toNat = l / (s - w) * s + (w + l % (s - w)) := by rw [hv]; omega
    rw [e] at z
    unfold mostN at z
    have e1 : (l / (s - w) * s + (w + l % (s - w))) / s = l / (s - w) := by
      rw [Nat.div_eq_iff (by omega)]
      omega
    have e2 : (l / (s - w) * s + (w + l % (s - w))) % s = w + l % (s - w) := by
      rw [Nat.mul_comm, Nat.mul_add_mod, Nat.mod_eq_of_lt (by omega)]
    rw [e1, e2] at z
    have : (s - w) * (l / (s - w)) = l / (s - w) * (s - w) := Nat.mul_comm _ _
    omega
theorem block_direct (g : GoodR h s w l) : directI h s w l ∈ someF w (block h s) := by
  obtain ⟨g1, g2, g3, g4, g5⟩ := good_nat g
  have := block_some (h := h) (s := s) (w := w) (i := h - 1) (j := w - 1) (by omega) (by omega) g4
  have e : directI h s w l = 1 + (((h - 1) * s : Nat) : Int) + ((w - 1 : Nat) : Int) := by
    unfold directI
    rw [Int.natCast_mul, Int.natCast_sub g1]
    simp
    omega
  rw [e]; exact this
theorem block_faster (g : GoodR h s w l) {r : Int} (h1 : 1 ≤ r) (h2 : r ≤ directI h s w l) : fasterI h s w l r = .int (cnt r (onF w l (block h s))) := by
  obtain ⟨g1, g2, g3, g4, g5⟩ := good_nat g
  have hd := direct_nat g
  have hb : 1 ≤ r ∧ r ≤ (h * s : Nat) := ⟨h1, by omega⟩
  have both := (block_draw (h := h) (s := s)).both w r
  have hm := block_others (h := h) (w := w) (by omega) g4 hb
  unfold fasterI
  rw [if_neg (by unfold slowI; omega), if_neg (by omega), block_draw.on_cnt]
  have e2 := most_nat g (r - 1).toNat
  rw [Int.toNat_of_nonneg (by omega)] at e2
  rw [e2]
  congr 1
  omega
/-- the greatest at the end -/
theorem last_of {a : List Int} (ha : Inc a) {x : Int} (hx : x ∈ a) (hm : ∀ y ∈ a, y ≤ x) : a.getLastD 0 = x := by
  have hne : a ≠ [] := fun z => by rw [z] at hx; cases hx
  obtain ⟨b, y, rfl⟩ : ∃ b y, a = b ++ [y] := ⟨a.dropLast, a.getLast hne, (List.dropLast_concat_getLast hne).symm⟩
  have h1 := hm y (by simp)
  rw [List.getLastD_concat]
  rcases List.mem_append.mp hx with z | z
  · have := (List.pairwise_append.mp ha).2.2 x z y (by simp)
    omega
  · exact (List.mem_singleton.mp z).symm
end
end HD
end

section
set_option Elab.async false
set_option linter.all false
set_option maxRecDepth 100000
set_option maxHeartbeats 1000000
/-! B12: told right. -/
namespace HD
open L2 (atI ixN)
theorem addLI {m : Mem} (x y : List Int) (h : x.length + y.length ≤ 1000000) : binop .add (LI x) (LI y) m = .ok (LI (x ++ y)) m := by
  rw [b_addL, if_pos (by unfold LIM; rw [List.length_map, List.length_map]; omega), LI, List.map_append]
theorem atLI {x : List Int} {i : Int} {r : Int} (hi : 0 ≤ i) (h : x[i.toNat]? = some r) : atI (x.map D.int) i = some (.int r) := by
  have := atI_nat (x.map D.int) i.toNat
  rw [Int.toNat_of_nonneg hi] at this
  rw [this, List.getElem?_map, h]; rfl
theorem getLastD_mem {x : List Int} (h : x ≠ []) : x.getLastD 0 ∈ x := by
  obtain ⟨b, y, rfl⟩ : ∃ b y, x = b ++ [y] := ⟨x.dropLast, x.getLast h, (List.dropLast_concat_getLast h).symm⟩
  rw [List.getLastD_concat]
  simp
section
variable {m : Mem} {h s w l : Nat} {hs : List (List Int)}
theorem told_right_ok (g : GoodR h s w l) (hN : (h : Int) * s ≤ 10000) (d : Draw h s hs) : Φ 44 [RU h s w l, TT hs] m = .ok (.bl true) m := by
  obtain ⟨g1, g2, g3, g4, g5⟩ := good_nat g
  have hN' : h * s ≤ 10000 := by
    have : ((h * s : Nat) : Int) ≤ 10000 := by rw [Int.natCast_mul]; exact hN
    omega
  have t1 := through_ok (m := m) (h := h) (s := s) (w := w) (l := l) (by omega) (by omega) hs (by rw [d.len_flat]; omega)
  rw [Int.toNat_natCast, Int.toNat_natCast] at t1
  have onl : (onF w l hs).length = h * w + l := d.on_len g4 g5
  have hpos : 0 < h * w := Nat.mul_pos (by omega) (by omega)
  have hne : onF w l hs ≠ [] := fun z => by rw [z] at onl; simp at onl; omega
  have hle : h * w + l ≤ h * s := by
    have : h * w + h * (s - w) = h * s := by rw [← Nat.mul_add]; congr 1; omega
    omega
  have sl1 : (sortI (someF w hs)).length = h * w := by rw [(sortI_perm _).length_eq, len_some (fun x hx => (d.each x hx).1) g4, d.len]
  have sne : sortI (someF w hs) ≠ [] := fun z => by rw [z] at sl1; simp at sl1; omega
  have sl2 : ((sortI (othersF w hs)).take l).length ≤ 10000 := by rw [List.length_take]; omega
  have a1 : binop .add (LI (sortI (someF w hs))) (LI ((sortI (othersF w hs)).take l)) m = .ok (LI (sortI (someF w hs) ++ luckyF w l hs)) m := addLI _ _ (by omega)
  have sr := sure_rank_ok (m := m) g hN
  have s0 : 0 ≤ sureI h s w l := by
    unfold sureI
    split
    · exact Int.mul_nonneg (by omega) (by omega)
    · rename_i hne
      have hws : w < s := by
        rcases Nat.lt_or_eq_of_le g4 with z | z
        · exact z
        · subst z
          have : l = 0 := by simp at g5; exact g5
          subst this
          exact absurd (by simp [placesI]) hne
      unfold boundI
      have := Int.mul_nonneg (show (0 : Int) ≤ w by omega) (Int.ediv_nonneg (show (0 : Int) ≤ (l : Int) + 1 + ((s : Int) - w) - 1 by omega) (show (0 : Int) ≤ (s : Int) - w by omega))
      omega
  have sb : sureI h s w l ≤ 10000 := by
    refine Classical.byContradiction fun z => ?_
    have := (d.on_bnd w l (sure_in d g (r := 10001) (by omega) (by omega))).2
    omega
  have c1 := cutI_take (onF w l hs) s0
  rw [sure_le g d] at c1
  have r1 : bltop .listRg2 [.int 1, .int (sureI h s w l + 1)] m = .ok (LI (rg 1 (sureI h s w l).toNat)) m := by
    rw [l_listRg2 (by omega)]
    congr 4
    omega
  have lr := on_slow d g (getLastD_mem hne)
  have ls := some_direct d g ((sortI_perm _).mem_iff.mp (getLastD_mem sne))
  have lr' : ¬ slowI h s w l < (onF w l hs).getLastD 0 := by omega
  have ls' : ¬ directI h s w l < (sortI (someF w hs)).getLastD 0 := by omega
  have pl := places_nat (h := h) (s := s) (w := w) (l := l)
  -- the places looked at
  obtain ⟨ρ2, m2, e1, x2, rfl, rfl⟩ := forL_idx (body := evSs Φ f_law_told_right_b1) (t := .nm 5) D.int [0, ((h * w + l : Nat) : Int) - 1, ((h * w + l : Nat) : Int) / 2, 2 * ((h * w + l : Nat) : Int) / 3]
    (fun i ρ m' => ∃ x, ρ = [some (RU h s w l), some (TT hs), some (LI (sortI (someF w hs))), some (LI (luckyF w l hs)), some (LI (onF w l hs)), x] ∧ m = m') (fun i p ρ m' hp ⟨x0, e0, em⟩ => by
      subst e0 em
      have hb : 0 ≤ p ∧ p < ((h * w + l : Nat) : Int) := by
        have := List.mem_of_getElem? hp
        simp only [List.mem_cons, List.not_mem_nil, or_false] at this
        omega
      have hg : (onF w l hs)[p.toNat]? = some ((onF w l hs)[p.toNat]'(by omega)) := List.getElem?_eq_getElem (by omega)
      obtain ⟨z, hz1, hz2⟩ := faster_told d g hg
      have ix := atLI hb.1 hg
      have bn := d.on_bnd w l (List.mem_of_getElem? hg)
      have lf := least_faster_ok (m := m) g hN (r := (onF w l hs)[p.toNat]'(by omega)) ⟨bn.1, by rw [← Int.natCast_mul]; exact bn.2⟩
      rw [hz1] at lf
      have hz3 : ¬ p < z := by omega
      refine ⟨_, _, _, rfl, ?_, some (.int p), rfl, rfl⟩
      simp [f_law_told_right_b1, ix, lf, hz3]) ⟨none, rfl, rfl⟩
  have li := ixI_last (onF w l hs) hne
  have li2 := ixI_last (sortI (someF w hs)) sne
  have ev4 : eqv (.int ((h * w + l : Nat) : Int)) (.int (placesI h s w l)) m = some true := by rw [pl, eqv_int]; simp
  have on_eq : sortI (sortI (someF w hs) ++ luckyF w l hs) = onF w l hs := (rfl)
  have lk : (sortI (othersF w hs)).take l = luckyF w l hs := (rfl)
  rw [lk] at t1 a1
  have len : ((onF w l hs).map D.int).length = h * w + l := by rw [List.length_map, onl]
  rw [R_law_told_right]
  simp (disch := omega) only [f_law_told_right, y_cons, y_unp, x_call, x_cons, x_nil, x_var, look_zero, look_succ, Res.bind_ok, t1, Res.toS_ok, bindTg_tp2, List.set, okE_some, SRes.bind_nx, y_set, x_blt, x_bin, a1, l_sorted, on_eq,
    y_ite, x_cmp, x_sl, x_none, x_some, sr, intO_int, slop_lst, c1, b_add, x_int, r1, c_ne, eqv_ints, decide_true, Option.map_some, Bool.not_true, okB_yes, blOf_bl, Bool.false_eq_true, if_false, y_nil]
  have k1 := slowest_rank_ok (m := m) g hN
  have k2 := slowest_direct_ok (m := m) g hN
  have k3 := places_ok (m := m) g hN
  simp only [List.map_cons, List.map_nil] at e1
  have l4 : 0 + 1 + 1 + 1 + 1 ≤ LIM := by decide
  simp (disch := omega) only [x_bop, x_b2, x_b1, x_cmp, x_ix, x_neg, x_int, negop_int, x_var, look_zero, look_succ, Res.bind_ok, ixop_lst, li, li2, okO_some, x_call, x_cons, x_nil, k1, k2, k3, c_gt, lr', ls', decide_false, blOf_bl, if_true, x_blt, l_len, lenop_lst, len, c_ne, ev4, Option.map_some, Bool.not_true, okB_yes,
    Res.toS_ok, Bool.false_eq_true, if_false, SRes.bind_nx, y_nil, y_cons, y_for, x_lst, x_bin, b_sub, b_fdiv, b_mul, List.length_cons, List.length_nil, l4, its_lst, e1, y_ret, x_bl, SRes.bind_rt, out_rt, shut_ok]

end
end HD
end

section
set_option Elab.async false
set_option linter.all false
set_option maxRecDepth 100000
set_option maxHeartbeats 1000000
/-! B13: dicts of ints; one turn of law k04. -/
namespace HD
open L2 (atI ixN)
section
variable {κ α : Type} [DecidableEq κ]
theorem lookD_cons (k j : κ) (v : α) (l : List (κ × α)) : lookD ((k, v) :: l) j = if k = j then some v else lookD l j := by
  unfold lookD
  rw [List.find?_cons]
  by_cases h : k = j <;> simp [h]
theorem lookD_append (l : List (κ × α)) (k j : κ) (v : α) : lookD (l ++ [(k, v)]) j = (lookD l j).or (if k = j then some v else none) := by
  induction l with
  | nil => rw [List.nil_append, lookD_cons]; rfl
  | cons p l ih =>
    obtain ⟨k', v'⟩ := p
    rw [List.cons_append, lookD_cons, lookD_cons, ih]
    split <;> rfl
theorem lookD_over (l : List (κ × α)) (k j : κ) (v : α) : lookD (l.map fun kv => if kv.1 = k then (kv.1, v) else kv) j = if k = j then (lookD l j).map (fun _ => v) else lookD l j := by
  induction l with
  | nil => simp [lookD]
  | cons p l ih =>
    obtain ⟨k', v'⟩ := p
    rw [List.map_cons]
    by_cases h : k' = k
    · subst h
      simp only [if_true]
      rw [lookD_cons, lookD_cons, ih]
      by_cases h2 : k' = j <;> simp [h2]
    · simp only [h, if_false]
      rw [lookD_cons, lookD_cons, ih]
      by_cases h2 : k' = j
      · subst h2
        simp [Ne.symm h]
      · simp [h2]
theorem lookD_put (l : List (κ × α)) (k j : κ) (v : α) : lookD (putD l k v) j = if k = j then some v else lookD l j := by
  unfold putD
  split
  · rename_i h
    rw [lookD_over]
    by_cases e : k = j
    · subst e
      obtain ⟨u, hu⟩ := Option.isSome_iff_exists.mp h
      simp [hu]
    · simp [e]
  · rename_i h
    rw [lookD_append]
    have hn : lookD l k = none := by simpa using h
    by_cases e : k = j
    · subst e; simp [hn]
    · simp [e]
theorem len_put (l : List (κ × α)) (k : κ) (v : α) : (putD l k v).length ≤ l.length + 1 := by
  unfold putD
  split <;> simp
end
/-- a dict whose keys are these -/
def KeysAre (kd : List (L2.Key × D)) (xs : List Int) : Prop := kd.length ≤ xs.length ∧ ∀ x : Int, (lookD kd (.inl x)).isSome = decide (x ∈ xs)
theorem KeysAre.nil : KeysAre [] [] := ⟨Nat.le_refl _, fun x => by simp [lookD]⟩
theorem KeysAre.put {kd : List (L2.Key × D)} {xs : List Int} (h : KeysAre kd xs) (x : Int) (v : D) : KeysAre (putD kd (.inl x) v) (xs ++ [x]) := by
  refine ⟨?_, fun y => ?_⟩
  · have := len_put kd (.inl x) v
    have := h.1
    simp; omega
  · rw [lookD_put]
    by_cases e : x = y
    · subst e; simp
    · have e' : ¬ ((Sum.inl x : L2.Key) = .inl y) := fun z => e (Sum.inl.inj z)
      rw [if_neg e', h.2]
      simp
      exact fun z => absurd z.symm e
theorem putop_dk {m : Mem} {n : Nat} {kd : List (L2.Key × D)} (h : m[n]? = some (.dk kd)) (hl : kd.length < 16777216) (x : Int) (v : D) : putop (.ref n) (.int x) v m = some (m.set n (.dk (putD kd (.inl x) v))) := by
  simp [putop, h, keyOf, LIM, hl]
theorem memb_dk {m : Mem} {kd : List (L2.Key × D)} {xs : List Int} (h : KeysAre kd xs) (x : Int) : memb (.int x) (.dk kd) m = some (decide (x ∈ xs)) := by
  simp [memb, dlook, keyOf, h.2]
@[simp] theorem c_inn {x y : D} {m : Mem} : cmpop .inn x y m = okB (memb x y m) m := rfl
@[simp] theorem c_notin {x y : D} {m : Mem} : cmpop .notin x y m = okB ((memb x y m).map (!·)) m := rfl
/-- where the first is that does not go on -/
theorem due_ok {h s w l : Nat} (g : GoodR h s w l) (hN : (h : Int) * s ≤ 10000) {M : List Int} (hM : (rg 1 (h * s)).filter (fun x => !decide (x ∈ onF w l (block h s))) = M) : sureI h s w l = (match M with | [] => ((h * s : Nat) : Int) | x :: _ => x - 1) := by
  obtain ⟨g1, g2, g3, g4, g5⟩ := good_nat g
  have hall : placesI h s w l = (h : Int) * s → sureI h s w l = ((h * s : Nat) : Int) := fun e => by
    unfold sureI
    rw [if_pos e, Int.natCast_mul]
  cases M with
  | nil =>
    by_cases e : placesI h s w l = (h : Int) * s
    · exact hall e
    · obtain ⟨o1, o2⟩ := block_out g e
      exfalso
      have hs0 : 0 ≤ sureI h s w l := by
        refine Classical.byContradiction fun z => ?_
        have e2 := e
        have hw : w < s := by
          rcases Nat.lt_or_eq_of_le g4 with z | z
          · exact z
          · subst z
            have : l = 0 := by simp at g5; exact g5
            subst this
            exact absurd (by simp [placesI]) e
        unfold sureI at z
        rw [if_neg e] at z
        unfold boundI at z
        have := Int.mul_nonneg (show (0 : Int) ≤ w by omega) (Int.ediv_nonneg (show (0 : Int) ≤ (l : Int) + 1 + ((s : Int) - w) - 1 by omega) (show (0 : Int) ≤ (s : Int) - w by omega))
        omega
      have : sureI h s w l + 1 ∈ (rg 1 (h * s)).filter (fun x => !decide (x ∈ onF w l (block h s))) := by
        rw [List.mem_filter, rg_mem]
        exact ⟨by omega, by simp [o1]⟩
      rw [hM] at this
      cases this
  | cons x M =>
    have hx : x ∈ (rg 1 (h * s)).filter (fun x => !decide (x ∈ onF w l (block h s))) := by rw [hM]; exact List.mem_cons_self
    rw [List.mem_filter, rg_mem] at hx
    have hxo : x ∉ onF w l (block h s) := by simpa using hx.2
    have h1 : sureI h s w l < x := by
      refine Classical.byContradiction fun z => ?_
      exact hxo (sure_in block_draw g hx.1.1 (by omega))
    by_cases e : placesI h s w l = (h : Int) * s
    · have := hall e
      omega
    · obtain ⟨o1, o2⟩ := block_out g e
      have hs0 : 1 ≤ sureI h s w l + 1 ∨ sureI h s w l + 1 < 1 := by omega
      have hinc : Inc (x :: M) := by rw [← hM]; exact (rg_inc _ _).sublist List.filter_sublist
      have : sureI h s w l + 1 ∈ x :: M := by
        rw [← hM, List.mem_filter, rg_mem]
        refine ⟨⟨?_, by omega⟩, by simp [o1]⟩
        refine Classical.byContradiction fun z => ?_
        have hw : w < s := by
          rcases Nat.lt_or_eq_of_le g4 with z | z
          · exact z
          · subst z
            have : l = 0 := by simp at g5; exact g5
            subst this
            exact absurd (by simp [placesI]) e
        unfold sureI at z
        rw [if_neg e] at z
        unfold boundI at z
        have := Int.mul_nonneg (show (0 : Int) ≤ w by omega) (Int.ediv_nonneg (show (0 : Int) ≤ (l : Int) + 1 + ((s : Int) - w) - 1 by omega) (show (0 : Int) ≤ (s : Int) - w by omega))
        omega
      rcases List.mem_cons.mp this with z | z
      · show sureI h s w l = x - 1
        omega
      · have := (List.pairwise_cons.mp hinc).1 _ z
        omega
end HD
end

section
set_option Elab.async false
set_option linter.all false
set_option maxRecDepth 100000
set_option maxHeartbeats 2000000
/-! B14: one turn of law k04. -/
namespace HD
open L2 (atI ixN)
theorem good_cast {a s w l : Int} (g : GoodR a s w l) : ∃ a' s' w' l' : Nat, a = a' ∧ s = s' ∧ w = w' ∧ l = l' := by
  have := g.b
  exact ⟨a.toNat, s.toNat, w.toNat, l.toNat, by omega, by omega, by omega, by omega⟩
section
variable {m : Mem} {b : Nat} {o : Mob}
theorem rule_k04_set (h : BagAt m b) (ho : IsBag o) {most : Int} (hm : 1 ≤ most ∧ most ≤ 10000) : ∃ a s w l o', Φ 42 [.ref b, .int most] (m.set b o) = .ok (RU a s w l) (m.set b o') ∧ IsBag o' ∧ GoodR a s w l ∧ a * s ≤ most := by
  obtain ⟨a, s, w, l, o', e, h1⟩ := rule_k04_ok (h.set ho) hm
  rw [List.set_set] at e
  exact ⟨a, s, w, l, o', e, h1⟩
theorem pick_ok (h : BagAt m b) : ∃ (a s w l : Nat) (o' : Mob), (∀ ρ : Env, (∀ M, look ρ 1 M = .ok (.ref b) M) → ev Φ (.ix (.lst [.call 43 [.var 1], .call 42 [.var 1, .int 200]]) (.call 10 [.var 1, .int 2])) ρ m = .ok (RU a s w l) (m.set b o')) ∧ IsBag o' ∧ GoodR a s w l ∧ (a : Int) * s ≤ 10000 := by
  obtain ⟨a1, s1, w1, l1, o1, e1, ho1, g1, n1⟩ := far_rule_ok h
  obtain ⟨a2, s2, w2, l2, o2, e2, ho2, g2, n2⟩ := rule_k04_set h ho1 (most := 200) (by omega)
  obtain ⟨v, o3, e3, ho3, b3⟩ := take_set h ho2 (n := 2) (by omega)
  have hv : v = 0 ∨ v = 1 := by omega
  rcases hv with rfl | rfl
  · obtain ⟨a, s, w, l, rfl, rfl, rfl, rfl⟩ := good_cast g1
    exact ⟨a, s, w, l, o3, fun ρ hρ => by simp [hρ, e1, e2, e3], ho3, g1, n1⟩
  · obtain ⟨a, s, w, l, rfl, rfl, rfl, rfl⟩ := good_cast g2
    exact ⟨a, s, w, l, o3, fun ρ hρ => by simp [hρ, e1, e2, e3], ho3, g2, by omega⟩
/-- a dict of these keys is made -/
theorem known_ok (r : Env) (xs : List Int) (hx : xs.length ≤ 1000000) {x0 x1 x2 x3 x4 x5 x6 x7 x8 x10 : Option D} (M : Mem) :
    ∃ (kd : List (L2.Key × D)) (y : Option D), KeysAre kd xs ∧ forL (evSs Φ f_law_k04_b1) (.nm 10) (xs.map .int) (x0 :: x1 :: x2 :: x3 :: x4 :: x5 :: x6 :: x7 :: x8 :: some (.ref M.length) :: x10 :: r) (M ++ [.dk []]) =
      .nx (x0 :: x1 :: x2 :: x3 :: x4 :: x5 :: x6 :: x7 :: x8 :: some (.ref M.length) :: y :: r) (M ++ [.dk kd]) := by
  obtain ⟨ρ2, m2, e1, kd, y, hk, rfl, rfl⟩ := forL_idx (body := evSs Φ f_law_k04_b1) (t := .nm 10) D.int xs (fun i ρ m' => ∃ (kd : List (L2.Key × D)) (y : Option D), KeysAre kd (xs.take i) ∧ ρ = x0 :: x1 :: x2 :: x3 :: x4 :: x5 :: x6 :: x7 :: x8 :: some (.ref M.length) :: y :: r ∧ m' = M ++ [.dk kd])
    (fun i x ρ m' hx2 ⟨kd, y, hk, e0, em⟩ => by
      subst e0 em
      have hi := (List.getElem?_eq_some_iff.mp hx2).1
      have hl : kd.length < 16777216 := by
        have := hk.1
        rw [List.length_take] at this
        omega
      have pp := putop_dk (get_app M (.dk kd)) hl x (.bl true)
      rw [set_app] at pp
      refine ⟨_, _, _, rfl, ?_, putD kd (.inl x) (.bl true), some (.int x), ?_, rfl, rfl⟩
      · simp [f_law_k04_b1, pp]
      · rw [List.take_succ, hx2]
        exact hk.put x _) ⟨[], x10, by rw [List.take_zero]; exact KeysAre.nil, rfl, rfl⟩
  rw [List.take_length] at hk
  exact ⟨kd, y, hk, e1⟩
theorem missing_ok {row xs : List Int} (hr : row.length ≤ 1000000) {kd : List (L2.Key × D)} (hk : KeysAre kd xs) {x0 x1 x2 x3 x4 x6 x7 x8 x10 x11 x12 x13 x14 x15 x16 : Option D} :
    ev Φ f_law_k04_c2 [x0, x1, x2, x3, x4, some (LI row), x6, x7, x8, some (.dk kd), x10, x11, x12, x13, x14, x15, x16] m = .ok (LI (row.filter fun x => !decide (x ∈ xs))) m := by
  have key := compL_map (tst := fun ρ m => (evT Φ [.cmp .notin (.var 10) (.var 9)] ρ m).calm) (elt := fun ρ m => (ev Φ (.var 10) ρ m).calm) (t := .nm 10)
    (ρ := [x0, x1, x2, x3, x4, some (LI row), x6, x7, x8, some (.dk kd), none, x11, x12, x13, x14, x15, x16]) (m := m) D.int (fun x => !decide (x ∈ xs)) D.int row (fun x _ => by
      refine ⟨_, rfl, ?_, fun _ => ?_⟩
      · simp only [List.set, x_t1, x_t0, x_cmp, x_var, look_zero, look_succ, Res.bind_ok, c_notin, memb_dk hk, Option.map_some, okB_yes, blOf_bl]
        cases decide (x ∈ xs) <;> rfl
      · simp only [List.set, x_var, look_zero, look_succ, Res.calm_ok])
  have hl : (row.map D.int).length ≤ LIM := by rw [List.length_map]; unfold LIM; omega
  rw [f_law_k04_c2, x_comp]
  have e1 : itsOf .seq (evL Φ [.var 5] [x0, x1, x2, x3, x4, some (LI row), x6, x7, x8, some (.dk kd), x10, x11, x12, x13, x14, x15, x16] m) = .ok (row.map .int) m := by
    simp only [x_cons, x_nil, x_var, look_zero, look_succ, Res.bind_ok, its_lst]
  rw [e1, Res.bind_ok, if_pos hl]
  show (compL _ _ _ [x0, x1, x2, x3, x4, some (LI row), x6, x7, x8, some (.dk kd), none, x11, x12, x13, x14, x15, x16] _ m).calm.bind _ = _
  rw [key, Res.calm_ok, Res.bind_ok]
theorem below_ok {some_ lucky : List Int} (hr : some_.length + lucky.length ≤ 1000000) (hne : some_ ≠ []) {x0 x1 x2 x3 x4 x5 x6 x9 x10 x11 x12 x13 x14 x15 x16 : Option D} :
    ev Φ f_law_k04_c3 [x0, x1, x2, x3, x4, x5, x6, some (LI some_), some (LI lucky), x9, x10, x11, x12, x13, x14, x15, x16] m = .ok (LI ((some_ ++ lucky).filter fun x => decide (x < some_.getLastD 0))) m := by
  have li := ixI_last some_ hne
  have key := compL_map (tst := fun ρ m => (evT Φ [.cmp .lt (.var 10) (.ix (.var 7) (.neg (.int 1)))] ρ m).calm) (elt := fun ρ m => (ev Φ (.var 10) ρ m).calm) (t := .nm 10)
    (ρ := [x0, x1, x2, x3, x4, x5, x6, some (LI some_), some (LI lucky), x9, none, x11, x12, x13, x14, x15, x16]) (m := m) D.int (fun x => decide (x < some_.getLastD 0)) D.int (some_ ++ lucky) (fun x _ => by
      refine ⟨_, rfl, ?_, fun _ => ?_⟩
      · simp only [List.set, x_t1, x_t0, x_cmp, x_ix, x_neg, x_int, negop_int, x_var, look_zero, look_succ, Res.bind_ok, ixop_lst, li, okO_some, c_lt, blOf_bl]
        cases decide (x < some_.getLastD 0) <;> rfl
      · simp only [List.set, x_var, look_zero, look_succ, Res.calm_ok])
  have hl : ((some_ ++ lucky).map D.int).length ≤ LIM := by rw [List.length_map, List.length_append]; unfold LIM; omega
  rw [f_law_k04_c3, x_comp]
  have e1 : itsOf .seq (evL Φ [.bin .add (.var 7) (.var 8)] [x0, x1, x2, x3, x4, x5, x6, some (LI some_), some (LI lucky), x9, x10, x11, x12, x13, x14, x15, x16] m) = .ok ((some_ ++ lucky).map .int) m := by
    simp only [x_cons, x_nil, x_bin, x_var, look_zero, look_succ, Res.bind_ok, addLI _ _ hr, its_lst]
  rw [e1, Res.bind_ok, if_pos hl]
  show (compL _ _ _ [x0, x1, x2, x3, x4, x5, x6, some (LI some_), some (LI lucky), x9, none, x11, x12, x13, x14, x15, x16] _ m).calm.bind _ = _
  rw [key, Res.calm_ok, Res.bind_ok]
/-- two neighbours exchanged -/
theorem moved_perm (n k : Nat) (hk : k + 1 ≤ n) (hk0 : 0 < k) : ((rg 1 n).take (k - 1) ++ [((k + 1 : Nat) : Int), (k : Int)] ++ (rg 1 n).drop (k + 1)).Perm (rg 1 n) := by
  have e1 : (rg 1 n).take (k - 1) ++ ([(k : Int), ((k + 1 : Nat) : Int)] ++ (rg 1 n).drop (k + 1)) = rg 1 n := by
    have h1 : (rg 1 n).drop (k - 1) = [(k : Int), ((k + 1 : Nat) : Int)] ++ (rg 1 n).drop (k + 1) := by
      rw [rg_drop, rg_drop]
      obtain ⟨j, hj⟩ : ∃ j, n - (k - 1) = j + 2 := ⟨n - (k - 1) - 2, by omega⟩
      rw [hj, rg_cons, rg_cons]
      have e2 : n - (k + 1) = j := by omega
      rw [e2]
      show _ = (k : Int) :: ((k + 1 : Nat) : Int) :: _
      congr 1
      · omega
      · congr 1
        · omega
        · congr 1
          omega
    rw [← h1, List.take_append_drop]
  rw [List.append_assoc]
  refine List.Perm.trans ?_ (List.Perm.of_eq e1)
  exact List.Perm.append_left _ (List.Perm.swap _ _ _)
end
end HD
end

section
set_option Elab.async false
set_option linter.all false
set_option maxRecDepth 100000
set_option maxHeartbeats 1000000
/-! B20: sets of a rule. -/
namespace HD
open L2 (atI ixN)
theorem comp_eval {α : Type} {P : Phi} {elt : C} {t : Tg} {k : ItK} {args ifs : List C} {own : List Nat} {ρ : Env} {m : Mem} (g : α → D) (p : α → Bool) (f : α → D) (xs : List α)
    (hi : itsOf k (evL P args ρ m) = .ok (xs.map g) m) (hl : xs.length ≤ 16777216)
    (h : ∀ x ∈ xs, ∃ ρ', bindTg t (g x) (wipeE ρ own) = some ρ' ∧ evT P ifs ρ' m = .ok (p x) m ∧ (p x = true → ev P elt ρ' m = .ok (f x) m)) :
    ev P (.comp elt t k args ifs own) ρ m = .ok (.lst ((xs.filter p).map f)) m := by
  rw [x_comp, hi, Res.bind_ok, List.length_map, if_pos (show xs.length ≤ LIM by unfold LIM; exact hl)]
  rw [compL_map g p f xs fun x hx => by
    obtain ⟨ρ', h1, h2, h3⟩ := h x hx
    exact ⟨ρ', h1, by rw [h2]; rfl, fun hp => by rw [h3 hp]; rfl⟩]
  rfl
theorem comp_evalA {α : Type} {P : Phi} {elt : C} {t : Tg} {k : ItK} {args : List C} {own : List Nat} {ρ : Env} {m : Mem} (g : α → D) (f : α → D) (xs : List α)
    (hi : itsOf k (evL P args ρ m) = .ok (xs.map g) m) (hl : xs.length ≤ 16777216)
    (h : ∀ x ∈ xs, ∃ ρ', bindTg t (g x) (wipeE ρ own) = some ρ' ∧ ev P elt ρ' m = .ok (f x) m) :
    ev P (.comp elt t k args [] own) ρ m = .ok (.lst (xs.map f)) m := by
  have := comp_eval (P := P) (elt := elt) (t := t) (k := k) (args := args) (ifs := []) (own := own) (ρ := ρ) (m := m) g (fun _ => true) f xs hi hl fun x hx => by
    obtain ⟨ρ', h1, h2⟩ := h x hx
    exact ⟨ρ', h1, by rw [x_t0], fun _ => h2⟩
  have e : xs.filter (fun _ => true) = xs := List.filter_eq_self.mpr fun _ _ => rfl
  rw [e] at this
  exact this
@[simp] theorem wipe0 (ρ : Env) : wipeE ρ [] = ρ := (rfl)
@[simp] theorem wipe1 (ρ : Env) (v : Nat) (vs : List Nat) : wipeE ρ (v :: vs) = (wipeE ρ vs).set v none := (rfl)
theorem blsOf_bls : ∀ l : List Bool, blsOf (l.map .bl) = some l
  | [] => rfl
  | i :: r => by simp [blsOf, blsOf_bls r]
@[simp] theorem l_all (l : List Bool) (m : Mem) : bltop .alll [.lst (l.map .bl)] m = .ok (.bl (l.all id)) m := by
  show blsop _ _ m = _
  unfold blsop blsAt seqD
  simp [blsOf_bls]
theorem l_allF {α : Type} (l : List α) (p : α → Bool) (m : Mem) : bltop .alll [.lst (l.map fun x => .bl (p x))] m = .ok (.bl (l.all p)) m := by
  have := l_all (l.map p) m
  rw [List.map_map] at this
  have e : (l.map p).all id = l.all p := by rw [List.all_map]; rfl
  rw [e] at this
  exact this
theorem flat_ints : ∀ l : List Int, (l.map D.int).all flatD = true
  | [] => rfl
  | i :: r => by simp [flatD]
theorem any_ints (x : Int) : ∀ l : List Int, ((l.map D.int).any fun z => eqF z (.int x)) = decide (x ∈ l)
  | [] => by simp
  | i :: r => by
    rw [List.map_cons, List.any_cons, any_ints x r]
    by_cases h : i = x
    · subst h; simp [eqF]
    · by_cases h2 : x ∈ r <;> simp [eqF, h, h2, Ne.symm h]
@[simp] theorem memb_tints (x : Int) (l : List Int) (m : Mem) : memb (.int x) (.tup (l.map .int)) m = some (decide (x ∈ l)) := by
  unfold memb
  simp only [dlook, seqD, flatD, flat_ints, any_ints, and_self, if_true]
@[simp] theorem memb_lints (x : Int) (l : List Int) (m : Mem) : memb (.int x) (.lst (l.map .int)) m = some (decide (x ∈ l)) := by
  unfold memb
  simp only [dlook, seqD, flatD, flat_ints, any_ints, and_self, if_true]
/-- the numbers from 1 to n that are not in xs -/
def outN (n : Nat) (xs : List Int) : List Int := (rg 1 n).filter fun x => !decide (x ∈ xs)
theorem outN_inc (n : Nat) (xs : List Int) : Inc (outN n xs) := (rg_inc _ _).sublist List.filter_sublist
theorem outN_mem {n : Nat} {xs : List Int} {x : Int} : x ∈ outN n xs ↔ (1 ≤ x ∧ x ≤ n) ∧ x ∉ xs := by
  unfold outN
  rw [List.mem_filter, rg_mem]
  simp only [Bool.not_eq_true', decide_eq_false_iff_not]
  exact ⟨fun h => ⟨by omega, h.2⟩, fun h => ⟨by omega, h.2⟩⟩
theorem outN_congr {n : Nat} {xs ys : List Int} (h : ∀ x, x ∈ xs ↔ x ∈ ys) : outN n xs = outN n ys := List.filter_congr fun x _ => by rw [decide_eq_decide.mpr (h x)]
theorem outN_len {n : Nat} {xs : List Int} (hx : xs.Nodup) (hb : ∀ x ∈ xs, 1 ≤ x ∧ x ≤ (n : Int)) : (outN n xs).length + xs.length = n := by
  have h1 : (outN n xs ++ xs).Perm (rg 1 n) := by
    refine (List.perm_ext_iff_of_nodup ?_ (inc_nodup (rg_inc _ _))).mpr fun x => ?_
    · rw [List.nodup_append]
      refine ⟨inc_nodup (outN_inc _ _), hx, fun a ha b hb e => ?_⟩
      subst e
      exact (outN_mem.mp ha).2 hb
    · rw [List.mem_append, outN_mem, rg_mem]
      constructor
      · rintro (h | h)
        · omega
        · have := hb x h; omega
      · intro h
        by_cases hx : x ∈ xs
        · exact .inr hx
        · exact .inl ⟨by omega, hx⟩
  have := h1.length_eq
  rw [List.length_append, rg_length] at this
  exact this
/-- each of a at least what stands in b at its place -/
def meetB (a b : List Int) : Bool := (a.zip b).all fun p => decide (p.2 ≤ p.1)
def bndN (s w n : Nat) : Nat := n + w * ((n + (s - w) - 1) / (s - w))
/-- the bounds of a rule -/
def limN (h s w l : Nat) : List Int := (List.range (h * (s - w) - l)).map fun i => ((bndN s w (l + 1 + i) : Nat) : Int)
theorem bound_nat {h s w l : Nat} (hw : w < s) (n : Nat) : boundI h s w l n = ((bndN s w n : Nat) : Int) := by
  unfold boundI bndN
  have e : ((n : Int) + ((s : Int) - w) - 1) = ((n + (s - w) - 1 : Nat) : Int) := by omega
  have e2 : ((s : Int) - w) = ((s - w : Nat) : Int) := by omega
  rw [e, e2, Int.natCast_add, Int.natCast_mul, Int.natCast_ediv]
theorem pairUp_ints : ∀ a b : List Int, pairUp (a.map .int) (b.map .int) = (a.zip b).map fun p => .tup [.int p.1, .int p.2]
  | [], _ => by simp [pairUp]
  | _ :: _, [] => by simp [pairUp]
  | x :: a, y :: b => by simp [pairUp, pairUp_ints a b]
@[simp] theorem its_zipL (a b : List Int) (m : Mem) : itsOf .zip (.ok [LI a, LI b] m) = .ok ((a.zip b).map fun p => .tup [.int p.1, .int p.2]) m := by
  simp [itsOf, itemsOf, i2, zipi, pairUp_ints]
@[simp] theorem its_zipT (a b : List Int) (m : Mem) : itsOf .zip (.ok [TI a, TI b] m) = .ok ((a.zip b).map fun p => .tup [.int p.1, .int p.2]) m := by
  simp [itsOf, itemsOf, i2, zipi, pairUp_ints]
section
variable {m : Mem} {h s w l : Nat}
theorem GoodR.nb (g : GoodR h s w l) : h ≤ 100 ∧ s ≤ 100 := by have := g.b; omega
theorem bounds_ok (g : GoodR h s w l) : Φ 57 [RU h s w l] m = .ok (LI (limN h s w l)) m := by
  obtain ⟨g1, g2, g3, g4, g5⟩ := good_nat g
  have gb := g.b
  have hq : h * (s - w) ≤ 100 * 100 := Nat.mul_le_mul (by omega) (by omega)
  have e1 : ((h : Int) * ((s : Int) - w) + 1 - (l + 1)).toNat = h * (s - w) - l := by
    have : (h : Int) * ((s : Int) - w) = ((h * (s - w) : Nat) : Int) := by
      rw [Int.natCast_mul]; congr 1; omega
    rw [this]; omega
  have e2 : (h : Int) * ((s : Int) - w) = ((h * (s - w) : Nat) : Int) := by
    rw [Int.natCast_mul]; congr 1; omega
  have c1 : ev Φ f_bounds_c1 [some (RU h s w l), none] m = .ok (LI (limN h s w l)) m := by
    rw [f_bounds_c1, comp_evalA (fun (i : Nat) => D.int ((l : Int) + 1 + i)) (fun i => .int ((bndN s w (l + 1 + i) : Nat) : Int)) (List.range (h * (s - w) - l)) ?_ (by simp; omega) fun i hi => ⟨[some (RU h s w l), some (.int ((l : Int) + 1 + i))], rfl, ?_⟩]
    · rw [LI, limN, List.map_map]; rfl
    · have hb1 : (h : Int) * ((s : Int) - w) ≤ 10000 ∧ 0 ≤ (h : Int) * ((s : Int) - w) := by rw [e2]; omega
      simp (disch := omega) [e1, rngD]
    · have hw : w < s := by
        rw [List.mem_range] at hi
        rcases Nat.lt_or_eq_of_le g4 with z | z
        · exact z
        · rw [z] at hi; simp at hi
      have bo := bound_ok (m := m) g (by omega) ((l : Int) + 1 + i)
      have e3 : (l : Int) + 1 + i = ((l + 1 + i : Nat) : Int) := by omega
      rw [e3, bound_nat hw] at bo
      rw [e3]
      simp only [x_call, x_cons, x_nil, x_var, look_zero, look_succ, Res.bind_ok, bo]
  rw [R_bounds]
  simp [f_bounds, c1]
theorem good0 (g : GoodR h s w l) : GoodR h s w 0 := by
  have := g.b
  exact ⟨g.1, g.2.1, g.2.2.1, by omega, by have := g.2.2.2; omega⟩
theorem good0' (g : GoodR h s w l) : GoodR h s w (0 : Nat) := good0 g
theorem all_bounds_ok (g : GoodR h s w l) : Φ 60 [RU h s w l] m = .ok (LI (limN h s w 0)) m := by
  obtain ⟨g1, g2, g3, g4, g5⟩ := good_nat g
  have gb := g.b
  have hq : h * (s - w) ≤ 100 * 100 := Nat.mul_le_mul (by omega) (by omega)
  have e2 : (h : Int) * ((s : Int) - w) = ((h * (s - w) : Nat) : Int) := by
    rw [Int.natCast_mul]; congr 1; omega
  have e1 : (((h * (s - w) : Nat) : Int) + 1 - 1).toNat = h * (s - w) := by omega
  have c1 : ev Φ f_all_bounds_c1 [some (RU h s w l), none] m = .ok (LI (limN h s w 0)) m := by
    rw [f_all_bounds_c1, comp_evalA (fun (i : Nat) => D.int (1 + i)) (fun i => .int ((bndN s w (0 + 1 + i) : Nat) : Int)) (List.range (h * (s - w))) ?_ (by simp; omega) fun i hi => ⟨[some (RU h s w l), some (.int (1 + i))], rfl, ?_⟩]
    · rw [LI, limN, List.map_map]; rfl
    · have hb1 : (h : Int) * ((s : Int) - w) ≤ 10000 ∧ 0 ≤ (h : Int) * ((s : Int) - w) := by rw [e2]; omega
      have hm : ((h : Int) * ((s : Int) - w)).toNat = h * (s - w) := by rw [e2]; rfl
      simp (disch := omega) [hm, rngD]
    · have hw : w < s := by
        rw [List.mem_range] at hi
        rcases Nat.lt_or_eq_of_le g4 with z | z
        · exact z
        · rw [z] at hi; simp at hi
      have bo := bound_ok (m := m) g (by omega) ((1 : Int) + i)
      have e3 : (1 : Int) + i = ((0 + 1 + i : Nat) : Int) := by omega
      rw [e3, bound_nat hw] at bo
      rw [e3]
      simp only [x_call, x_cons, x_nil, x_var, look_zero, look_succ, Res.bind_ok, bo]
  rw [R_all_bounds]
  simp [f_all_bounds, c1]
theorem others_tok (g : GoodR h s w l) (xs : List Int) : Φ 58 [RU h s w l, TI xs] m = .ok (LI (outN (h * s) xs)) m := by
  have gb := g.b
  have hq : h * s ≤ 100 * 100 := Nat.mul_le_mul (by omega) (by omega)
  have k1 : binop .mul (.int (h : Int)) (.int (s : Int)) m = .ok (.int ((h * s : Nat) : Int)) m := by rw [Int.natCast_mul]; exact b_mul (.inl ⟨by omega, by omega⟩)
  have e1 : (((h * s : Nat) : Int) + 1 - 1).toNat = h * s := by omega
  have c1 : ev Φ f_others_of_c1 [some (RU h s w l), some (TI xs), none] m = .ok (LI (outN (h * s) xs)) m := by
    rw [f_others_of_c1, comp_eval D.int (fun x => !decide (x ∈ xs)) D.int (rg 1 (h * s)) ?_ (by simp; omega) fun x hx => ⟨[some (RU h s w l), some (TI xs), some (.int x)], rfl, ?_, fun _ => by simp⟩]
    · rfl
    · have hm : ((h : Int) * s).toNat = h * s := by rw [← Int.natCast_mul]; rfl
      simp (disch := omega) [rngD_rg, hm]
    · simp only [x_t1, x_t0, x_cmp, x_var, look_zero, look_succ, Res.bind_ok, c_notin, memb_tints, Option.map_some, okB_yes, blOf_bl]
      cases decide (x ∈ xs) <;> rfl
  rw [R_others_of]
  simp [f_others_of, c1]
theorem meets_ok (a b : List Int) (ha : a.length ≤ 1000000) : Φ 59 [LI a, LI b] m = .ok (.bl (meetB a b)) m := by
  have c1 : ev Φ f_meets_c1 [some (LI a), some (LI b), none, none] m = .ok (.lst ((a.zip b).map fun p => .bl (decide (p.2 ≤ p.1)))) m := by
    rw [f_meets_c1, comp_evalA (fun p : Int × Int => D.tup [.int p.1, .int p.2]) (fun p => .bl (decide (p.2 ≤ p.1))) (a.zip b) ?_ (by rw [List.length_zip]; omega) fun p hp => ⟨[some (LI a), some (LI b), some (.int p.1), some (.int p.2)], rfl, by simp⟩]
    simp only [x_cons, x_nil, x_var, look_zero, look_succ, Res.bind_ok, its_zipL]
  rw [R_meets]
  simp only [f_meets, y_cons, y_ret, x_blt, x_cons, x_nil, c1, Res.bind_ok, l_allF, Res.toS_ok, SRes.bind_rt, out_rt, shut_ok]
  rfl
def fitB (h s w l : Nat) (xs : List Int) : Bool := decide (xs.length = h * w + l) && meetB (outN (h * s) xs) (limN h s w l)
theorem out_le (n : Nat) (xs : List Int) : (outN n xs).length ≤ n := by
  have := List.length_filter_le (fun x => !decide (x ∈ xs)) (rg 1 n)
  rw [rg_length] at this
  exact this
theorem set_fits_ok (g : GoodR h s w l) (xs : List Int) : Φ 61 [RU h s w l, TI xs] m = .ok (.bl (fitB h s w l xs)) m := by
  have gb := g.b
  have hq : h * s ≤ 100 * 100 := Nat.mul_le_mul (by omega) (by omega)
  have := out_le (h * s) xs
  rw [R_set_fits]
  unfold fitB
  by_cases e : xs.length = h * w + l
  · have e' : decide ((xs.length : Int) = placesI h s w l) = true := by rw [places_nat]; simp [e]
    simp only [f_set_fits, y_cons, y_ret, x_bop, x_b2, x_b1, x_cmp, x_blt, x_cons, x_nil, x_var, look_zero, look_succ, Res.bind_ok, l_len, lenop_tup, List.length_map, x_call, places_of_ok g, c_eq, eqv_int, e', okB_yes, blOf_bl, if_true, others_tok g, bounds_ok g, meets_ok _ _ (show (outN (h * s) xs).length ≤ 1000000 by omega), Res.toS_ok, SRes.bind_rt, out_rt, shut_ok]
    simp [e]
  · have e' : decide ((xs.length : Int) = placesI h s w l) = false := by
      rw [places_nat]; rw [decide_eq_false_iff_not]; omega
    simp only [f_set_fits, y_cons, y_ret, x_bop, x_b2, x_b1, x_cmp, x_blt, x_cons, x_nil, x_var, look_zero, look_succ, Res.bind_ok, l_len, lenop_tup, List.length_map, x_call, places_of_ok g, c_eq, eqv_int, e', okB_yes, blOf_bl, Bool.false_eq_true, if_false, Res.toS_ok, SRes.bind_rt, out_rt, shut_ok]
    simp [e]
/-! rising tuples -/
theorem zip_tail_inc : ∀ {xs : List Int}, Inc xs → ((xs.zip (xs.drop 1)).all fun p => decide (p.1 < p.2)) = true
  | [], _ => rfl
  | [_], _ => rfl
  | x :: y :: r, h => by
    have h' := List.pairwise_cons.mp h
    have ih := zip_tail_inc h'.2
    have := h'.1 y List.mem_cons_self
    simp only [List.drop_one, List.tail_cons, List.zip_cons_cons, List.all_cons, Bool.and_eq_true, decide_eq_true_eq] at ih ⊢
    exact ⟨this, ih⟩
theorem is_rising_ok {xs : List Int} {lo hi : Int} (hx : Inc xs) (hb : ∀ x ∈ xs, lo ≤ x ∧ x ≤ hi) (hl : xs.length ≤ 1000000) : Φ 2 [TI xs, .int lo, .int hi] m = .ok (.bl true) m := by
  have c1 : ev Φ f_is_rising_c1 [some (TI xs), some (.int lo), some (.int hi), none, none] m = .ok (.lst (xs.map fun x => .bl (decide (lo ≤ x ∧ x ≤ hi)))) m := by
    rw [f_is_rising_c1, comp_evalA D.int (fun x => .bl (decide (lo ≤ x ∧ x ≤ hi))) xs ?_ (by omega) fun x hx => ⟨[some (TI xs), some (.int lo), some (.int hi), some (.int x), none], rfl, ?_⟩]
    · simp only [x_cons, x_nil, x_var, look_zero, look_succ, Res.bind_ok, its_tup]
    · simp only [x_call, x_cons, x_nil, x_var, look_zero, look_succ, Res.bind_ok, is_integer_int]
  have c2 : ev Φ f_is_rising_c2 [some (TI xs), some (.int lo), some (.int hi), none, none] m = .ok (.lst ((xs.zip (xs.drop 1)).map fun p => .bl (decide (p.1 < p.2)))) m := by
    rw [f_is_rising_c2, comp_evalA (fun p : Int × Int => D.tup [.int p.1, .int p.2]) (fun p => .bl (decide (p.1 < p.2))) (xs.zip (xs.drop 1)) ?_ (by rw [List.length_zip]; omega) fun p hp => ⟨[some (TI xs), some (.int lo), some (.int hi), some (.int p.1), some (.int p.2)], rfl, by simp⟩]
    have := cutI_drop xs (i := 1) (by omega)
    simp only [x_cons, x_nil, x_var, look_zero, look_succ, Res.bind_ok, x_sl, x_some, x_none, x_int, intO_int, slop_tup, this, its_zipT, Int.toNat_one]
  have a1 : (xs.all fun x => decide (lo ≤ x ∧ x ≤ hi)) = true := by
    rw [List.all_eq_true]
    exact fun x hx => decide_eq_true (hb x hx)
  rw [R_is_rising]
  simp only [f_is_rising, y_cons, y_ite, x_bop, x_b2, x_b1, x_not, x_blt, x_cons, x_nil, x_var, look_zero, look_succ, Res.bind_ok, l_isTuple, isop_tup, isTupD_tup, blOf_bl, Bool.not_true, Bool.false_eq_true, if_false, if_true, c1, l_allF, a1, Res.toS_ok, y_nil, SRes.bind_nx, y_ret, c2, zip_tail_inc hx, SRes.bind_rt, out_rt, shut_ok]
theorem inc_len : ∀ {xs : List Int} {n : Nat}, Inc xs → (∀ x ∈ xs, 1 ≤ x ∧ x ≤ (n : Int)) → xs.length ≤ n := fun {xs n} h hb => by
  have := outN_len (inc_nodup h) hb
  omega
theorem need_set_ok (g : GoodR h s w l) {xs : List Int} (hx : Inc xs) (hb : ∀ x ∈ xs, 1 ≤ x ∧ x ≤ ((h * s : Nat) : Int)) : Φ 56 [RU h s w l, TI xs] m = .ok .non m := by
  have gb := g.b
  have hq : h * s ≤ 100 * 100 := Nat.mul_le_mul (by omega) (by omega)
  have k1 : binop .mul (.int (h : Int)) (.int (s : Int)) m = .ok (.int ((h * s : Nat) : Int)) m := by rw [Int.natCast_mul]; exact b_mul (.inl ⟨by omega, by omega⟩)
  have hl := inc_len hx hb
  rw [R_need_set]
  simp only [f_need_set, y_cons, y_ite, x_not, x_call, x_cons, x_nil, x_var, x_int, x_bin, x_ix, look_zero, look_succ, Res.bind_ok, ixop_tup, at0, at1, okO_some, k1, is_rising_ok hx hb (show xs.length ≤ 1000000 by omega), blOf_bl, Bool.not_true, Res.toS_ok, Bool.false_eq_true, if_false, y_nil, SRes.bind_nx, out_nx, shut_ok]
theorem can_qualify_ok (g : GoodR h s w l) (hN : (h : Int) * s ≤ 60) {xs : List Int} (hx : Inc xs) (hb : ∀ x ∈ xs, 1 ≤ x ∧ x ≤ ((h * s : Nat) : Int)) : Φ 63 [RU h s w l, TI xs] m = .ok (.bl (fitB h s w l xs)) m := by
  rw [R_can_qualify]
  simp only [f_can_qualify, y_cons, y_drop, x_call, x_cons, x_nil, x_var, x_int, look_zero, look_succ, Res.bind_ok, need_rule2_ok g hN, need_set_ok g hx hb, Res.toS_ok, SRes.bind_nx, y_ret, set_fits_ok g, SRes.bind_rt, out_rt, shut_ok]
def dirB (h s w : Nat) (xs : List Int) : Bool := decide (xs.length = h * w) && meetB (outN (h * s) xs) (limN h s w 0)
theorem can_direct_ok (g : GoodR h s w l) (hN : (h : Int) * s ≤ 60) {xs : List Int} (hx : Inc xs) (hb : ∀ x ∈ xs, 1 ≤ x ∧ x ≤ ((h * s : Nat) : Int)) : Φ 62 [RU h s w l, TI xs] m = .ok (.bl (dirB h s w xs)) m := by
  have gb := g.b
  have hq : h * s ≤ 100 * 100 := Nat.mul_le_mul (by omega) (by omega)
  have hol := out_le (h * s) xs
  have k1 : binop .mul (.int (h : Int)) (.int (w : Int)) m = .ok (.int ((h * w : Nat) : Int)) m := by rw [Int.natCast_mul]; exact b_mul (.inl ⟨by omega, by omega⟩)
  rw [R_can_be_direct]
  unfold dirB
  by_cases e : xs.length = h * w
  · have e' : decide ((xs.length : Int) = ((h * w : Nat) : Int)) = true := by rw [e]; simp
    simp only [f_can_be_direct, y_cons, y_drop, x_call, x_cons, x_nil, x_var, x_int, look_zero, look_succ, Res.bind_ok, need_rule2_ok g hN, need_set_ok g hx hb, Res.toS_ok, SRes.bind_nx, y_ret, x_bop, x_b2, x_b1, x_cmp, x_blt, l_len, lenop_tup, List.length_map, x_bin, x_ix, ixop_tup, at0, at2, okO_some, k1, c_eq, eqv_int, e', okB_yes, blOf_bl, if_true, others_tok g, all_bounds_ok g, meets_ok _ _ (show (outN (h * s) xs).length ≤ 1000000 by omega), SRes.bind_rt, out_rt, shut_ok]
    simp [e]
  · have e' : decide ((xs.length : Int) = ((h * w : Nat) : Int)) = false := by
      rw [decide_eq_false_iff_not]; omega
    simp only [f_can_be_direct, y_cons, y_drop, x_call, x_cons, x_nil, x_var, x_int, look_zero, look_succ, Res.bind_ok, need_rule2_ok g hN, need_set_ok g hx hb, Res.toS_ok, SRes.bind_nx, y_ret, x_bop, x_b2, x_b1, x_cmp, x_blt, l_len, lenop_tup, List.length_map, x_bin, x_ix, ixop_tup, at0, at2, okO_some, k1, c_eq, eqv_int, e', okB_yes, blOf_bl, Bool.false_eq_true, if_false, SRes.bind_rt, out_rt, shut_ok]
    simp [e]
end
end HD
end

section
set_option Elab.async false
set_option linter.all false
set_option maxRecDepth 100000
set_option maxHeartbeats 1000000
/-! B21: numbers of sets. -/
namespace HD
open L2 (atI ixN)
/-- the ways to leave out, when k runners are left of R, the n-th limit being next -/
def wayN (L : List Int) (R : Nat) : Nat → Nat → Nat
  | 0, n => if n = L.length then 1 else 0
  | k + 1, n => wayN L R k n + (if n < L.length ∧ L.getD n 0 ≤ ((R - k : Nat) : Int) then wayN L R k (n + 1) else 0)
theorem wayN_big (L : List Int) (R : Nat) : ∀ k n, L.length < n → wayN L R k n = 0
  | 0, n, h => by unfold wayN; rw [if_neg (by omega)]
  | k + 1, n, h => by
    unfold wayN
    rw [wayN_big L R k n h, if_neg (by omega)]
theorem wayN_le (L : List Int) (R : Nat) : ∀ k n, wayN L R k n ≤ 2 ^ k
  | 0, n => by unfold wayN; split <;> simp
  | k + 1, n => by
    have h1 := wayN_le L R k n
    have h2 := wayN_le L R k (n + 1)
    unfold wayN
    rw [Nat.pow_succ]
    split <;> omega
theorem putop_dt {m : Mem} {n : Nat} {kd : List (List L2.Key × D)} (h : m[n]? = some (.dt kd)) (hl : kd.length < 16777216) (x y : Int) (v : D) : putop (.ref n) (.tup [.int x, .int y]) v m = some (m.set n (.dt (putD kd [.inl x, .inl y] v))) := by
  simp [putop, h, tkeyOf, keysOf, keyOf, LIM, hl]
theorem ixop_dtr {m : Mem} {n : Nat} {kd : List (List L2.Key × D)} (h : m[n]? = some (.dt kd)) {x y : Int} {v : D} (hv : lookD kd [.inl x, .inl y] = some v) : ixop (.ref n) (.tup [.int x, .int y]) m = .ok v m := by
  simp [ixop, seqD, h, dlook, tkeyOf, keysOf, keyOf, hv]
theorem ixop_dt {m : Mem} {kd : List (List L2.Key × D)} {x y : Int} {v : D} (hv : lookD kd [.inl x, .inl y] = some v) : ixop (.dt kd) (.tup [.int x, .int y]) m = .ok v m := by
  simp [ixop, seqD, dlook, tkeyOf, keysOf, keyOf, hv]
theorem closedK2_app (n : Nat) : ∀ (l r : List (List L2.Key × D)), closedK2 n (l ++ r) = (closedK2 n l && closedK2 n r)
  | [], r => by simp [closedK2]
  | (k, d) :: l, r => by simp [closedK2, closedK2_app n l r, Bool.and_assoc]
theorem closedK2_over (n : Nat) (k : List L2.Key) (v : D) (hv : closedD n v = true) : ∀ (l : List (List L2.Key × D)), closedK2 n l = true → closedK2 n (l.map fun kv => if kv.1 = k then (kv.1, v) else kv) = true
  | [], _ => rfl
  | (k', d) :: l, h => by
    simp only [closedK2, Bool.and_eq_true] at h
    have ih := closedK2_over n k v hv l h.2
    rw [List.map_cons]
    by_cases e : k' = k
    · simp only [e, if_true, closedK2, hv, ih, Bool.and_self]
    · simp only [e, if_false, closedK2, h.1, ih, Bool.and_self]
theorem closedK2_put (n : Nat) (k : List L2.Key) (v : D) (hv : closedD n v = true) {l : List (List L2.Key × D)} (h : closedK2 n l = true) : closedK2 n (putD l k v) = true := by
  unfold putD
  split
  · exact closedK2_over n k v hv l h
  · rw [closedK2_app, h]; simp [closedK2, hv]
/-- what a dict of ways holds: the entries (R + 1 - k, n) for which P k n -/
structure WD (L : List Int) (R : Nat) (kd : List (List L2.Key × D)) (P : Nat → Nat → Prop) : Prop where
  cl : closedK2 0 kd = true
  at_ : ∀ k n, P k n → lookD kd [.inl ((R + 1 : Int) - k), .inl (n : Int)] = some (.int (wayN L R k n))
theorem WD.put {L : List Int} {R : Nat} {kd : List (List L2.Key × D)} {P : Nat → Nat → Prop} (h : WD L R kd P) (k0 n0 : Nat) : WD L R (putD kd [.inl ((R + 1 : Int) - k0), .inl (n0 : Int)] (.int (wayN L R k0 n0))) (fun k n => P k n ∨ (k = k0 ∧ n = n0)) := ⟨closedK2_put 0 _ _ rfl h.cl, fun k n hk => by
  rw [lookD_put]
  by_cases e : k = k0 ∧ n = n0
  · obtain ⟨rfl, rfl⟩ := e
    rw [if_pos rfl]
  · rw [if_neg fun z => by
      injection z with z1 z2
      injection z1 with z1
      injection z2 with z2 _
      injection z2 with z2
      exact e ⟨by omega, by omega⟩]
    exact h.at_ k n (hk.resolve_right e)⟩
theorem WD.imp {L : List Int} {R : Nat} {kd : List (List L2.Key × D)} {P Q : Nat → Nat → Prop} (h : WD L R kd P) (q : ∀ k n, Q k n → P k n) : WD L R kd Q := ⟨h.cl, fun k n hk => h.at_ k n (q k n hk)⟩
section
variable {m : Mem}
theorem small_nat {R : Nat} (hR : R ≤ 1000000) : small62 (R : Int) = true := by simp [small62]; omega
theorem i3_eq (f : D → D → D → Option (List D)) (x y z : D) : i3 f [x, y, z] = f x y z := (rfl)
theorem its_eq {k : ItK} {ds its : List D} (h : itemsOf k ds = some its) : itsOf k (.ok ds m) = .ok its m := by
  unfold itsOf
  rw [Res.bind_ok, h]
theorem items3 (ds : List D) : itemsOf .rng3 ds = i3 rng3i ds := by rw [itemsOf]
theorem its3_eq {x y z : D} {its : List D} (h : rng3i x y z = some its) : itsOf .rng3 (.ok [x, y, z] m) = .ok its m := its_eq (by rw [items3, i3_eq, h])
theorem rng3i_down {i j : Int} (h1 : small62 i = true) (h2 : small62 j = true) : rng3i (.int i) (.int j) (.int (-1)) = some (rngStep i (-1) (i - j).toNat) := by
  unfold rng3i
  simp only [h1, h2, decide_true, Bool.and_self, if_true]
theorem its_rng3d (R : Nat) (hR : R ≤ 1000000) : itsOf .rng3 (.ok [.int (R : Int), .int 0, .int (-1)] m) = .ok ((List.range R).map fun (i : Nat) => D.int ((R : Int) - i)) m := by
  have e3 := rng3i_down (small_nat hR) (j := 0) (small_nat (R := 0) (by omega))
  have e4 : rngStep (R : Int) (-1) ((R : Int) - 0).toNat = (List.range R).map fun (i : Nat) => D.int ((R : Int) - i) := by
    unfold rngStep
    rw [show ((R : Int) - 0).toNat = R by omega]
    refine List.map_congr_left fun i _ => ?_
    rw [show (R : Int) + (i : Int) * (-1) = (R : Int) - i by omega]
  rw [e4] at e3
  exact its3_eq e3
theorem ways_ok (hc : Cl m) (R : Nat) (hR : R ≤ 1000) (L : List Int) (hL : L.length ≤ 1000) : ∃ kd, Φ 64 [.int R, LI L] m = .ok (.dt kd) m ∧ WD L R kd (fun k n => k ≤ R ∧ n ≤ L.length) := by
  have hlen : ((L.length : Int) + 1).toNat = L.length + 1 := by omega
  let M : List (List L2.Key × D) → Mem := fun kd => m ++ [.dt kd]
  have gM : ∀ kd, (M kd)[m.length]? = some (.dt kd) := fun kd => get_app m _
  have sM : ∀ kd kd', (M kd).set m.length (.dt kd') = M kd' := fun kd kd' => set_app m _ _
  let E : Option D → Option D → Option D → Env := fun a b c => [some (.int (R : Int)), some (LI L), some (.ref m.length), a, b, c]
  have i1 : ∀ (a b c : Option D) kd, itsOf .rng1 (evL Φ [.bin .add (.blt .len [.var 1]) (.int 1)] (E a b c) (M kd)) = .ok ((List.range (L.length + 1)).map fun (i : Nat) => D.int (i : Int)) (M kd) := fun a b c kd => by
    simp (disch := omega) [E, hlen, rngD]
  -- the first row
  have first : ∃ kd a, forL (evSs Φ f_ways_from_b1) (.nm 3) ((List.range (L.length + 1)).map fun (i : Nat) => D.int (i : Int)) (E none none none) (M []) = .nx (E a none none) (M kd) ∧ kd.length ≤ L.length + 1 ∧ WD L R kd (fun k n => k = 0 ∧ n ≤ L.length) := by
    obtain ⟨ρ2, m2, e, kd, a, rfl, rfl, hl, hw⟩ := forL_idx (body := evSs Φ f_ways_from_b1) (t := .nm 3) (fun (i : Nat) => D.int (i : Int)) (List.range (L.length + 1))
      (fun i ρ m' => ∃ kd a, ρ = E a none none ∧ m' = M kd ∧ kd.length ≤ i ∧ WD L R kd (fun k n => k = 0 ∧ n < i)) (fun i x ρ m' hx ⟨kd, a, e1, e2, hl, hw⟩ => by
        subst e1 e2
        have hi := (List.getElem?_eq_some_iff.mp hx).1
        rw [List.length_range] at hi
        have ex : x = i := by rw [List.getElem?_range hi] at hx; exact (Option.some.inj hx).symm
        subst ex
        have pp := fun v => putop_dt (gM kd) (by omega) ((R : Int) + 1) (x : Int) v
        refine ⟨_, _, _, rfl, ?_, putD kd [.inl ((R + 1 : Int) - (0 : Nat)), .inl (x : Int)] (.int (wayN L R 0 x)), some (.int x), rfl, rfl, ?_, ?_⟩
        · have ei : (if decide ((x : Int) = (L.length : Int)) = true then (1 : Int) else 0) = ((wayN L R 0 x : Nat) : Int) := by
            unfold wayN
            by_cases z : x = L.length <;> simp [z]
            omega
          have l2 : (2 : Nat) ≤ LIM := lim2
          have ez : ((R : Int) + 1 - (0 : Nat)) = (R : Int) + 1 := by omega
          rw [ez]
          simp only [E, List.set, f_ways_from_b1, y_cons, y_put, x_blt, x_cons, x_nil, x_cmp, x_var, look_zero, look_succ, Res.bind_ok, l_len, lenop_lst, List.length_map, c_eq, eqv_int, okB_yes, l_intOf, Res.toS_ok, x_tup, x_bin, x_int, b_add, List.length_cons, List.length_nil, l2, if_true, pp, okM_some, SRes.bind_nx, y_nil, ei, sM]
        · have := len_put kd [.inl ((R + 1 : Int) - (0 : Nat)), .inl (x : Int)] (.int (wayN L R 0 x))
          omega
        · exact (hw.put 0 x).imp fun k n h => by omega) ⟨[], none, rfl, rfl, Nat.le_refl _, rfl, fun k n h => absurd h.2 (Nat.not_lt_zero _)⟩
    rw [List.length_range] at hl hw
    exact ⟨kd, a, e, hl, hw.imp fun k n h => by omega⟩
  -- one more row
  have row : ∀ k, k < R → ∀ kd a b c, kd.length ≤ (k + 1) * (L.length + 1) → WD L R kd (fun k' n => k' ≤ k ∧ n ≤ L.length) → b = some (.int ((R : Int) - k)) → ∃ kd' a' c', forL (evSs Φ f_ways_from_b2) (.nm 3) ((List.range (L.length + 1)).map fun (i : Nat) => D.int (i : Int)) (E a b c) (M kd) = .nx (E a' b c') (M kd') ∧ kd'.length ≤ (k + 2) * (L.length + 1) ∧ WD L R kd' (fun k' n => k' ≤ k + 1 ∧ n ≤ L.length) := by
    intro k hk kd a b c hl hw hb
    have hbig : (k + 1) * (L.length + 1) ≤ 1000 * 1001 := Nat.mul_le_mul (by omega) (by omega)
    obtain ⟨ρ2, m2, e, kd', a', c', rfl, rfl, hl', hw'⟩ := forL_idx (body := evSs Φ f_ways_from_b2) (t := .nm 3) (fun (i : Nat) => D.int (i : Int)) (List.range (L.length + 1))
      (fun i ρ m' => ∃ kd a c, ρ = E a b c ∧ m' = M kd ∧ kd.length ≤ (k + 1) * (L.length + 1) + i ∧ WD L R kd (fun k' n => (k' ≤ k ∧ n ≤ L.length) ∨ (k' = k + 1 ∧ n < i))) (fun i x ρ m' hx ⟨kd, a, c, e1, e2, hl, hw⟩ => by
        subst e1 e2 hb
        have hi := (List.getElem?_eq_some_iff.mp hx).1
        rw [List.length_range] at hi
        have ex : x = i := by rw [List.getElem?_range hi] at hx; exact (Option.some.inj hx).symm
        subst ex
        have er : (R : Int) - k + 1 = (R + 1 : Int) - k := by omega
        have w1 : ixop (.ref m.length) (.tup [.int ((R : Int) - k + 1), .int (x : Int)]) (M kd) = .ok (.int (wayN L R k x)) (M kd) := ixop_dtr (gM kd) (by rw [er]; exact hw.at_ k x (.inl ⟨Nat.le_refl _, by omega⟩))
        have pp := fun v => putop_dt (gM kd) (by omega) ((R : Int) - k) (x : Int) v
        have l2 : (2 : Nat) ≤ LIM := lim2
        have ek : ((R + 1 : Int) - ((k + 1 : Nat) : Int)) = (R : Int) - k := by omega
        have fin : ∀ v : Int, v = ((wayN L R (k + 1) x : Nat) : Int) → ∃ kd2 a2 c2, E (some (.int (x : Int))) (some (.int ((R : Int) - k))) (some (.int v)) = E a2 (some (.int ((R : Int) - k))) c2 ∧ M (putD kd [.inl ((R : Int) - k), .inl (x : Int)] (.int v)) = M kd2 ∧ kd2.length ≤ (k + 1) * (L.length + 1) + (x + 1) ∧ WD L R kd2 (fun k' n => (k' ≤ k ∧ n ≤ L.length) ∨ (k' = k + 1 ∧ n < x + 1)) := fun v hv => by
          subst hv
          refine ⟨_, _, _, rfl, rfl, ?_, ?_⟩
          · have := len_put kd [.inl ((R : Int) - k), .inl (x : Int)] (.int (wayN L R (k + 1) x))
            omega
          · have := (hw.put (k + 1) x).imp (Q := fun k' n => (k' ≤ k ∧ n ≤ L.length) ∨ (k' = k + 1 ∧ n < x + 1)) fun k' n h => by omega
            rw [ek] at this
            exact this
        have cR : ((R - k : Nat) : Int) = (R : Int) - k := by omega
        by_cases h1 : x < L.length
        · have q1 : (x : Int) < (L.length : Int) := by omega
          have xi := ixI_nat L (i := (x : Int)) ⟨by omega, q1⟩
          rw [Int.toNat_natCast] at xi
          by_cases h2 : L.getD x 0 ≤ (R : Int) - k
          · have ex2 : (x : Int) + 1 = ((x + 1 : Nat) : Int) := by omega
            have w2 : ixop (.ref m.length) (.tup [.int ((R : Int) - k + 1), .int ((x : Int) + 1)]) (M kd) = .ok (.int (wayN L R k (x + 1))) (M kd) := ixop_dtr (gM kd) (by rw [er, ex2]; exact hw.at_ k (x + 1) (.inl ⟨Nat.le_refl _, by omega⟩))
            refine ⟨_, _, _, rfl, ?_, fin (((wayN L R k x : Nat) : Int) + ((wayN L R k (x + 1) : Nat) : Int)) ?_⟩
            · simp only [E, List.set, f_ways_from_b2, y_cons, y_set, x_ix, x_var, look_zero, look_succ, Res.bind_ok, x_tup, x_cons, x_nil, x_bin, x_int, b_add, List.length_cons, List.length_nil, l2, if_true, w1, Res.toS_ok, SRes.bind_nx, y_ite, x_bop, x_b2, x_b1, x_cmp, x_blt, l_len, lenop_lst, List.length_map, c_lt, q1, decide_true, blOf_bl, ixop_lst, xi, okO_some, c_ge, h2, w2, y_nil, y_put, pp, okM_some, sM]
            · rw [wayN, if_pos ⟨h1, by rw [cR]; exact h2⟩]; omega
          · refine ⟨_, _, _, rfl, ?_, fin ((wayN L R k x : Nat) : Int) ?_⟩
            · simp only [E, List.set, f_ways_from_b2, y_cons, y_set, x_ix, x_var, look_zero, look_succ, Res.bind_ok, x_tup, x_cons, x_nil, x_bin, x_int, b_add, List.length_cons, List.length_nil, l2, if_true, w1, Res.toS_ok, SRes.bind_nx, y_ite, x_bop, x_b2, x_b1, x_cmp, x_blt, l_len, lenop_lst, List.length_map, c_lt, q1, decide_true, decide_false, blOf_bl, ixop_lst, xi, okO_some, c_ge, h2, Bool.false_eq_true, if_false, y_nil, y_put, pp, okM_some, sM]
            · rw [wayN, if_neg fun z => h2 (by rw [← cR]; exact z.2)]; omega
        · have q1 : ¬ (x : Int) < (L.length : Int) := by omega
          refine ⟨_, _, _, rfl, ?_, fin ((wayN L R k x : Nat) : Int) ?_⟩
          · simp only [E, List.set, f_ways_from_b2, y_cons, y_set, x_ix, x_var, look_zero, look_succ, Res.bind_ok, x_tup, x_cons, x_nil, x_bin, x_int, b_add, List.length_cons, List.length_nil, l2, if_true, w1, Res.toS_ok, SRes.bind_nx, y_ite, x_bop, x_b2, x_b1, x_cmp, x_blt, l_len, lenop_lst, List.length_map, c_lt, q1, decide_false, blOf_bl, Bool.false_eq_true, if_false, y_nil, y_put, pp, okM_some, sM]
          · rw [wayN, if_neg fun z => h1 z.1]; omega) ⟨kd, a, c, rfl, rfl, hl, hw.imp fun k' n h => by omega⟩
    rw [List.length_range] at hl' hw'
    refine ⟨kd', a', c', e, ?_, hw'.imp fun k' n h => by omega⟩
    rw [show (k + 2) * (L.length + 1) = (k + 1) * (L.length + 1) + (L.length + 1) by rw [← Nat.succ_mul]]
    exact hl'
  obtain ⟨kd0, a0, e0, hl0, hw0⟩ := first
  -- all rows
  obtain ⟨ρ2, m2, e2, kd, a, b, c, rfl, rfl, hl, hw⟩ := forL_idx (body := evSs Φ f_ways_from_b3) (t := .nm 4) (fun (i : Nat) => D.int ((R : Int) - i)) (List.range R)
    (fun k ρ m' => ∃ kd a b c, ρ = E a b c ∧ m' = M kd ∧ kd.length ≤ (k + 1) * (L.length + 1) ∧ WD L R kd (fun k' n => k' ≤ k ∧ n ≤ L.length)) (fun k x ρ m' hx ⟨kd, a, b, c, e1, e2, hl, hw⟩ => by
      subst e1 e2
      have hi := (List.getElem?_eq_some_iff.mp hx).1
      rw [List.length_range] at hi
      have ex : x = k := by rw [List.getElem?_range hi] at hx; exact (Option.some.inj hx).symm
      subst ex
      obtain ⟨kd', a', c', e3, hl', hw'⟩ := row x hi kd a (some (.int ((R : Int) - x))) c hl hw rfl
      refine ⟨_, _, _, rfl, ?_, kd', a', some (.int ((R : Int) - x)), c', rfl, rfl, hl', hw'⟩
      show evSs Φ f_ways_from_b3 (E a (some (.int ((R : Int) - x))) c) _ = _
      rw [f_ways_from_b3, y_cons, y_for, i1, Res.toS_ok, e3, SRes.bind_nx, y_nil]) ⟨kd0, a0, none, none, rfl, rfl, by omega, hw0.imp fun k n h => by omega⟩
  rw [List.length_range] at hw
  -- the dict's values name nothing
  refine ⟨kd, ?_, hw⟩
  have i3 : ∀ (a b c : Option D) kd, itsOf .rng3 (evL Φ [.var 0, .int 0, .neg (.int 1)] (E a b c) (M kd)) = .ok ((List.range R).map fun (i : Nat) => D.int ((R : Int) - i)) (M kd) := fun a b c kd => by
    have := its_rng3d (m := M kd) R (by omega)
    simp only [E, x_cons, x_nil, x_var, look_zero, x_int, x_neg, negop_int, Res.bind_ok, this]
  have fz := gM kd
  have fs : (M kd).set m.length .dead = m ++ [.dead] := set_app m _ _
  have cd : closedD m.length (.dt kd) = true := by
    have := closedK2_up (Nat.zero_le m.length) kd hw.cl
    simpa [closedD] using this
  have sh := shut_app hc [.dead] (.dt kd) cd
  rw [R_ways_from]
  have body : evSs Φ f_ways_from.body [some (.int (R : Int)), some (LI L), none, none, none, none] m = .rt (.dt kd) (m ++ [.dead]) := by
    show evSs Φ [_, _, _, _, _] _ _ = _
    rw [y_cons, y_set, x_newt, Res.toS_ok, SRes.bind_nx, y_cons, y_for]
    show (Res.toS (itsOf .rng1 (evL Φ _ (E none none none) (M []))) _).bind _ = _
    rw [i1, Res.toS_ok]
    show (forL (evSs Φ f_ways_from_b1) (.nm 3) _ (E none none none) (M [])).bind _ = _
    rw [e0, SRes.bind_nx, y_cons, y_for, i3, Res.toS_ok, e2, SRes.bind_nx]
    simp only [y_cons, y_frz, E, frzop, List.getElem?_cons_zero, List.getElem?_cons_succ, fz, fs, List.set, SRes.bind_nx, y_ret, x_var, look_zero, look_succ, Res.toS_ok, SRes.bind_rt]
  rw [body, out_rt]
  exact sh
/-! what is counted -/
variable {h s w l : Nat}
theorem good_w0 (g : GoodR h s w l) (hw : ¬ w < s) : limN h s w l = [] := by
  obtain ⟨g1, g2, g3, g4, g5⟩ := good_nat g
  have : s - w = 0 := by omega
  unfold limN
  rw [this]; simp
theorem limN_len (h s w l : Nat) : (limN h s w l).length = h * (s - w) - l := by simp [limN]
theorem N60 (g : GoodR h s w l) (hN : (h : Int) * s ≤ 60) : h * s ≤ 60 ∧ h * (s - w) ≤ h * s := by
  have : ((h * s : Nat) : Int) ≤ 60 := by rw [Int.natCast_mul]; exact hN
  exact ⟨by omega, Nat.mul_le_mul_left _ (by omega)⟩
theorem ways_at {L : List Int} {R : Nat} {kd : List (List L2.Key × D)} (hw : WD L R kd (fun k n => k ≤ R ∧ n ≤ L.length)) {k n : Nat} (hk : k ≤ R) (hn : n ≤ L.length) {r : Int} (hr : r = (R + 1 : Int) - k) : ixop (.dt kd) (.tup [.int r, .int (n : Int)]) m = .ok (.int (wayN L R k n)) m := by
  subst hr
  exact ixop_dt (hw.at_ k n ⟨hk, hn⟩)
theorem count_sets_ok (hc : Cl m) (g : GoodR h s w l) (hN : (h : Int) * s ≤ 60) : Φ 66 [RU h s w l] m = .ok (.int (wayN (limN h s w l) (h * s) (h * s) 0)) m := by
  obtain ⟨n1, n2⟩ := N60 g hN
  have hl := limN_len h s w l
  have gb := g.b
  obtain ⟨kd, e, hw⟩ := ways_ok hc (h * s) (by omega) (limN h s w l) (by omega)
  have w1 := ways_at (m := m) hw (k := h * s) (n := 0) (Nat.le_refl _) (Nat.zero_le _) (r := 1) (by omega)
  have k1 : binop .mul (.int (h : Int)) (.int (s : Int)) m = .ok (.int ((h * s : Nat) : Int)) m := by rw [Int.natCast_mul]; exact b_mul (.inl ⟨by omega, by omega⟩)
  rw [R_count_sets]
  simp only [f_count_sets, y_cons, y_drop, x_call, x_cons, x_nil, x_var, x_int, look_zero, look_succ, Res.bind_ok, need_rule2_ok g hN, Res.toS_ok, SRes.bind_nx, y_ret, x_ix, x_bin, ixop_tup, at0, at1, okO_some, k1, bounds_ok g, e, x_tup, List.length_cons, List.length_nil, lim2, Nat.zero_add, lim1, if_true, Nat.reduceAdd]
  rw [show (0 : Int) = ((0 : Nat) : Int) from rfl, w1]
  simp only [Res.toS_ok, SRes.bind_rt, out_rt, shut_ok]
theorem count_direct_ok (hc : Cl m) (g : GoodR h s w l) (hN : (h : Int) * s ≤ 60) : Φ 65 [RU h s w l] m = .ok (.int (wayN (limN h s w 0) (h * s) (h * s) 0)) m := by
  obtain ⟨n1, n2⟩ := N60 g hN
  have hl := limN_len h s w 0
  have gb := g.b
  obtain ⟨kd, e, hw⟩ := ways_ok hc (h * s) (by omega) (limN h s w 0) (by omega)
  have w1 := ways_at (m := m) hw (k := h * s) (n := 0) (Nat.le_refl _) (Nat.zero_le _) (r := 1) (by omega)
  have k1 : binop .mul (.int (h : Int)) (.int (s : Int)) m = .ok (.int ((h * s : Nat) : Int)) m := by rw [Int.natCast_mul]; exact b_mul (.inl ⟨by omega, by omega⟩)
  rw [R_count_direct]
  simp only [f_count_direct, y_cons, y_drop, x_call, x_cons, x_nil, x_var, x_int, look_zero, look_succ, Res.bind_ok, need_rule2_ok g hN, Res.toS_ok, SRes.bind_nx, y_ret, x_ix, x_bin, ixop_tup, at0, at1, okO_some, k1, all_bounds_ok g, e, x_tup, List.length_cons, List.length_nil, lim2, Nat.zero_add, lim1, if_true, Nat.reduceAdd]
  rw [show (0 : Int) = ((0 : Nat) : Int) from rfl, w1]
  simp only [Res.toS_ok, SRes.bind_rt, out_rt, shut_ok]
/-! the set with a number -/
/-- with k runners left, so many left out, v to go: those who stay -/
def setF (L : List Int) (R : Nat) : Nat → Nat → Nat → List Int
  | 0, _, _ => []
  | k + 1, v, n => if v < wayN L R k n then ((R - k : Nat) : Int) :: setF L R k v n else setF L R k (v - wayN L R k n) (n + 1)
theorem way_in {L : List Int} {R k n v : Nat} (h1 : v < wayN L R (k + 1) n) (h2 : ¬ v < wayN L R k n) : (n < L.length ∧ L.getD n 0 ≤ ((R - k : Nat) : Int)) ∧ v - wayN L R k n < wayN L R k (n + 1) := by
  rw [wayN] at h1
  split at h1
  · rename_i e; exact ⟨e, by omega⟩
  · omega
theorem set_at_ok (hc : Cl m) (g : GoodR h s w l) (hN : (h : Int) * s ≤ 60) {v : Nat} (hv : v < wayN (limN h s w l) (h * s) (h * s) 0) : Φ 72 [RU h s w l, .int (v : Int)] m = .ok (TI (setF (limN h s w l) (h * s) (h * s) v 0)) m := by
  obtain ⟨n1, n2⟩ := N60 g hN
  have hl := limN_len h s w l
  have gb := g.b
  obtain ⟨kd, e, hw⟩ := ways_ok hc (h * s) (by omega) (limN h s w l) (by omega)
  generalize hLg : limN h s w l = L at *
  generalize hRg : h * s = R at *
  have w1 := ways_at (m := m) hw (k := R) (n := 0) (Nat.le_refl _) (Nat.zero_le _) (r := 1) (by omega)
  have k1 : binop .mul (.int (h : Int)) (.int (s : Int)) m = .ok (.int (R : Int)) m := by rw [← hRg, Int.natCast_mul]; exact b_mul (.inl ⟨by omega, by omega⟩)
  have bo := bounds_ok (m := m) g
  rw [hLg] at bo
  have hi : decide ((0 : Int) ≤ (v : Int) ∧ (v : Int) ≤ ((wayN L R R 0 : Nat) : Int) - 1) = true := decide_eq_true ⟨by omega, by omega⟩
  -- the loop
  have loop : ∀ (k : Nat), k ≤ R → ∀ (v n : Nat) (F : List Int) (x : Option D), v < wayN L R k n → F.length ≤ 1000 - k → ∃ v' n' x', forL (evSs Φ f_set_at_b1) (.nm 5) ((rg ((R : Int) + 1 - k) k).map .int) [some (RU h s w l), some (.int (v : Int)), some (.dt kd), some (TI F), some (.int (n : Int)), x] m =
      .nx [some (RU h s w l), some (.int (v' : Nat)), some (.dt kd), some (TI (F ++ setF L R k v n)), some (.int (n' : Nat)), x'] m := by
    intro k
    induction k with
    | zero => intro _ v n F x hv _; exact ⟨v, n, x, by rw [show setF L R 0 v n = [] from rfl, List.append_nil]; rfl⟩
    | succ k ih =>
      intro hk v n F x hv hF
      have hn : n ≤ L.length := by
        refine Classical.byContradiction fun z => ?_
        rw [wayN_big L R (k + 1) n (by omega)] at hv
        exact absurd hv (Nat.not_lt_zero _)
      have er : ((R : Int) + 1 - ((k + 1 : Nat) : Int)) = ((R - k : Nat) : Int) := by omega
      have er2 : ((R - k : Nat) : Int) + 1 = (R : Int) + 1 - k := by omega
      have wk := ways_at (m := m) hw (k := k) (n := n) (by omega) hn (r := ((R - k : Nat) : Int) + 1) er2
      rw [er, rg_cons, er2, List.map_cons]
      have l2 : 1 + 1 ≤ LIM := lim2
      by_cases h1 : v < wayN L R k n
      · obtain ⟨v', n', x', e2⟩ := ih (by omega) v n (F ++ [((R - k : Nat) : Int)]) (some (.int ((R - k : Nat) : Int))) h1 (by simp; omega)
        refine ⟨v', n', x', ?_⟩
        have h1' : ((v : Int) < ((wayN L R k n : Nat) : Int)) := by omega
        have ad : binop .add (TI F) (.tup [.int ((R - k : Nat) : Int)]) m = .ok (TI (F ++ [((R - k : Nat) : Int)])) m := by
          rw [b_addT, if_pos (by unfold LIM; simp; omega), TI, List.map_append]; rfl
        have body : evSs Φ f_set_at_b1 [some (RU h s w l), some (.int (v : Int)), some (.dt kd), some (TI F), some (.int (n : Int)), some (.int ((R - k : Nat) : Int))] m = .nx [some (RU h s w l), some (.int (v : Int)), some (.dt kd), some (TI (F ++ [((R - k : Nat) : Int)])), some (.int (n : Int)), some (.int ((R - k : Nat) : Int))] m := by
          simp only [f_set_at_b1, y_cons, y_ite, x_cmp, x_var, look_zero, look_succ, Res.bind_ok, x_ix, x_tup, x_cons, x_nil, x_bin, x_int, b_add, List.length_cons, List.length_nil, Nat.zero_add, l2, lim1, if_true, wk, c_lt, h1', decide_true, Res.toS_ok, blOf_bl, y_set, ad, List.set, SRes.bind_nx, y_nil]
        unfold forL
        simp only [bindTg_nm, List.set, body, SRes.bind_nx]
        rw [e2, setF, if_pos h1, List.append_assoc]; rfl
      · obtain ⟨h2, h3⟩ := way_in hv h1
        obtain ⟨v', n', x', e2⟩ := ih (by omega) (v - wayN L R k n) (n + 1) F (some (.int ((R - k : Nat) : Int))) h3 (by omega)
        refine ⟨v', n', x', ?_⟩
        have h1' : ¬ ((v : Int) < ((wayN L R k n : Nat) : Int)) := by omega
        have c1 : (v : Int) - ((wayN L R k n : Nat) : Int) = ((v - wayN L R k n : Nat) : Int) := by omega
        have c2 : (n : Int) + 1 = ((n + 1 : Nat) : Int) := by omega
        have body : evSs Φ f_set_at_b1 [some (RU h s w l), some (.int (v : Int)), some (.dt kd), some (TI F), some (.int (n : Int)), some (.int ((R - k : Nat) : Int))] m = .nx [some (RU h s w l), some (.int ((v - wayN L R k n : Nat) : Int)), some (.dt kd), some (TI F), some (.int ((n + 1 : Nat) : Int)), some (.int ((R - k : Nat) : Int))] m := by
          simp only [f_set_at_b1, y_cons, y_ite, x_cmp, x_var, look_zero, look_succ, Res.bind_ok, x_ix, x_tup, x_cons, x_nil, x_bin, x_int, b_add, List.length_cons, List.length_nil, Nat.zero_add, l2, lim1, if_true, wk, c_lt, h1', decide_false, Res.toS_ok, blOf_bl, Bool.false_eq_true, if_false, y_par, b_sub, c1, c2, List.set, SRes.bind_nx, y_nil]
        unfold forL
        simp only [bindTg_nm, List.set, body, SRes.bind_nx]
        rw [e2, setF, if_neg h1]
  obtain ⟨v', n', x', e2⟩ := loop R (Nat.le_refl _) v 0 [] none hv (by simp)
  have ez : ((R : Int) + 1 - (R : Int)) = 1 := by omega
  rw [ez, List.nil_append] at e2
  have it : itsOf .rng2 (.ok [.int 1, .int ((R : Int) + 1)] m) = .ok ((rg 1 R).map .int) m := by
    rw [its_rng2 _ _ (by omega), show ((R : Int) + 1 - 1).toNat = R by omega, rngD_rg]
  rw [R_set_at]
  have body : evSs Φ f_set_at.body [some (RU h s w l), some (.int (v : Int)), none, none, none, none] m = .rt (TI (setF L R R v 0)) m := by
    show evSs Φ [_, _, _, _, _, _] _ _ = _
    simp only [y_cons, y_drop, x_call, x_cons, x_nil, x_var, x_int, look_zero, look_succ, Res.bind_ok, need_rule2_ok g hN, Res.toS_ok, SRes.bind_nx, y_set, x_bin, x_ix, ixop_tup, at0, at1, okO_some, k1, bo, e, List.set, y_ite, x_not, x_tup, List.length_cons, List.length_nil, Nat.zero_add, lim2, lim1, if_true, Nat.reduceAdd]
    rw [show (0 : Int) = ((0 : Nat) : Int) from rfl, w1]
    simp only [y_cons, Res.bind_ok, b_sub, is_integer_int, Int.natCast_zero, hi, blOf_bl, Bool.not_true, Res.toS_ok, Bool.false_eq_true, if_false, y_nil, SRes.bind_nx, y_unp, x_tup, x_cons, x_nil, x_int, List.length_nil, List.length_cons, Nat.zero_add, Nat.reduceAdd, lim2, Nat.zero_le, if_true, bindTg_tp2, List.set, okE_some, y_for, x_bin, x_ix, x_var, look_zero, look_succ, ixop_tup, at0, at1, okO_some, k1, b_add, it]
    have e3 : forL (evSs Φ f_set_at_b1) (.nm 5) ((rg 1 R).map .int) [some (RU h s w l), some (.int (v : Int)), some (.dt kd), some (.tup []), some (.int 0), none] m = .nx [some (RU h s w l), some (.int (v' : Nat)), some (.dt kd), some (TI (setF L R R v 0)), some (.int (n' : Nat)), x'] m := e2
    simp only [e3, SRes.bind_nx, y_cons, y_nil, y_ret, x_var, look_zero, look_succ, Res.toS_ok, SRes.bind_rt]
  rw [body, out_rt, shut_ok]
end
end HD
end

section
set_option Elab.async false
set_option linter.all false
set_option maxRecDepth 100000
set_option maxHeartbeats 1000000
/-! M5: sets of drawn ones keep the bounds; one heat more. -/
namespace HD
theorem meetB_iff {a b : List Int} : meetB a b = true ↔ ∀ (i : Nat) (x y : Int), a[i]? = some x → b[i]? = some y → y ≤ x := by
  unfold meetB
  rw [List.all_eq_true]
  constructor
  · intro h i x y hx hy
    have : (a.zip b)[i]? = some (x, y) := by
      rw [List.getElem?_zip_eq_some]; exact ⟨hx, hy⟩
    have := h (x, y) (List.mem_of_getElem? this)
    simpa using this
  · intro h p hp
    obtain ⟨i, hi⟩ := List.mem_iff_getElem?.mp hp
    rw [List.getElem?_zip_eq_some] at hi
    exact decide_eq_true (h i _ _ hi.1 hi.2)
theorem bnd_mono {s w : Nat} (hw : w < s) {a b : Nat} (h : a ≤ b) : bndN s w a ≤ bndN s w b := by
  unfold bndN
  have : (a + (s - w) - 1) / (s - w) ≤ (b + (s - w) - 1) / (s - w) := Nat.div_le_div_right (by omega)
  have := Nat.mul_le_mul_left w this
  omega
theorem bnd_lt {s w : Nat} (hw : w < s) {a b : Nat} (h : a < b) : bndN s w a < bndN s w b := by
  unfold bndN
  have : (a + (s - w) - 1) / (s - w) ≤ (b + (s - w) - 1) / (s - w) := Nat.div_le_div_right (by omega)
  have := Nat.mul_le_mul_left w this
  omega
theorem ceilN_le {a k f : Nat} (hf : 0 < f) (h : a ≤ k * f) : (a + f - 1) / f ≤ k := by
  have : (a + f - 1) / f < k + 1 := (Nat.div_lt_iff_lt_mul hf).mpr (by rw [Nat.add_mul, Nat.one_mul]; omega)
  omega
theorem bnd_le {s w q k r : Nat} (hw : w < s) (h1 : q ≤ k * (s - w)) (h2 : k * w + q ≤ r) : bndN s w q ≤ r := by
  unfold bndN
  have := Nat.mul_le_mul_left w (ceilN_le (show 0 < s - w by omega) h1)
  rw [Nat.mul_comm w k] at this
  omega
section
variable {h s w l : Nat} {hs : List (List Int)}
theorem limN_get (i : Nat) (hi : i < h * (s - w) - l) : (limN h s w l)[i]? = some ((bndN s w (l + 1 + i) : Nat) : Int) := by
  unfold limN
  rw [List.getElem?_map, List.getElem?_range hi]; rfl
theorem limN_inc (hw : w < s) : Inc (limN h s w l) := by
  unfold limN Inc
  rw [List.pairwise_map]
  exact List.pairwise_lt_range.imp fun {a b} hab => by
    have := bnd_lt hw (show l + 1 + a < l + 1 + b by omega)
    omega
theorem limN_inc' (hw : w ≤ s) : Inc (limN h s w l) := by
  by_cases z : w < s
  · exact limN_inc z
  · have : s - w = 0 := by omega
    unfold limN
    rw [this]; simp [Inc]
/-- the others up to a runner -/
theorem Draw.bnd (d : Draw h s hs) (hw : w < s) {r : Nat} (hr : r ≤ h * s) : bndN s w (cnt ((r : Int) + 1) (othersF w hs)) ≤ r := by
  rw [cnt_others w _ d.inc]
  obtain ⟨k, k1, k2⟩ := sum_split w s (by omega) (hs.map (cnt ((r : Int) + 1))) (d.cle _)
  rw [List.map_map] at k1 k2
  rw [d.cnts] at k2
  have e : (List.map ((fun x => x - w) ∘ cnt ((r : Int) + 1)) hs).sum = (hs.map fun x => cnt ((r : Int) + 1) x - w).sum := rfl
  rw [e] at k1 k2
  exact bnd_le hw k1 (by omega)
theorem cnt_out {n : Nat} {xs : List Int} (hx : xs.Nodup) (hb : ∀ x ∈ xs, 1 ≤ x ∧ x ≤ (n : Int)) (r : Int) : cnt r (outN n xs) + cnt r xs = min (r - 1).toNat n := by
  have h1 : (outN n xs ++ xs).Perm (rg 1 n) := by
    refine (List.perm_ext_iff_of_nodup ?_ (inc_nodup (rg_inc _ _))).mpr fun x => ?_
    · rw [List.nodup_append]
      refine ⟨inc_nodup (outN_inc _ _), hx, fun a ha b hb e => ?_⟩
      subst e
      exact (outN_mem.mp ha).2 hb
    · rw [List.mem_append, outN_mem, rg_mem]
      constructor
      · rintro (h | h)
        · omega
        · have := hb x h; omega
      · intro h
        by_cases hx : x ∈ xs
        · exact .inr hx
        · exact .inl ⟨by omega, hx⟩
  rw [← cnt_append, cnt_perm h1, cnt_rg]
/-- drawn qualifiers keep the bounds -/
theorem Draw.meets (d : Draw h s hs) (hw : w ≤ s) (l : Nat) : meetB (outN (h * s) (onF w l hs)) (limN h s w l) = true := by
  rw [meetB_iff]
  intro i x y hx hy
  have hi := (List.getElem?_eq_some_iff.mp hy).1
  rw [limN_len] at hi
  have hws : w < s := by
    rcases Nat.lt_or_eq_of_le hw with z | z
    · exact z
    · rw [z] at hi; simp at hi
  rw [limN_get i hi] at hy
  cases hy
  have hxm := outN_mem.mp (List.mem_of_getElem? hx)
  have hc := cnt_at (outN_inc _ _) hx
  have hc1 : cnt (x + 1) (outN (h * s) (onF w l hs)) = i + 1 := by rw [cnt_succ (outN_inc _ _) (List.mem_of_getElem? hx), hc]
  have hsum := cnt_out (inc_nodup (d.on_inc w l)) (fun r hr => d.on_bnd w l hr) (x + 1)
  rw [hc1, d.on_cnt] at hsum
  have hb := d.both w (x + 1)
  have ho : x ∈ othersF w hs := by
    rcases (d.mem w).mpr hxm.1 with z | z
    · exact absurd ((d.on_mem w l).mpr (.inl z)) hxm.2
    · exact z
  have hcl : l ≤ cnt x (othersF w hs) := by
    by_cases hc : cnt x (othersF w hs) < l
    · exact absurd ((d.on_mem w l).mpr (.inr ⟨ho, hc⟩)) hxm.2
    · omega
  have hm := cnt_mono (show x ≤ x + 1 by omega) (othersF w hs)
  have eq : cnt (x + 1) (othersF w hs) = l + 1 + i := by omega
  obtain ⟨r, rfl⟩ : ∃ r : Nat, x = r := ⟨x.toNat, by omega⟩
  have := d.bnd hws (r := r) (by omega)
  rw [eq] at this
  omega
theorem Draw.fit (d : Draw h s hs) (hw : w ≤ s) (hl : l ≤ h * (s - w)) : fitB h s w l (onF w l hs) = true := by
  unfold fitB
  rw [d.meets hw l, d.on_len hw hl]; simp
theorem on_zero (hs : List (List Int)) (w : Nat) : ∀ x, x ∈ onF w 0 hs ↔ x ∈ sortI (someF w hs) := fun x => by
  unfold onF luckyF
  rw [(sortI_perm _).mem_iff]; simp
theorem Draw.fitD (d : Draw h s hs) (hw : w ≤ s) : dirB h s w (sortI (someF w hs)) = true := by
  unfold dirB
  have := d.meets hw 0
  rw [outN_congr (on_zero hs w)] at this
  rw [this, (sortI_perm _).length_eq, len_some (fun x hx => (d.each x hx).1) hw, d.len]; simp
theorem fit_congr {xs ys : List Int} (hx : Inc xs) (hy : Inc ys) (h : ∀ x, x ∈ xs ↔ x ∈ ys) : xs = ys := by
  refine perm_pw_eq ((List.perm_ext_iff_of_nodup (inc_nodup hx) (inc_nodup hy)).mpr h) (hx.imp fun h => by omega) (hy.imp fun h => by omega)
/-! one heat more -/
def moreH (h s : Nat) (hs : List (List Int)) : List (List Int) := hs ++ [rg (1 + (h * s : Nat)) s]
theorem Draw.more (d : Draw h s hs) : Draw (h + 1) s (moreH h s hs) where
  len := by unfold moreH; rw [List.length_append, d.len]; rfl
  each x hx := by
    unfold moreH at hx
    rcases List.mem_append.mp hx with z | z
    · exact d.each x z
    · rw [List.mem_singleton.mp z]; exact ⟨rg_length _ _, rg_inc _ _⟩
  perm := by
    unfold moreH
    rw [List.flatten_append, Nat.add_mul, Nat.one_mul]
    have e : rg 1 (h * s + s) = rg 1 (h * s) ++ rg (1 + (h * s : Nat)) s := by
      rw [← List.take_append_drop (h * s) (rg 1 (h * s + s)), rg_take _ _ _ (by omega), rg_drop]
      congr 2
      omega
    rw [e]
    refine List.Perm.append d.perm ?_
    simp
theorem some_more (w : Nat) (hw : w ≤ s) : someF w (moreH h s hs) = someF w hs ++ rg (1 + (h * s : Nat)) w := by
  unfold someF moreH
  rw [List.flatMap_append]
  congr 1
  simp [rg_take _ _ _ hw]
theorem others_more (w : Nat) : othersF w (moreH h s hs) = othersF w hs ++ rg (1 + (h * s : Nat) + w) (s - w) := by
  unfold othersF moreH
  rw [List.flatMap_append]
  congr 1
  simp [rg_drop]
theorem app_rg_inc {xs : List Int} {n k : Nat} (hx : Inc xs) (hb : ∀ x ∈ xs, x ≤ (n : Int)) : Inc (xs ++ rg (1 + (n : Int)) k) := by
  unfold Inc
  rw [List.pairwise_append]
  refine ⟨hx, rg_inc _ _, fun a ha b hb2 => ?_⟩
  have := hb a ha
  have := (rg_mem.mp hb2).1
  omega
theorem Draw.on_more (d : Draw h s hs) (hw : w ≤ s) (hl : l ≤ h * (s - w)) : onF w l (moreH h s hs) = onF w l hs ++ rg (1 + (h * s : Nat)) w := by
  refine fit_congr (d.more.on_inc w l) (app_rg_inc (d.on_inc w l) fun x hx => (d.on_bnd w l hx).2) fun x => ?_
  rw [d.more.on_mem, List.mem_append, d.on_mem, some_more w hw, others_more, cnt_append, List.mem_append, List.mem_append]
  have lo : (othersF w hs).length = h * (s - w) := by rw [len_others (fun x hx => (d.each x hx).1), d.len]
  constructor
  · rintro ((z | z) | ⟨z | z, c⟩)
    · exact .inl (.inl z)
    · exact .inr z
    · exact .inl (.inr ⟨z, by omega⟩)
    · have hx := (rg_mem.mp z).1
      have : cnt x (othersF w hs) = (othersF w hs).length := by
        unfold cnt
        rw [List.countP_eq_length]
        intro y hy
        have := (d.mem w).mp (.inr hy)
        simp; omega
      omega
  · rintro ((z | ⟨z, c⟩) | z)
    · exact .inl (.inl z)
    · have hx := ((d.mem w).mp (.inr z)).2
      have : cnt x (rg (1 + (h * s : Nat) + w) (s - w)) = 0 := cnt_zero fun y hy => by have := (rg_mem.mp hy).1; omega
      exact .inr ⟨.inl z, by omega⟩
    · exact .inl (.inr z)
theorem Draw.some_moreS (d : Draw h s hs) (hw : w ≤ s) : sortI (someF w (moreH h s hs)) = sortI (someF w hs) ++ rg (1 + (h * s : Nat)) w := by
  refine fit_congr (sort_inc (d.more.nds w).1) (app_rg_inc (sort_inc (d.nds w).1) fun x hx => ((d.mem w).mp (.inl ((sortI_perm _).mem_iff.mp hx))).2) fun x => ?_
  rw [(sortI_perm _).mem_iff, some_more w hw, List.mem_append, List.mem_append, (sortI_perm _).mem_iff]
/-! more sets -/
theorem way_step {L : List Int} {R k n : Nat} : wayN L R k n ≤ wayN L R (k + 1) n := by
  rw [wayN.eq_2]; omega
theorem way_up {L : List Int} {R n : Nat} : ∀ {k j : Nat}, k ≤ j → wayN L R k n ≤ wayN L R j n := fun {k j} h => by
  obtain ⟨e, rfl⟩ := Nat.exists_eq_add_of_le h
  clear h
  induction e with
  | zero => exact Nat.le_refl _
  | succ e ih => exact Nat.le_trans ih way_step
theorem getD_app {L E : List Int} {n : Nat} (h : n < L.length) : (L ++ E).getD n 0 = L.getD n 0 := by
  rw [List.getD, List.getD, List.getElem?_append_left h]
/-- limits of more runners -/
theorem way_more {L E : List Int} {R s : Nat} (h0 : 1 ≤ wayN (L ++ E) (R + s) s L.length) : ∀ k n, k ≤ R → n ≤ L.length → wayN L R k n ≤ wayN (L ++ E) (R + s) (k + s) n
  | 0, n, _, hn => by
    rw [wayN, Nat.zero_add]
    split
    · rename_i e; rw [e]; exact h0
    · exact Nat.zero_le _
  | k + 1, n, hk, hn => by
    have i1 := way_more h0 k n (by omega) hn
    rw [show k + 1 + s = (k + s) + 1 by omega, wayN, wayN]
    have er : R + s - (k + s) = R - k := by omega
    rw [er]
    by_cases e : n < L.length ∧ L.getD n 0 ≤ ((R - k : Nat) : Int)
    · have i2 := way_more h0 k (n + 1) (by omega) (by omega)
      rw [if_pos e, if_pos ⟨by rw [List.length_append]; omega, by rw [getD_app e.1]; exact e.2⟩]
      omega
    · rw [if_neg e]
      split <;> omega
theorem lim_more (hl : l ≤ h * (s - w)) : limN (h + 1) s w l = limN h s w l ++ (List.range (s - w)).map fun j => ((bndN s w (h * (s - w) + 1 + j) : Nat) : Int) := by
  unfold limN
  rw [Nat.add_mul, Nat.one_mul, show h * (s - w) + (s - w) - l = (h * (s - w) - l) + (s - w) by omega, List.range_add, List.map_append, List.map_map]
  congr 1
  refine List.map_congr_left fun j _ => ?_
  show ((bndN s w (l + 1 + (h * (s - w) - l + j)) : Nat) : Int) = _
  rw [show l + 1 + (h * (s - w) - l + j) = h * (s - w) + 1 + j by omega]
theorem last_ways (hw : w < s) {L : List Int} : ∀ t, t ≤ s - w → 1 ≤ wayN (L ++ (List.range (s - w)).map fun j => ((bndN s w (h * (s - w) + 1 + j) : Nat) : Int)) (h * s + s) t (L.length + (s - w) - t)
  | 0, _ => by
    rw [wayN, if_pos (by simp)]; exact Nat.le_refl _
  | t + 1, ht => by
    have ih := last_ways hw (L := L) t (by omega)
    rw [wayN]
    have e1 : L.length + (s - w) - (t + 1) < (L ++ (List.range (s - w)).map fun j => ((bndN s w (h * (s - w) + 1 + j) : Nat) : Int)).length := by simp; omega
    have e2 : (L ++ (List.range (s - w)).map fun j => ((bndN s w (h * (s - w) + 1 + j) : Nat) : Int)).getD (L.length + (s - w) - (t + 1)) 0 ≤ ((h * s + s - t : Nat) : Int) := by
      rw [List.getD, List.getElem?_append_right (by omega), List.getElem?_map, List.getElem?_range (by omega)]
      show ((bndN s w _ : Nat) : Int) ≤ _
      have hh : h * s = h * (s - w) + h * w := by rw [← Nat.mul_add]; congr 1; omega
      have : bndN s w (h * (s - w) + 1 + (L.length + (s - w) - (t + 1) - L.length)) ≤ h * s + s - t := by
        refine bnd_le hw (k := h + 1) ?_ ?_
        · rw [Nat.add_mul, Nat.one_mul]; omega
        · rw [Nat.add_mul, Nat.one_mul]; omega
      omega
    rw [if_pos ⟨e1, e2⟩]
    have e3 : L.length + (s - w) - (t + 1) + 1 = L.length + (s - w) - t := by omega
    rw [e3]
    omega
theorem ways_more (hw : w ≤ s) (hl : l ≤ h * (s - w)) : wayN (limN h s w l) (h * s) (h * s) 0 ≤ wayN (limN (h + 1) s w l) ((h + 1) * s) ((h + 1) * s) 0 := by
  have e : (h + 1) * s = h * s + s := by rw [Nat.add_mul, Nat.one_mul]
  rw [lim_more hl, e]
  refine way_more ?_ (h * s) 0 (Nat.le_refl _) (Nat.zero_le _)
  rcases Nat.lt_or_eq_of_le hw with z | z
  · have := last_ways (h := h) z (L := limN h s w l) (s - w) (Nat.le_refl _)
    rw [show (limN h s w l).length + (s - w) - (s - w) = (limN h s w l).length by omega] at this
    exact Nat.le_trans this (way_up (by omega))
  · subst z
    have h0 : w - w = 0 := by omega
    have : 1 ≤ wayN (limN h w w l ++ (List.range (w - w)).map fun j => ((bndN w w (h * (w - w) + 1 + j) : Nat) : Int)) (h * w + w) 0 (limN h w w l).length := by
      rw [wayN, if_pos (by simp)]; exact Nat.le_refl _
    exact Nat.le_trans this (way_up (Nat.zero_le _))
end
end HD
end

section
set_option Elab.async false
set_option linter.all false
set_option maxRecDepth 100000
set_option maxHeartbeats 2000000
/-! B22: rules out of a bag; law k21. -/
namespace HD
open L2 (atI ixN)
theorem ite_no {P : Phi} {c : C} {ρ : Env} {M M' : Mem} {a b : List S} (h : ev P c ρ M = .ok (.bl false) M') : evS P (.ite c a b) ρ M = evSs P b ρ M' := by
  rw [y_ite, h]; rfl
theorem ite_yes {P : Phi} {c : C} {ρ : Env} {M M' : Mem} {a b : List S} (h : ev P c ρ M = .ok (.bl true) M') : evS P (.ite c a b) ρ M = evSs P a ρ M' := by
  rw [y_ite, h]; rfl
theorem set_ok {P : Phi} {c : C} {ρ : Env} {M M' : Mem} {i : Nat} {d : D} (h : ev P c ρ M = .ok d M') : evS P (.set i c) ρ M = .nx (ρ.set i (some d)) M' := by
  rw [y_set, h]; rfl
theorem no_step {P : Phi} {c : C} {ρ : Env} {M M' : Mem} {a ss : List S} (h : ev P c ρ M = .ok (.bl false) M') : evSs P (.ite c a [] :: ss) ρ M = evSs P ss ρ M' := by
  rw [y_cons, ite_no h, y_nil, SRes.bind_nx]
theorem set_step {P : Phi} {c : C} {ρ : Env} {M M' : Mem} {i : Nat} {d : D} {ss : List S} (h : ev P c ρ M = .ok d M') : evSs P (.set i c :: ss) ρ M = evSs P ss (ρ.set i (some d)) M' := by
  rw [y_cons, set_ok h, SRes.bind_nx]
theorem and_no1 {P : Phi} {c d : C} {ρ : Env} {M M' : Mem} (h : ev P c ρ M = .ok (.bl false) M') : ev P (.bop true [c, d]) ρ M = .ok (.bl false) M' := by
  rw [x_bop, x_b2, h]; rfl
theorem and_2 {P : Phi} {c d : C} {ρ : Env} {M M' : Mem} (h : ev P c ρ M = .ok (.bl true) M') : ev P (.bop true [c, d]) ρ M = ev P d ρ M' := by
  rw [x_bop, x_b2, h, Res.bind_ok, blOf_bl, Res.bind_ok, if_pos rfl, x_b1]
theorem or_yes1 {P : Phi} {c d : C} {ρ : Env} {M M' : Mem} (h : ev P c ρ M = .ok (.bl true) M') : ev P (.bop false [c, d]) ρ M = .ok (.bl true) M' := by
  rw [x_bop, x_b2, h]; rfl
theorem or_2 {P : Phi} {c d : C} {ρ : Env} {M M' : Mem} (h : ev P c ρ M = .ok (.bl false) M') : ev P (.bop false [c, d]) ρ M = ev P d ρ M' := by
  rw [x_bop, x_b2, h, Res.bind_ok, blOf_bl, Res.bind_ok, if_pos rfl, x_b1]
section
variable {m : Mem} {b : Nat} {o : Mob}
/-- the rule of at most so many runners -/
theorem rule_ok (h : BagAt m b) {most : Int} (hm : 1 ≤ most ∧ most ≤ 10000) : ∃ (a s w l : Nat) (o' : Mob), Φ 14 [.ref b, .int most] m = .ok (RU a s w l) (m.set b o') ∧ IsBag o' ∧ (1 ≤ a ∧ 1 ≤ s ∧ 1 ≤ w ∧ w ≤ s ∧ l ≤ a * (s - w)) ∧ (a : Int) * s ≤ most := by
  obtain ⟨v1, o1, e1, ho1, b1⟩ := take_ok h (n := 3) (by omega)
  obtain ⟨z, ez, hz⟩ := ix3 most (max 1 (most / 2)) (min most 4) b1
  obtain ⟨v2, o2, e2, ho2, b2⟩ := take_set h ho1 (n := z) (by omega)
  have hd : 0 ≤ most / (1 + v2) := Int.ediv_nonneg (by omega) (by omega)
  obtain ⟨v3, o3, e3, ho3, b3⟩ := take_set h ho2 (n := max 1 (most / (1 + v2))) (by omega)
  obtain ⟨v4, o4, e4, ho4, b4⟩ := take_set h ho3 (n := 3) (by omega)
  obtain ⟨u, eu, hu⟩ := ix3 (1 + v3) (max 1 ((1 + v3) / 2)) 1 b4
  obtain ⟨v5, o5, e5, ho5, b5⟩ := take_set h ho4 (n := u) (by omega)
  obtain ⟨v6, o6, e6, ho6, b6⟩ := take_set h ho5 (n := 3) (by omega)
  have hp : 0 ≤ (1 + v2) * ((1 + v3) - (1 + v5)) := Int.mul_nonneg (by omega) (by omega)
  obtain ⟨y, ey, hy⟩ := ix3 ((1 + v2) * ((1 + v3) - (1 + v5)) + 1) (min ((1 + v2) * ((1 + v3) - (1 + v5))) 4 + 1) 1 b6
  obtain ⟨v7, o7, e7, ho7, b7⟩ := take_set h ho6 (n := y) (by omega)
  have hdm : most / (1 + v2) ≤ most := Int.ediv_le_self _ (by omega)
  have hs : (1 + v2) * (1 + v3) ≤ most := by
    by_cases hc : 1 + v3 ≤ most / (1 + v2)
    · have := Int.mul_le_mul_of_nonneg_left hc (show 0 ≤ 1 + v2 by omega)
      have := Int.mul_ediv_self_le (x := most) (k := 1 + v2) (by omega)
      omega
    · have h3 : v3 = 0 := by omega
      subst h3
      omega
  refine ⟨(1 + v2).toNat, (1 + v3).toNat, (1 + v5).toNat, v7.toNat, o7, ?_, ho7, ⟨by omega, by omega, by omega, by omega, ?_⟩, ?_⟩
  · rw [R_law_rule]
    have t1 : (((1 + v2).toNat : Nat) : Int) = 1 + v2 := by omega
    have t2 : (((1 + v3).toNat : Nat) : Int) = 1 + v3 := by omega
    have t3 : (((1 + v5).toNat : Nat) : Int) = 1 + v5 := by omega
    have t4 : ((v7.toNat : Nat) : Int) = v7 := by omega
    rw [t1, t2, t3, t4]
    simp (disch := omega) [f_law_rule, e1, ez, e2, e3, e4, eu, e5, e6, ey, e7]
  · have : (((1 + v2).toNat * ((1 + v3).toNat - (1 + v5).toNat) : Nat) : Int) = (1 + v2) * ((1 + v3) - (1 + v5)) := by
      rw [Int.natCast_mul]; congr 1 <;> omega
    omega
  · have t1 : (((1 + v2).toNat : Nat) : Int) = 1 + v2 := by omega
    have t2 : (((1 + v3).toNat : Nat) : Int) = 1 + v3 := by omega
    rw [t1, t2]; exact hs
theorem rule_good {a s w l : Nat} (h : 1 ≤ a ∧ 1 ≤ s ∧ 1 ≤ w ∧ w ≤ s ∧ l ≤ a * (s - w)) (ha : a ≤ 100) (hs : s ≤ 100) : GoodR a s w l := by
  refine ⟨by omega, by omega, by omega, by omega, ?_⟩
  have : (a : Int) * ((s : Int) - w) = ((a * (s - w) : Nat) : Int) := by
    rw [Int.natCast_mul]; congr 1; omega
  omega
theorem small_parts {a s n : Nat} (h1 : 1 ≤ a) (h2 : 1 ≤ s) (h : (a : Int) * s ≤ (n : Int)) : a ≤ n ∧ s ≤ n := by
  have e : a * s ≤ n := by
    have : ((a * s : Nat) : Int) ≤ n := by rw [Int.natCast_mul]; exact h
    omega
  have := Nat.mul_le_mul_left a h2
  have := Nat.mul_le_mul_right s h1
  omega
theorem rule_set (h : BagAt m b) (ho : IsBag o) {most : Int} (hm : 1 ≤ most ∧ most ≤ 10000) : ∃ (a s w l : Nat) (o' : Mob), Φ 14 [.ref b, .int most] (m.set b o) = .ok (RU a s w l) (m.set b o') ∧ IsBag o' ∧ (1 ≤ a ∧ 1 ≤ s ∧ 1 ≤ w ∧ w ≤ s ∧ l ≤ a * (s - w)) ∧ (a : Int) * s ≤ most := by
  obtain ⟨a, s, w, l, o', e, h1⟩ := rule_ok (h.set ho) hm
  rw [List.set_set] at e
  exact ⟨a, s, w, l, o', e, h1⟩
theorem a_draw_set {h s w l : Int} (hb : BagAt m b) (ho : IsBag o) (hc : Cl m) (g : GoodR h s w l) (hN : h * s ≤ 10000) :
    ∃ (row : List Int) (o' : Mob), Φ 17 [.ref b, RU h s w l] (m.set b o) = .ok (TT (dealF h.toNat s.toNat row)) (m.set b o') ∧ IsBag o' ∧ row.Perm (rg 1 (h * s).toNat) := by
  obtain ⟨row, o', e, h1⟩ := a_draw_ok (hb.set ho) (hc.set (closed_bag _ ho)) g hN
  rw [List.set_set] at e
  exact ⟨row, o', e, h1⟩
/-- a random draw and who goes on -/
theorem drawn_set {h s w l : Nat} (hb : BagAt m b) (ho : IsBag o) (hc : Cl m) (g : GoodR h s w l) (hN : (h : Int) * s ≤ 10000) :
    ∃ (hs : List (List Int)) (o' : Mob), Φ 17 [.ref b, RU h s w l] (m.set b o) = .ok (TT hs) (m.set b o') ∧ IsBag o' ∧ Draw h s hs := by
  obtain ⟨row, o', e, h1, h2⟩ := a_draw_set hb ho hc g hN
  have hNt : ((h : Int) * s).toNat = h * s := by rw [← Int.natCast_mul]; rfl
  rw [hNt] at h2
  exact ⟨_, o', e, h1, deal_draw h2⟩
theorem through_nat {h s w l : Nat} {hs : List (List Int)} (d : Draw h s hs) (hN : h * s ≤ 10000) : Φ 37 [RU h s w l, TT hs] m = .ok (.tup [LI (sortI (someF w hs)), LI (luckyF w l hs)]) m := by
  have := through_ok (m := m) (h := h) (s := s) (w := w) (l := l) (by omega) (by omega) hs (by rw [d.len_flat]; omega)
  rw [Int.toNat_natCast, Int.toNat_natCast] at this
  exact this
end
end HD
end

section
set_option Elab.async false
set_option linter.all false
set_option maxRecDepth 100000
set_option maxHeartbeats 1000000
/-! B24: equality of nested values. -/
namespace HD
open PySem (PyData)
/-- ints, None, and tuples and lists of such, so deep at most -/
def treeD : Nat → D → Bool
  | _, .int _ => true
  | _, .non => true
  | n + 1, .tup l => l.all (treeD n)
  | n + 1, .lst l => l.all (treeD n)
  | _, _ => false
theorem tree_toL (n : Nat) (ih : ∀ d, treeD n d = true → ∃ p, toPy d = some p ∧ p.canLay0 = true ∧ p.depth ≤ n) : ∀ l : List D, l.all (treeD n) = true → ∃ ps, toPyL l = some ps ∧ PyData.canLayAll0 ps = true ∧ PyData.depthAll ps ≤ n
  | [], _ => ⟨[], rfl, rfl, Nat.zero_le _⟩
  | d :: l, h => by
    rw [List.all_cons, Bool.and_eq_true] at h
    obtain ⟨p, e1, c1, d1⟩ := ih d h.1
    obtain ⟨ps, e2, c2, d2⟩ := tree_toL n ih l h.2
    refine ⟨p :: ps, by simp [toPyL, e1, e2], by simp [PyData.canLayAll0, c1, c2], ?_⟩
    rw [PyData.depthAll]
    omega
theorem tree_to : ∀ (n : Nat) (d : D), treeD n d = true → ∃ p, toPy d = some p ∧ p.canLay0 = true ∧ p.depth ≤ n
  | _, .int i, _ => ⟨.int i, by simp [toPy], by simp [PyData.canLay0], by simp [PyData.depth]⟩
  | _, .non, _ => ⟨.none, by simp [toPy], by simp [PyData.canLay0], by simp [PyData.depth]⟩
  | n + 1, .tup l, h => by
    obtain ⟨ps, e, c, d⟩ := tree_toL n (tree_to n) l (by simpa [treeD] using h)
    exact ⟨.tuple ps, by simp [toPy, e], by simpa [PyData.canLay0] using c, by simp [PyData.depth]; omega⟩
  | n + 1, .lst l, h => by
    obtain ⟨ps, e, c, d⟩ := tree_toL n (tree_to n) l (by simpa [treeD] using h)
    exact ⟨.list ps, by simp [toPy, e], by simpa [PyData.canLay0] using c, by simp [PyData.depth]; omega⟩
  | 0, .tup l, h => by simp [treeD] at h
  | 0, .lst l, h => by simp [treeD] at h
  | n, .bl b, h => by cases n <;> simp [treeD] at h
  | n, .str b, h => by cases n <;> simp [treeD] at h
  | n, .dk b, h => by cases n <;> simp [treeD] at h
  | n, .dt b, h => by cases n <;> simp [treeD] at h
  | n, .ref b, h => by cases n <;> simp [treeD] at h
  | n, .scr b, h => by cases n <;> simp [treeD] at h
theorem tree_eqvL (n : Nat) (ih : ∀ d e p q, treeD n d = true → treeD n e = true → toPy d = some p → toPy e = some q → (PyData.eqv p q = true ↔ d = e)) : ∀ (l r : List D) (ps qs : List PyData), l.all (treeD n) = true → r.all (treeD n) = true → toPyL l = some ps → toPyL r = some qs → (PyData.eqvAll ps qs = true ↔ l = r)
  | [], [], ps, qs, _, _, e1, e2 => by simp [toPyL] at e1 e2; subst e1 e2; simp [PyData.eqvAll]
  | [], e :: r, ps, qs, _, _, e1, e2 => by
    simp only [toPyL] at e1 e2
    split at e2
    · cases e1; cases e2; simp [PyData.eqvAll]
    · cases e2
  | d :: l, [], ps, qs, _, _, e1, e2 => by
    simp only [toPyL] at e1 e2
    split at e1
    · cases e1; cases e2; simp [PyData.eqvAll]
    · cases e1
  | d :: l, e :: r, ps, qs, h1, h2, e1, e2 => by
    rw [List.all_cons, Bool.and_eq_true] at h1 h2
    simp only [toPyL] at e1 e2
    split at e1
    · rename_i x y hx hy
      split at e2
      · rename_i x' y' hx' hy'
        cases e1; cases e2
        have i1 := ih d e x x' h1.1 h2.1 hx hx'
        have i2 := tree_eqvL n ih l r y y' h1.2 h2.2 hy hy'
        rw [PyData.eqvAll, Bool.and_eq_true, i1, i2]
        simp
      · cases e2
    · cases e1
theorem tree_eqv : ∀ (n : Nat) (d e : D) (p q : PyData), treeD n d = true → treeD n e = true → toPy d = some p → toPy e = some q → (PyData.eqv p q = true ↔ d = e) := by
  intro n
  induction n with
  | zero =>
    intro d e p q h1 h2 e1 e2
    cases d <;> simp [treeD] at h1 <;> cases e <;> simp [treeD] at h2 <;> simp [toPy] at e1 e2 <;> subst e1 e2 <;> simp [PyData.eqv]
  | succ n ih =>
    intro d e p q h1 h2 e1 e2
    have toT : ∀ {l : List D} {p : PyData}, toPy (.tup l) = some p → ∃ r, toPyL l = some r ∧ p = .tuple r := fun {l p} e => by
      simp only [toPy] at e
      split at e
      · rename_i r hr; cases e; exact ⟨r, hr, rfl⟩
      · cases e
    have toL : ∀ {l : List D} {p : PyData}, toPy (.lst l) = some p → ∃ r, toPyL l = some r ∧ p = .list r := fun {l p} e => by
      simp only [toPy] at e
      split at e
      · rename_i r hr; cases e; exact ⟨r, hr, rfl⟩
      · cases e
    cases d with
    | non =>
      cases (by simpa [toPy] using e1 : PyData.none = p)
      cases e with
      | non => cases (by simpa [toPy] using e2 : PyData.none = q); simp [PyData.eqv]
      | int i => cases (by simpa [toPy] using e2 : PyData.int i = q); simp [PyData.eqv]
      | tup l => obtain ⟨r, _, rfl⟩ := toT e2; simp [PyData.eqv]
      | lst l => obtain ⟨r, _, rfl⟩ := toL e2; simp [PyData.eqv]
      | _ => simp [treeD] at h2
    | int i =>
      cases (by simpa [toPy] using e1 : PyData.int i = p)
      cases e with
      | non => cases (by simpa [toPy] using e2 : PyData.none = q); simp [PyData.eqv]
      | int i => cases (by simpa [toPy] using e2 : PyData.int i = q); simp [PyData.eqv]
      | tup l => obtain ⟨r, _, rfl⟩ := toT e2; simp [PyData.eqv]
      | lst l => obtain ⟨r, _, rfl⟩ := toL e2; simp [PyData.eqv]
      | _ => simp [treeD] at h2
    | tup l =>
      obtain ⟨r, hr, rfl⟩ := toT e1
      cases e with
      | non => cases (by simpa [toPy] using e2 : PyData.none = q); simp [PyData.eqv]
      | int i => cases (by simpa [toPy] using e2 : PyData.int i = q); simp [PyData.eqv]
      | tup l' =>
        obtain ⟨r', hr', rfl⟩ := toT e2
        have := tree_eqvL n (fun d e p q => ih d e p q) l l' r r' (by simpa [treeD] using h1) (by simpa [treeD] using h2) hr hr'
        rw [PyData.eqv, this]; simp
      | lst l => obtain ⟨r, _, rfl⟩ := toL e2; simp [PyData.eqv]
      | _ => simp [treeD] at h2
    | lst l =>
      obtain ⟨r, hr, rfl⟩ := toL e1
      cases e with
      | non => cases (by simpa [toPy] using e2 : PyData.none = q); simp [PyData.eqv]
      | int i => cases (by simpa [toPy] using e2 : PyData.int i = q); simp [PyData.eqv]
      | tup l => obtain ⟨r, _, rfl⟩ := toT e2; simp [PyData.eqv]
      | lst l' =>
        obtain ⟨r', hr', rfl⟩ := toL e2
        have := tree_eqvL n (fun d e p q => ih d e p q) l l' r r' (by simpa [treeD] using h1) (by simpa [treeD] using h2) hr hr'
        rw [PyData.eqv, this]; simp
      | _ => simp [treeD] at h2
    | _ => simp [treeD] at h1
theorem view_tree {n : Nat} {d : D} (h : treeD n d = true) (m : Mem) : viewPy m d = toPy d := by
  cases d <;> first | rfl | (cases n <;> simp [treeD] at h)
theorem eqv_tree {n : Nat} (hn : n ≤ 64) {d e : D} (h1 : treeD n d = true) (h2 : treeD n e = true) (m : Mem) : ∃ b, eqv d e m = some b ∧ (b = true ↔ d = e) := by
  obtain ⟨p, e1, c1, d1⟩ := tree_to n d h1
  obtain ⟨q, e2, c2, d2⟩ := tree_to n e h2
  refine ⟨PyData.eqv p q, ?_, tree_eqv n d e p q h1 h2 e1 e2⟩
  unfold eqv
  rw [view_tree h1, view_tree h2, e1, e2]
  have s1 : PySem.SeqAt.shaped p = true := by
    unfold PySem.SeqAt.shaped; rw [c1, Bool.true_and, decide_eq_true_eq]; omega
  have s2 : PySem.SeqAt.shaped q = true := by
    unfold PySem.SeqAt.shaped; rw [c2, Bool.true_and, decide_eq_true_eq]; omega
  simp only [s1, s2, and_self, if_true]
theorem eqv_yes {n : Nat} (hn : n ≤ 64) {d : D} (h1 : treeD n d = true) (m : Mem) : eqv d d m = some true := by
  obtain ⟨b, e, hb⟩ := eqv_tree hn h1 h1 m
  rw [e, hb.mpr rfl]
theorem eqv_no {n : Nat} (hn : n ≤ 64) {d e : D} (h1 : treeD n d = true) (h2 : treeD n e = true) (hd : d ≠ e) (m : Mem) : eqv d e m = some false := by
  obtain ⟨b, e', hb⟩ := eqv_tree hn h1 h2 m
  rw [e']
  cases b with
  | true => exact absurd (hb.mp rfl) hd
  | false => rfl
theorem tree_up : ∀ (n : Nat) (d : D), treeD n d = true → treeD (n + 1) d = true := by
  intro n
  induction n with
  | zero => intro d h; cases d <;> simp [treeD] at h ⊢
  | succ n ih =>
    intro d h
    cases d with
    | tup l =>
      rw [treeD, List.all_eq_true] at h ⊢
      exact fun x hx => ih x (h x hx)
    | lst l =>
      rw [treeD, List.all_eq_true] at h ⊢
      exact fun x hx => ih x (h x hx)
    | _ => simp [treeD] at h ⊢
theorem tree_ints (n : Nat) (l : List Int) : (l.map D.int).all (treeD n) = true := by
  rw [List.all_eq_true]
  intro x hx
  obtain ⟨i, _, rfl⟩ := List.mem_map.mp hx
  cases n <;> rfl
theorem tree_TI (n : Nat) (l : List Int) : treeD (n + 1) (TI l) = true := tree_ints n l
theorem tree_LI (n : Nat) (l : List Int) : treeD (n + 1) (LI l) = true := tree_ints n l
/-- x in a list, where equality is deep -/
theorem memb_tree {n : Nat} (hn : n + 1 ≤ 64) {x : D} {l : List D} (h1 : treeD n x = true) (h2 : l.all (treeD n) = true) (hx : flatD x = false) (m : Mem) : ∃ b, memb x (.lst l) m = some b ∧ (b = true ↔ x ∈ l) := by
  obtain ⟨p, e1, c1, d1⟩ := tree_to n x h1
  obtain ⟨qs, e2, c2, d2⟩ := tree_toL n (tree_to n) l h2
  refine ⟨qs.any fun z => PyData.eqv z p, ?_, ?_⟩
  · unfold memb
    have dl : dlook m (.lst l) x = none := rfl
    have s1 : PySem.SeqAt.shaped p = true := by
      unfold PySem.SeqAt.shaped; rw [c1, Bool.true_and, decide_eq_true_eq]; omega
    have s2 : PySem.SeqAt.shaped (.list qs) = true := by
      unfold PySem.SeqAt.shaped
      rw [PyData.canLay0, c2, Bool.true_and, decide_eq_true_eq, PyData.depth]; omega
    rw [dl]
    simp only [seqD, hx, Bool.false_eq_true, false_and, if_false, view_tree h1, e1, e2, s1, s2, and_self, if_true]
  · have key : ∀ (l : List D) (qs : List PyData), l.all (treeD n) = true → toPyL l = some qs → ((qs.any fun z => PyData.eqv z p) = true ↔ x ∈ l) := by
      intro l
      induction l with
      | nil => intro qs _ e; simp [toPyL] at e; subst e; simp
      | cons d l ih =>
        intro qs h e
        rw [List.all_cons, Bool.and_eq_true] at h
        simp only [toPyL] at e
        split at e
        · rename_i u v hu hv
          cases e
          rw [List.any_cons, Bool.or_eq_true, ih v h.2 hv, tree_eqv n d x u p h.1 h1 hu e1, List.mem_cons]
          exact ⟨fun z => z.imp Eq.symm id, fun z => z.imp Eq.symm id⟩
        · cases e
    exact key l qs h2 e2
end HD
end

section
set_option Elab.async false
set_option linter.all false
set_option maxRecDepth 100000
set_option maxHeartbeats 1000000
/-! M6: sets by number; bounds compared. -/
namespace HD
abbrev Q4 : Type := Nat × Nat × Nat × Nat
def ruD (q : Q4) : D := RU q.1 q.2.1 q.2.2.1 q.2.2.2
/-- at each place at most -/
def PwLe (a b : List Int) : Prop := ∀ (i : Nat) (x y : Int), a[i]? = some x → b[i]? = some y → x ≤ y
def covB (a b : List Int) : Bool := (a.zip b).all fun p => decide (p.1 ≤ p.2)
theorem covB_iff {a b : List Int} : covB a b = true ↔ PwLe a b := by
  unfold covB PwLe
  rw [List.all_eq_true]
  constructor
  · intro h i x y hx hy
    have : (a.zip b)[i]? = some (x, y) := by
      rw [List.getElem?_zip_eq_some]; exact ⟨hx, hy⟩
    have := h (x, y) (List.mem_of_getElem? this)
    simpa using this
  · intro h p hp
    obtain ⟨i, hi⟩ := List.mem_iff_getElem?.mp hp
    rw [List.getElem?_zip_eq_some] at hi
    exact decide_eq_true (h i _ _ hi.1 hi.2)
theorem cov_meet {a b : List Int} : meetB b a = covB a b := by
  rw [Bool.eq_iff_iff, covB_iff, meetB_iff]
  exact ⟨fun h i x y hx hy => h i y x hy hx, fun h i x y hx hy => h i y x hy hx⟩
theorem PwLe.refl (a : List Int) : PwLe a a := fun i x y hx hy => by rw [hx] at hy; cases hy; exact Int.le_refl _
theorem PwLe.trans {a b c : List Int} (h1 : PwLe a b) (h2 : PwLe b c) (hl : a.length ≤ b.length) : PwLe a c := fun i x y hx hy => by
  have hi := (List.getElem?_eq_some_iff.mp hx).1
  have e := List.getElem?_eq_getElem (show i < b.length by omega)
  exact Int.le_trans (h1 i x _ hx e) (h2 i _ y e hy)
theorem PwLe.anti {a b : List Int} (h1 : PwLe a b) (h2 : PwLe b a) (hl : a.length = b.length) : a = b := by
  apply List.ext_getElem?
  intro i
  by_cases hi : i < a.length
  · have e1 := List.getElem?_eq_getElem hi
    have e2 := List.getElem?_eq_getElem (show i < b.length by omega)
    have := h1 i _ _ e1 e2
    have := h2 i _ _ e2 e1
    rw [e1, e2]; congr 1; omega
  · rw [List.getElem?_eq_none (by omega), List.getElem?_eq_none (by omega)]
theorem way_anti {L1 L2 : List Int} (h : PwLe L1 L2) (hl : L1.length = L2.length) (R : Nat) : ∀ k n, wayN L2 R k n ≤ wayN L1 R k n
  | 0, n => by unfold wayN; rw [hl]; exact Nat.le_refl _
  | k + 1, n => by
    have i1 := way_anti h hl R k n
    have i2 := way_anti h hl R k (n + 1)
    unfold wayN
    by_cases e : n < L2.length ∧ L2.getD n 0 ≤ ((R - k : Nat) : Int)
    · have e1 := List.getElem?_eq_getElem (show n < L1.length by omega)
      have e2 := List.getElem?_eq_getElem e.1
      have := h n _ _ e1 e2
      have g1 : L1.getD n 0 = L1[n] := by rw [List.getD, e1]; rfl
      have g2 : L2.getD n 0 = L2[n] := by rw [List.getD, e2]; rfl
      rw [if_pos e, if_pos ⟨by omega, by omega⟩]
      omega
    · rw [if_neg e]; omega
theorem inc_get {L : List Int} (h : Inc L) {i j : Nat} {x y : Int} (hx : L[i]? = some x) (hy : L[j]? = some y) (hij : i < j) : x < y := by
  obtain ⟨h1, e1⟩ := List.getElem?_eq_some_iff.mp hx
  obtain ⟨h2, e2⟩ := List.getElem?_eq_some_iff.mp hy
  have := List.pairwise_iff_getElem.mp h i j h1 h2 hij
  omega
theorem rg_one_more {R k : Nat} (hk : k < R) : rg ((R : Int) + 1 - ((k + 1 : Nat) : Int)) (k + 1) = ((R - k : Nat) : Int) :: rg ((R : Int) + 1 - k) k := by
  rw [rg_cons, show ((R : Int) + 1 - ((k + 1 : Nat) : Int)) = ((R - k : Nat) : Int) by omega, show ((R - k : Nat) : Int) + 1 = (R : Int) + 1 - k by omega]
/-- the last set -/
theorem last_set {L : List Int} (hi : Inc L) (R : Nat) (hb : ∀ x ∈ L, x ≤ (R : Int)) : ∀ (k n : Nat), k ≤ R → n ≤ L.length → (∀ (j : Nat) (x : Int), n ≤ j → L[j]? = some x → (R : Int) + 1 - k ≤ x) →
    1 ≤ wayN L R k n ∧ setF L R k (wayN L R k n - 1) n = (rg ((R : Int) + 1 - k) k).filter fun x => !decide (x ∈ L.drop n)
  | 0, n, _, hn, h => by
    have e : n = L.length := by
      refine Classical.byContradiction fun z => ?_
      have e := List.getElem?_eq_getElem (show n < L.length by omega)
      have h1 := h n _ (Nat.le_refl _) e
      have h2 := hb _ (List.mem_of_getElem? e)
      omega
    rw [wayN, if_pos e]
    exact ⟨Nat.le_refl _, rfl⟩
  | k + 1, n, hk, hn, h => by
    rw [rg_one_more (by omega)]
    by_cases c : n < L.length ∧ L.getD n 0 ≤ ((R - k : Nat) : Int)
    · have e := List.getElem?_eq_getElem c.1
      have g : L.getD n 0 = L[n] := by rw [List.getD, e]; rfl
      have h1 := h n _ (Nat.le_refl _) e
      have hr : L[n] = ((R - k : Nat) : Int) := by omega
      obtain ⟨w1, s1⟩ := last_set hi R hb k (n + 1) (by omega) (by omega) fun j x hj hx => by
        have := inc_get hi e hx (by omega)
        omega
      have ew : wayN L R (k + 1) n = wayN L R k n + wayN L R k (n + 1) := by rw [wayN, if_pos c]
      refine ⟨by omega, ?_⟩
      rw [setF, if_neg (by omega), ew, show wayN L R k n + wayN L R k (n + 1) - 1 - wayN L R k n = wayN L R k (n + 1) - 1 by omega, s1]
      have ed : L.drop n = L[n] :: L.drop (n + 1) := List.drop_eq_getElem_cons c.1
      rw [List.filter_cons, if_neg (by rw [ed, hr]; simp)]
      refine List.filter_congr fun x hx => ?_
      have hx1 := (rg_mem.mp hx).1
      rw [ed, decide_eq_decide.mpr (List.mem_cons.trans ⟨fun z => z.resolve_left (by omega), .inr⟩)]
    · have hbig : ∀ (j : Nat) (x : Int), n ≤ j → L[j]? = some x → (R : Int) + 1 - k ≤ x := fun j x hj hx => by
        have hjl := (List.getElem?_eq_some_iff.mp hx).1
        have e := List.getElem?_eq_getElem (show n < L.length by omega)
        have g : L.getD n 0 = L[n] := by rw [List.getD, e]; rfl
        have h1 : ¬ L[n] ≤ ((R - k : Nat) : Int) := fun z => c ⟨by omega, by omega⟩
        by_cases hjn : j = n
        · subst hjn; rw [e] at hx; cases hx; omega
        · have := inc_get hi e hx (by omega)
          omega
      obtain ⟨w1, s1⟩ := last_set hi R hb k n (by omega) hn hbig
      have ew : wayN L R (k + 1) n = wayN L R k n := by rw [wayN, if_neg c]; rfl
      rw [ew]
      refine ⟨w1, ?_⟩
      rw [setF, if_pos (by omega), s1, List.filter_cons, if_pos]
      simp only [Bool.not_eq_true', decide_eq_false_iff_not]
      intro z
      obtain ⟨i, hi2⟩ := List.mem_iff_getElem?.mp z
      rw [List.getElem?_drop] at hi2
      have := hbig (n + i) _ (by omega) hi2
      omega
/-- every set with a number keeps the bounds -/
theorem set_meets (L : List Int) (R : Nat) : ∀ (k v n : Nat), k ≤ R → v < wayN L R k n → n ≤ L.length ∧ (setF L R k v n).Sublist (rg ((R : Int) + 1 - k) k) ∧
    ∀ G, G = ((rg ((R : Int) + 1 - k) k).filter fun x => !decide (x ∈ setF L R k v n)) → G.length = L.length - n ∧ ∀ (i : Nat) (x y : Int), G[i]? = some x → L[n + i]? = some y → y ≤ x
  | 0, v, n, _, h => by
    rw [wayN] at h
    split at h
    · rename_i e
      subst e
      refine ⟨Nat.le_refl _, List.Sublist.refl _, fun G hG => ?_⟩
      subst hG
      refine ⟨by simp [rg], fun i x y hx => ?_⟩
      simp [rg] at hx
    · omega
  | k + 1, v, n, hk, h => by
    rw [rg_one_more (by omega)]
    by_cases c : v < wayN L R k n
    · obtain ⟨h1, h2, h3⟩ := set_meets L R k v n (by omega) c
      rw [setF, if_pos c]
      refine ⟨h1, h2.cons₂ _, fun G hG => ?_⟩
      have e : G = (rg ((R : Int) + 1 - k) k).filter fun x => !decide (x ∈ setF L R k v n) := by
        rw [hG, List.filter_cons, if_neg (by simp)]
        refine List.filter_congr fun x hx => ?_
        have hx1 := (rg_mem.mp hx).1
        rw [decide_eq_decide.mpr (List.mem_cons.trans ⟨fun z => z.resolve_left (by omega), .inr⟩)]
      exact h3 G e
    · obtain ⟨w1, w2⟩ := way_in h c
      obtain ⟨h1, h2, h3⟩ := set_meets L R k (v - wayN L R k n) (n + 1) (by omega) w2
      rw [setF, if_neg c]
      refine ⟨by omega, h2.cons _, fun G hG => ?_⟩
      have hr : ((R - k : Nat) : Int) ∉ setF L R k (v - wayN L R k n) (n + 1) := fun z => by
        have := (rg_mem.mp (h2.subset z)).1
        omega
      rw [List.filter_cons, if_pos (by simp [hr])] at hG
      obtain ⟨q1, q2⟩ := h3 _ rfl
      subst hG
      refine ⟨by rw [List.length_cons, q1]; omega, fun i x y hx hy => ?_⟩
      cases i with
      | zero =>
        simp only [List.getElem?_cons_zero, Option.some.injEq] at hx
        subst hx
        have g : L.getD n 0 = y := by rw [List.getD, show L[n]? = some y from hy]; rfl
        rw [← g]; exact w1.2
      | succ i =>
        rw [List.getElem?_cons_succ] at hx
        exact q2 i x y hx (by rw [← hy]; congr 1; omega)
theorem lex_ge : ∀ {a b : List Int}, PwLe b a → a.length = b.length → HT.lexLt a b = false
  | [], [], _, _ => rfl
  | [], _ :: _, _, h => by simp at h
  | _ :: _, [], _, h => by simp at h
  | x :: a, y :: b, h, hl => by
    have h0 := h 0 y x rfl rfl
    rw [HT.lexLt_cons]
    split
    · exact lex_ge (fun i u v hu hv => h (i + 1) u v (by simpa using hu) (by simpa using hv)) (by simpa using hl)
    · simp; omega
theorem cnt_pw {a b : List Int} (ha : Inc a) (hb : Inc b) : (∀ r, cnt r a ≤ cnt r b) → PwLe b a := fun h i y x hy hx => by
  refine Classical.byContradiction fun z => ?_
  have h1 : cnt (x + 1) a = i + 1 := by rw [cnt_succ ha (List.mem_of_getElem? hx), cnt_at ha hx]
  have h2 := cnt_mono (show x + 1 ≤ y by omega) b
  rw [cnt_at hb hy] at h2
  have := h (x + 1)
  omega
theorem pw_cnt {a b : List Int} (ha : Inc a) (hb : Inc b) (hl : a.length = b.length) (h : PwLe a b) (r : Int) : cnt r b ≤ cnt r a := by
  cases hc : cnt r b with
  | zero => exact Nat.zero_le _
  | succ c =>
    have hlb := cnt_le r b
    have e1 := List.getElem?_eq_getElem (show c < b.length by omega)
    have e2 := List.getElem?_eq_getElem (show c < a.length by omega)
    have hle := h c _ _ e2 e1
    have hlt : b[c] < r := by
      refine Classical.byContradiction fun z => ?_
      have := cnt_mono (show r ≤ b[c] by omega) b
      rw [cnt_at hb e1] at this
      omega
    have h1 : cnt (a[c] + 1) a = c + 1 := by rw [cnt_succ ha (List.mem_of_getElem? e2), cnt_at ha e2]
    have := cnt_mono (show a[c] + 1 ≤ r by omega) a
    omega
theorem out_pw {n : Nat} {a b : List Int} (ha : Inc a) (hb : Inc b) (h1 : ∀ x ∈ a, 1 ≤ x ∧ x ≤ (n : Int)) (h2 : ∀ x ∈ b, 1 ≤ x ∧ x ≤ (n : Int)) (hl : a.length = b.length) (h : PwLe a b) : PwLe (outN n b) (outN n a) := by
  refine cnt_pw (outN_inc _ _) (outN_inc _ _) fun r => ?_
  have c1 := cnt_out (inc_nodup ha) h1 r
  have c2 := cnt_out (inc_nodup hb) h2 r
  have := pw_cnt ha hb hl h r
  omega
theorem out_out {n : Nat} {a : List Int} (ha : Inc a) (h : ∀ x ∈ a, 1 ≤ x ∧ x ≤ (n : Int)) : outN n (outN n a) = a := by
  refine fit_congr (outN_inc _ _) ha fun x => ?_
  rw [outN_mem, outN_mem]
  constructor
  · intro z
    exact Classical.byContradiction fun hn => z.2 ⟨z.1, hn⟩
  · intro z
    exact ⟨h x z, fun q => q.2 z⟩
section
variable {h s w l : Nat}
theorem lim_bnd (g4 : w ≤ s) : ∀ x ∈ limN h s w l, 1 ≤ x ∧ x ≤ ((h * s : Nat) : Int) := fun x hx => by
  unfold limN at hx
  obtain ⟨i, hi, rfl⟩ := List.mem_map.mp hx
  rw [List.mem_range] at hi
  have hw : w < s := by
    rcases Nat.lt_or_eq_of_le g4 with z | z
    · exact z
    · rw [z] at hi; simp at hi
  have h1 : bndN s w (l + 1 + i) ≤ h * s := by
    refine bnd_le hw (k := h) (by omega) ?_
    have hh : h * s = h * (s - w) + h * w := by rw [← Nat.mul_add]; congr 1; omega
    omega
  have h2 : 1 ≤ bndN s w (l + 1 + i) := by unfold bndN; omega
  omega
theorem last_ok (g4 : w ≤ s) (l : Nat) : 1 ≤ wayN (limN h s w l) (h * s) (h * s) 0 ∧ setF (limN h s w l) (h * s) (h * s) (wayN (limN h s w l) (h * s) (h * s) 0 - 1) 0 = outN (h * s) (limN h s w l) := by
  have hb := lim_bnd (h := h) (l := l) g4
  have := last_set (limN_inc' g4) (h * s) (fun x hx => (hb x hx).2) (h * s) 0 (Nat.le_refl _) (Nat.zero_le _) fun j x _ hx => by
    have := (hb x (List.mem_of_getElem? hx)).1
    omega
  rw [show ((h * s : Nat) : Int) + 1 - ((h * s : Nat) : Int) = 1 by omega, List.drop_zero] at this
  exact this
/-- a set by its number fits -/
theorem set_fit (g4 : w ≤ s) (g5 : l ≤ h * (s - w)) {v : Nat} (hv : v < wayN (limN h s w l) (h * s) (h * s) 0) : Inc (setF (limN h s w l) (h * s) (h * s) v 0) ∧ (∀ x ∈ setF (limN h s w l) (h * s) (h * s) v 0, 1 ≤ x ∧ x ≤ ((h * s : Nat) : Int)) ∧
    (setF (limN h s w l) (h * s) (h * s) v 0).length = h * w + l ∧ PwLe (limN h s w l) (outN (h * s) (setF (limN h s w l) (h * s) (h * s) v 0)) := by
  obtain ⟨_, h2, h3⟩ := set_meets (limN h s w l) (h * s) (h * s) v 0 (Nat.le_refl _) hv
  rw [show ((h * s : Nat) : Int) + 1 - ((h * s : Nat) : Int) = 1 by omega] at h2 h3
  have hi : Inc (setF (limN h s w l) (h * s) (h * s) v 0) := (rg_inc _ _).sublist h2
  have hb : ∀ x ∈ setF (limN h s w l) (h * s) (h * s) v 0, 1 ≤ x ∧ x ≤ ((h * s : Nat) : Int) := fun x hx => by
    have := rg_mem.mp (h2.subset hx)
    omega
  obtain ⟨q1, q2⟩ := h3 _ rfl
  refine ⟨hi, hb, ?_, fun i x y hx hy => q2 i y x hy (by rw [Nat.zero_add]; exact hx)⟩
  have := outN_len (inc_nodup hi) hb
  unfold outN at this
  rw [q1, limN_len] at this
  have hh : h * s = h * (s - w) + h * w := by rw [← Nat.mul_add]; congr 1; omega
  omega
theorem plain_cov (g4 : w ≤ s) (hp : 1 ≤ h * w + l) (g5 : l ≤ h * (s - w)) : PwLe (limN h s w l) (limN 1 (h * s) (h * w + l) 0) := fun i x y hx hy => by
  have hi := (List.getElem?_eq_some_iff.mp hx).1
  rw [limN_len] at hi
  have hj := (List.getElem?_eq_some_iff.mp hy).1
  rw [limN_len] at hj
  rw [limN_get i hi] at hx
  rw [limN_get i hj] at hy
  cases hx
  cases hy
  have hw : w < s := by
    rcases Nat.lt_or_eq_of_le g4 with z | z
    · exact z
    · rw [z] at hi; simp at hi
  have hh : h * s = h * (s - w) + h * w := by rw [← Nat.mul_add]; congr 1; omega
  have h1 : bndN s w (l + 1 + i) ≤ h * w + l + 1 + i := bnd_le hw (k := h) (by omega) (by omega)
  have h2 : h * w + l + 1 + i ≤ bndN (h * s) (h * w + l) (0 + 1 + i) := by
    unfold bndN
    have : 1 ≤ (0 + 1 + i + (h * s - (h * w + l)) - 1) / (h * s - (h * w + l)) := by
      rw [Nat.le_div_iff_mul_le (by omega)]; omega
    have := Nat.mul_le_mul_left (h * w + l) this
    omega
  omega
end
end HD
end

section
set_option Elab.async false
set_option linter.all false
set_option maxRecDepth 100000
set_option maxHeartbeats 2000000
/-! B25: rules compared. -/
namespace HD
open L2 (atI ixN)
section
variable {m : Mem} {b : Nat} {o : Mob} {h s w l h2 s2 w2 l2 : Nat}
theorem covers_ok (g : GoodR h s w l) (g2 : GoodR h2 s2 w2 l2) : Φ 102 [RU h s w l, RU h2 s2 w2 l2] m = .ok (.bl (covB (limN h s w l) (limN h2 s2 w2 l2))) m := by
  have c1 : ev Φ f_covers_c1 [some (RU h s w l), some (RU h2 s2 w2 l2), none, none] m = .ok (.lst (((limN h s w l).zip (limN h2 s2 w2 l2)).map fun p => .bl (decide (p.1 ≤ p.2)))) m := by
    have gb := g.nb
    have hl := limN_len h s w l
    have : h * (s - w) ≤ 100 * 100 := Nat.mul_le_mul (by omega) (by omega)
    rw [f_covers_c1, comp_evalA (fun p : Int × Int => D.tup [.int p.1, .int p.2]) (fun p => .bl (decide (p.1 ≤ p.2))) ((limN h s w l).zip (limN h2 s2 w2 l2)) ?_ (by rw [List.length_zip]; omega) fun p hp => ⟨[some (RU h s w l), some (RU h2 s2 w2 l2), some (.int p.1), some (.int p.2)], rfl, by simp⟩]
    simp only [x_cons, x_nil, x_call, x_var, look_zero, look_succ, Res.bind_ok, bounds_ok g, bounds_ok g2, its_zipL]
  rw [R_covers]
  simp only [f_covers, y_cons, y_ret, x_blt, x_cons, x_nil, c1, Res.bind_ok, l_allF, Res.toS_ok, SRes.bind_rt, out_rt, shut_ok]
  rfl
theorem need_pair_ok (g : GoodR h s w l) (g2 : GoodR h2 s2 w2 l2) (e1 : h * s = h2 * s2) (e2 : h * w + l = h2 * w2 + l2) (hN : h * s ≤ 10000) : Φ 101 [RU h s w l, RU h2 s2 w2 l2] m = .ok .non m := by
  have n1 : (h : Int) * s ≤ 10000 := by rw [← Int.natCast_mul]; omega
  have n2 : (h2 : Int) * s2 ≤ 10000 := by rw [← Int.natCast_mul]; omega
  have b1 := g.b
  have b2 := g2.b
  have k1 : binop .mul (.int (h : Int)) (.int (s : Int)) m = .ok (.int ((h * s : Nat) : Int)) m := by rw [Int.natCast_mul]; exact b_mul (.inl ⟨by omega, by omega⟩)
  have k2 : binop .mul (.int (h2 : Int)) (.int (s2 : Int)) m = .ok (.int ((h * s : Nat) : Int)) m := by rw [e1, Int.natCast_mul]; exact b_mul (.inl ⟨by omega, by omega⟩)
  have p2 := places_of_ok (m := m) g2
  rw [places_nat, ← e2, ← places_nat (s := s)] at p2
  rw [R_need_pair]
  simp only [f_need_pair, y_cons, y_drop, x_call, x_cons, x_nil, x_var, look_zero, look_succ, Res.bind_ok, need_rule_ok g n1, need_rule_ok g2 n2, Res.toS_ok, SRes.bind_nx, y_ite, x_bop, x_b2, x_b1, x_cmp, x_bin, x_ix, x_int, ixop_tup, at0, at1, okO_some, k1, k2, c_ne, eqv_int, decide_true, Option.map_some, Bool.not_true, okB_yes, blOf_bl, if_true, places_of_ok g, p2, Bool.false_eq_true, if_false, y_nil, out_nx, shut_ok]
theorem lets_all_ok (g : GoodR h s w l) (g2 : GoodR h2 s2 w2 l2) (e1 : h * s = h2 * s2) (e2 : h * w + l = h2 * w2 + l2) (hN : h * s ≤ 10000) : Φ 103 [RU h s w l, RU h2 s2 w2 l2] m = .ok (.bl (covB (limN h s w l) (limN h2 s2 w2 l2))) m := by
  rw [R_lets_all]
  simp only [f_lets_all, y_cons, y_drop, x_call, x_cons, x_nil, x_var, look_zero, look_succ, Res.bind_ok, need_pair_ok g g2 e1 e2 hN, Res.toS_ok, SRes.bind_nx, y_ret, covers_ok g g2, SRes.bind_rt, out_rt, shut_ok]
def tellD (a b : List Int) (n : Nat) : D := if covB a b = true then .non else TI (outN n b)
theorem telling_ok (g : GoodR h s w l) (g2 : GoodR h2 s2 w2 l2) (e1 : h * s = h2 * s2) (e2 : h * w + l = h2 * w2 + l2) (hN : h * s ≤ 10000) : Φ 104 [RU h s w l, RU h2 s2 w2 l2] m = .ok (tellD (limN h s w l) (limN h2 s2 w2 l2) (h * s)) m := by
  have b2 := g2.b
  rw [R_telling_set]
  unfold tellD
  by_cases c : covB (limN h s w l) (limN h2 s2 w2 l2) = true
  · rw [if_pos c]
    simp only [f_telling_set, y_cons, y_drop, x_call, x_cons, x_nil, x_var, look_zero, look_succ, Res.bind_ok, need_pair_ok g g2 e1 e2 hN, Res.toS_ok, SRes.bind_nx, y_ite, covers_ok g g2, c, blOf_bl, if_true, y_ret, x_non, SRes.bind_rt, out_rt, shut_ok]
  · rw [if_neg c]
    have c' : covB (limN h s w l) (limN h2 s2 w2 l2) = false := by simpa using c
    have k2 : binop .mul (.int (h2 : Int)) (.int (s2 : Int)) m = .ok (.int ((h * s : Nat) : Int)) m := by rw [e1, Int.natCast_mul]; exact b_mul (.inl ⟨by omega, by omega⟩)
    have it : itsOf .rng2 (.ok [.int 1, .int (((h * s : Nat) : Int) + 1)] m) = .ok ((rg 1 (h * s)).map .int) m := by
      rw [its_rng2 _ _ (by omega), show (((h * s : Nat) : Int) + 1 - 1).toNat = h * s by omega, rngD_rg]
    have c1 : ev Φ f_telling_set_c1 [some (RU h s w l), some (RU h2 s2 w2 l2), some (LI (limN h2 s2 w2 l2)), none] m = .ok (LI (outN (h * s) (limN h2 s2 w2 l2))) m := by
      rw [f_telling_set_c1, comp_eval D.int (fun x => !decide (x ∈ limN h2 s2 w2 l2)) D.int (rg 1 (h * s)) ?_ (by simp; omega) fun x hx => ⟨[some (RU h s w l), some (RU h2 s2 w2 l2), some (LI (limN h2 s2 w2 l2)), some (.int x)], rfl, ?_, fun _ => by simp⟩]
      · rfl
      · simp only [x_cons, x_nil, x_int, x_bin, x_ix, x_var, look_zero, look_succ, Res.bind_ok, ixop_tup, at0, at1, okO_some, k2, b_add, it]
      · simp only [x_t1, x_t0, x_cmp, x_var, look_zero, look_succ, Res.bind_ok, c_notin, memb_lints, Option.map_some, okB_yes, blOf_bl]
        cases decide (x ∈ limN h2 s2 w2 l2) <;> rfl
    simp only [f_telling_set, y_cons, y_drop, x_call, x_cons, x_nil, x_var, look_zero, look_succ, Res.bind_ok, need_pair_ok g g2 e1 e2 hN, Res.toS_ok, SRes.bind_nx, y_ite, covers_ok g g2, c', blOf_bl, Bool.false_eq_true, if_false, y_nil, y_set, bounds_ok g2, List.set, y_ret, x_blt, c1, l_tuple, tupleop_lst, SRes.bind_rt, out_rt, shut_ok]
/-! all rules with so many runners and places -/
def innerR (P h s : Nat) (j : Nat) : Option Q4 := if h * (j + 1) ≤ P ∧ P - h * (j + 1) ≤ h * (s - (j + 1)) then some (h, s, j + 1, P - h * (j + 1)) else none
def rowR (N P : Nat) (i : Nat) : List Q4 := if N % (i + 1) = 0 then (List.range (N / (i + 1))).filterMap (innerR P (i + 1) (N / (i + 1))) else []
def othersR (N P : Nat) : List Q4 := (List.range N).flatMap (rowR N P)
theorem othersR_good {N P : Nat} (hN : N ≤ 100) (hN1 : 1 ≤ N) {q : Q4} (hq : q ∈ othersR N P) : GoodR q.1 q.2.1 q.2.2.1 q.2.2.2 ∧ q.1 * q.2.1 = N ∧ q.1 * q.2.2.1 + q.2.2.2 = P := by
  unfold othersR at hq
  obtain ⟨i, hi, hq⟩ := List.mem_flatMap.mp hq
  rw [List.mem_range] at hi
  unfold rowR at hq
  split at hq
  · rename_i hm
    obtain ⟨j, hj, e⟩ := List.mem_filterMap.mp hq
    rw [List.mem_range] at hj
    unfold innerR at e
    split at e
    · rename_i c
      cases e
      have hd : (i + 1) * (N / (i + 1)) = N := Nat.mul_div_cancel' (Nat.dvd_of_mod_eq_zero hm)
      have hle : N / (i + 1) ≤ N := Nat.div_le_self _ _
      refine ⟨rule_good (a := i + 1) (s := N / (i + 1)) (w := j + 1) (l := P - (i + 1) * (j + 1)) ⟨by omega, by omega, by omega, by omega, c.2⟩ (by omega) (by omega), hd, ?_⟩
      show (i + 1) * (j + 1) + (P - (i + 1) * (j + 1)) = P
      omega
    · cases e
  · cases hq
theorem othersR_mem (g : GoodR h s w l) : (h, s, w, l) ∈ othersR (h * s) (h * w + l) := by
  obtain ⟨g1, g2, g3, g4, g5⟩ := good_nat g
  unfold othersR
  have hle : h ≤ h * s := Nat.le_mul_of_pos_right h (by omega)
  refine List.mem_flatMap.mpr ⟨h - 1, by rw [List.mem_range]; omega, ?_⟩
  unfold rowR
  have e1 : h - 1 + 1 = h := by omega
  have e2 : h * s / h = s := Nat.mul_div_cancel_left s (by omega)
  rw [e1, e2, if_pos (Nat.mul_mod_right h s)]
  refine List.mem_filterMap.mpr ⟨w - 1, by rw [List.mem_range]; omega, ?_⟩
  unfold innerR
  have e3 : w - 1 + 1 = w := by omega
  rw [e3, if_pos ⟨by omega, by rw [Nat.add_sub_cancel_left]; exact g5⟩, Nat.add_sub_cancel_left]
theorem closed_ruD (n : Nat) : ∀ L : List Q4, closedL n (L.map ruD) = true
  | [] => rfl
  | q :: L => by simp [closedL, ruD, closedD, closed_ruD n L]
theorem len_inner (P h s n : Nat) : ((List.range n).filterMap (innerR P h s)).length ≤ n := by
  have := List.length_filterMap_le (innerR P h s) (List.range n)
  rwa [List.length_range] at this
theorem others_R_ok (hc : Cl m) (N P : Nat) (hN : N ≤ 100) (hP : P ≤ 10000) : Φ 105 [.int (N : Int), .int (P : Int)] m = .ok (.lst ((othersR N P).map ruD)) m := by
  let M : List Q4 → Mem := fun L => m ++ [.lst (L.map ruD)]
  have gM : ∀ L, (M L)[m.length]? = some (.lst (L.map ruD)) := fun L => get_app m _
  have sM : ∀ L L' : List Q4, (M L).set m.length (.lst (L'.map ruD)) = M L' := fun L L' => set_app m _ _
  let E : Option D → Option D → Option D → Env := fun a b c => [some (.int (N : Int)), some (.int (P : Int)), some (.ref m.length), a, b, c]
  -- the inner loop
  have inner : ∀ (i s : Nat) (L : List Q4) (c : Option D), i < 100 → s ≤ 100 → L.length ≤ 100000 → ∃ c', forL (evSs Φ f_law_others_b1) (.nm 5) ((List.range s).map fun (j : Nat) => D.int (1 + (j : Int))) (E (some (.int (1 + (i : Int)))) (some (.int (s : Int))) c) (M L) =
      .nx (E (some (.int (1 + (i : Int)))) (some (.int (s : Int))) c') (M (L ++ (List.range s).filterMap (innerR P (i + 1) s))) := by
    intro i s L c hi hs hL
    obtain ⟨ρ2, m2, e, c', rfl, rfl⟩ := forL_idx (body := evSs Φ f_law_others_b1) (t := .nm 5) (fun (j : Nat) => D.int (1 + (j : Int))) (List.range s)
      (fun k ρ m' => ∃ c, ρ = E (some (.int (1 + (i : Int)))) (some (.int (s : Int))) c ∧ m' = M (L ++ (List.range k).filterMap (innerR P (i + 1) s))) (fun k x ρ m' hx ⟨c, e1, e2⟩ => by
        subst e1 e2
        have hk := (List.getElem?_eq_some_iff.mp hx).1
        rw [List.length_range] at hk
        have ex : x = k := by rw [List.getElem?_range hk] at hx; exact (Option.some.inj hx).symm
        subst ex
        have il := len_inner P (i + 1) s x
        refine ⟨_, _, _, rfl, ?_, some (.int (1 + (x : Int))), rfl, rfl⟩
        have k1 : ∀ M, binop .mul (.int (1 + (i : Int))) (.int (1 + (x : Int))) M = .ok (.int (((i + 1) * (x + 1) : Nat) : Int)) M := fun M => by
          rw [Int.natCast_mul, show ((i + 1 : Nat) : Int) = 1 + (i : Int) by omega, show ((x + 1 : Nat) : Int) = 1 + (x : Int) by omega]; exact b_mul (.inl ⟨by omega, by omega⟩)
        have k2 : ∀ M, binop .mul (.int (1 + (i : Int))) (.int ((s : Int) - (1 + (x : Int)))) M = .ok (.int (((i + 1) * (s - (x + 1)) : Nat) : Int)) M := fun M => by
          rw [Int.natCast_mul, show ((i + 1 : Nat) : Int) = 1 + (i : Int) by omega, show ((s - (x + 1) : Nat) : Int) = (s : Int) - (1 + (x : Int)) by omega]; exact b_mul (.inl ⟨by omega, by omega⟩)
        rw [List.range_succ, List.filterMap_append]
        generalize (List.range x).filterMap (innerR P (i + 1) s) = L1 at il
        have ap := fun v => appop_ref (gM (L ++ L1)) (by rw [List.length_map, List.length_append]; omega) v
        by_cases c1 : (i + 1) * (x + 1) ≤ P
        · have q1 : (0 : Int) ≤ (P : Int) - (((i + 1) * (x + 1) : Nat) : Int) := by omega
          by_cases c2 : P - (i + 1) * (x + 1) ≤ (i + 1) * (s - (x + 1))
          · have q2 : (P : Int) - (((i + 1) * (x + 1) : Nat) : Int) ≤ (((i + 1) * (s - (x + 1)) : Nat) : Int) := by omega
            have ei : List.filterMap (innerR P (i + 1) s) [x] = [(i + 1, s, x + 1, P - (i + 1) * (x + 1))] := by
              simp only [List.filterMap_cons, List.filterMap_nil, innerR, if_pos (And.intro c1 c2)]
            have el : D.tup [.int (1 + (i : Int)), .int (s : Int), .int (1 + (x : Int)), .int ((P : Int) - (((i + 1) * (x + 1) : Nat) : Int))] = ruD (i + 1, s, x + 1, P - (i + 1) * (x + 1)) := by
              unfold ruD
              simp only
              rw [show ((i + 1 : Nat) : Int) = 1 + (i : Int) by omega, show ((x + 1 : Nat) : Int) = 1 + (x : Int) by omega, show ((P - (i + 1) * (x + 1) : Nat) : Int) = (P : Int) - (((i + 1) * (x + 1) : Nat) : Int) by omega]
            rw [ei]
            simp only [E, List.set, f_law_others_b1, y_cons, y_ite, x_chain, x_int, x_bin, x_var, look_zero, look_succ, Res.bind_ok, k1, b_sub, c_le, q1, decide_true, blOf_bl, if_true, k2, q2, Res.toS_ok, y_app, isLst_ref (gM _), x_tup, x_cons, x_nil, List.length_cons, List.length_nil, Nat.zero_add, Nat.reduceAdd, lim4, el, ap, okM_some, SRes.bind_nx, y_nil]
            have := sM (L ++ L1) (L ++ L1 ++ [(i + 1, s, x + 1, P - (i + 1) * (x + 1))])
            rw [List.map_append] at this
            rw [List.append_assoc] at this
            exact congrArg _ this
          · have q2 : ¬ (P : Int) - (((i + 1) * (x + 1) : Nat) : Int) ≤ (((i + 1) * (s - (x + 1)) : Nat) : Int) := by omega
            have ei : List.filterMap (innerR P (i + 1) s) [x] = [] := by
              simp only [List.filterMap_cons, List.filterMap_nil, innerR, if_neg (fun z : (i + 1) * (x + 1) ≤ P ∧ P - (i + 1) * (x + 1) ≤ (i + 1) * (s - (x + 1)) => c2 z.2)]
            rw [ei, List.append_nil]
            simp only [E, List.set, f_law_others_b1, y_cons, y_ite, x_chain, x_int, x_bin, x_var, look_zero, look_succ, Res.bind_ok, k1, b_sub, c_le, q1, decide_true, blOf_bl, if_true, k2, q2, decide_false, Res.toS_ok, Bool.false_eq_true, if_false, SRes.bind_nx, y_nil]
        · have q1 : ¬ (0 : Int) ≤ (P : Int) - (((i + 1) * (x + 1) : Nat) : Int) := by omega
          have ei : List.filterMap (innerR P (i + 1) s) [x] = [] := by
            simp only [List.filterMap_cons, List.filterMap_nil, innerR, if_neg (fun z : (i + 1) * (x + 1) ≤ P ∧ P - (i + 1) * (x + 1) ≤ (i + 1) * (s - (x + 1)) => c1 z.1)]
          rw [ei, List.append_nil]
          simp only [E, List.set, f_law_others_b1, y_cons, y_ite, x_chain, x_int, x_bin, x_var, look_zero, look_succ, Res.bind_ok, k1, b_sub, c_le, q1, decide_false, blOf_bl, Bool.false_eq_true, if_false, Res.toS_ok, SRes.bind_nx, y_nil]) (ρ := E (some (.int (1 + (i : Int)))) (some (.int (s : Int))) c) (m := M L) ⟨c, rfl, by simp⟩
    rw [List.length_range] at e
    exact ⟨c', e⟩
  have outer : ∃ a b c, forL (evSs Φ f_law_others_b2) (.nm 3) ((List.range N).map fun (j : Nat) => D.int (1 + (j : Int))) (E none none none) (M []) = .nx (E a b c) (M (othersR N P)) := by
    obtain ⟨ρ2, m2, e, a, b, c, hl, rfl, rfl⟩ := forL_idx (body := evSs Φ f_law_others_b2) (t := .nm 3) (fun (j : Nat) => D.int (1 + (j : Int))) (List.range N)
      (fun k ρ m' => ∃ a b c, ((List.range k).flatMap (rowR N P)).length ≤ k * 100 ∧ ρ = E a b c ∧ m' = M ((List.range k).flatMap (rowR N P))) (fun k x ρ m' hx ⟨a, b, c, hl, e1, e2⟩ => by
        subst e1 e2
        have hk := (List.getElem?_eq_some_iff.mp hx).1
        rw [List.length_range] at hk
        have ex : x = k := by rw [List.getElem?_range hk] at hx; exact (Option.some.inj hx).symm
        subst ex
        have hx1 : (0 : Int) < 1 + (x : Int) := by omega
        have md : ((N : Int) % (1 + (x : Int))) = ((N % (x + 1) : Nat) : Int) := by rw [Int.natCast_emod]; congr 1; omega
        have dv : ((N : Int) / (1 + (x : Int))) = ((N / (x + 1) : Nat) : Int) := by rw [Int.natCast_ediv]; congr 1; omega
        have hle : N / (x + 1) ≤ N := Nat.div_le_self _ _
        rw [List.range_succ, List.flatMap_append]
        have ef : [x].flatMap (rowR N P) = rowR N P x := by simp
        rw [ef]
        generalize (List.range x).flatMap (rowR N P) = L1 at hl
        by_cases c1 : N % (x + 1) = 0
        · have er : rowR N P x = (List.range (N / (x + 1))).filterMap (innerR P (x + 1) (N / (x + 1))) := by unfold rowR; rw [if_pos c1]
          obtain ⟨c', e3⟩ := inner x (N / (x + 1)) L1 c (by omega) (by omega) (by omega)
          refine ⟨_, _, _, rfl, ?_, some (.int (1 + (x : Int))), some (.int ((N / (x + 1) : Nat) : Int)), c', ?_, rfl, rfl⟩
          · rw [er]
            have c1' : decide (((N % (x + 1) : Nat) : Int) = 0) = true := decide_eq_true (by omega)
            have it : itsOf .rng2 (.ok [.int 1, .int (((N / (x + 1) : Nat) : Int) + 1)] (M L1)) = .ok ((List.range (N / (x + 1))).map fun (j : Nat) => D.int (1 + (j : Int))) (M L1) := by
              generalize N / (x + 1) = q at hle
              rw [its_rng2 _ _ (by omega), show ((q : Int) + 1 - 1).toNat = q by omega]; rfl
            simp only [E] at e3
            simp only [E, List.set, f_law_others_b2, y_cons, y_ite, x_cmp, x_bin, x_var, x_int, look_zero, look_succ, Res.bind_ok, b_mod hx1, md, c_eq, eqv_int, c1', okB_yes, Res.toS_ok, blOf_bl, if_true, y_set, b_fdiv ⟨hx1, (by omega : 1 + (x : Int) < 1073741824)⟩, dv, SRes.bind_nx, y_for, x_cons, x_nil, b_add, it, e3, y_nil]
          · rw [List.length_append, er]
            have := len_inner P (x + 1) (N / (x + 1)) (N / (x + 1))
            omega
        · have er : rowR N P x = [] := by unfold rowR; rw [if_neg c1]
          refine ⟨_, _, _, rfl, ?_, some (.int (1 + (x : Int))), b, c, ?_, rfl, rfl⟩
          · rw [er, List.append_nil]
            have c1' : decide (((N % (x + 1) : Nat) : Int) = 0) = false := decide_eq_false (by omega)
            simp only [E, List.set, f_law_others_b2, y_cons, y_ite, x_cmp, x_bin, x_var, x_int, look_zero, look_succ, Res.bind_ok, b_mod hx1, md, c_eq, eqv_int, c1', okB_yes, Res.toS_ok, blOf_bl, Bool.false_eq_true, if_false, SRes.bind_nx, y_nil]
          · rw [er, List.append_nil]; omega) ⟨none, none, none, by simp, rfl, rfl⟩
    rw [List.length_range] at e
    exact ⟨a, b, c, e⟩
  obtain ⟨a, b, c, e⟩ := outer
  have fz := gM (othersR N P)
  have fs : (M (othersR N P)).set m.length .dead = m ++ [.dead] := set_app m _ _
  have sh := shut_app hc [.dead] (.lst ((othersR N P).map ruD)) (by simpa [closedD] using closed_ruD _ _)
  have it : itsOf .rng2 (.ok [.int 1, .int ((N : Int) + 1)] (M [])) = .ok ((List.range N).map fun (j : Nat) => D.int (1 + (j : Int))) (M []) := by
    rw [its_rng2 _ _ (by omega), show ((N : Int) + 1 - 1).toNat = N by omega]; rfl
  rw [R_law_others]
  have body : evSs Φ f_law_others.body [some (.int (N : Int)), some (.int (P : Int)), none, none, none, none] m = .rt (.lst ((othersR N P).map ruD)) (m ++ [.dead]) := by
    show evSs Φ [_, _, _, _] _ _ = _
    have e' : forL (evSs Φ f_law_others_b2) (.nm 3) ((List.range N).map fun (j : Nat) => D.int (1 + (j : Int))) [some (.int (N : Int)), some (.int (P : Int)), some (.ref m.length), none, none, none] (m ++ [.lst []]) = .nx (E a b c) (M (othersR N P)) := e
    have it' : itsOf .rng2 (.ok [.int 1, .int ((N : Int) + 1)] (m ++ [.lst []])) = .ok ((List.range N).map fun (j : Nat) => D.int (1 + (j : Int))) (m ++ [.lst []]) := it
    simp only [y_cons, y_set, x_ownL, x_nil, Res.bind_ok, List.length_nil, Nat.zero_le, if_true, ownop_lst, Res.toS_ok, SRes.bind_nx, List.set, y_for, x_cons, x_int, x_bin, x_var, look_zero, look_succ, b_add, it', e']
    simp only [E, y_cons, y_nil, y_frz, frzop, List.getElem?_cons_zero, List.getElem?_cons_succ, fz, fs, SRes.bind_nx, List.set, y_ret, x_var, look_zero, look_succ, Res.toS_ok, SRes.bind_rt]
  rw [body, out_rt]
  exact sh
end
end HD
end

section
set_option Elab.async false
set_option linter.all false
set_option maxRecDepth 100000
set_option maxHeartbeats 4000000
/-! B26: law k17. -/
namespace HD
open L2 (atI ixN)
@[simp] theorem eqv_bl (a b : Bool) (m : Mem) : eqv (.bl a) (.bl b) m = some (decide (a = b)) := by
  simp [eqv, viewPy, toPy, PySem.SeqAt.shaped, PySem.PyData.canLay0, PySem.PyData.depth, PySem.PyData.eqv]
  cases a <;> cases b <;> rfl
theorem atI_mapQ {α : Type} (f : α → D) (l : List α) {v : Int} (hv : 0 ≤ v ∧ v < l.length) : ∃ q ∈ l, atI (l.map f) v = some (f q) := by
  have h := atI_nat (l.map f) v.toNat
  rw [Int.toNat_of_nonneg hv.1] at h
  have e := List.getElem?_eq_getElem (show v.toNat < l.length by omega)
  exact ⟨_, List.getElem_mem (show v.toNat < l.length by omega), by rw [h, List.getElem?_map, e]; rfl⟩
theorem and_3 {P : Phi} {c d e : C} {ρ : Env} {M M' : Mem} (h : ev P c ρ M = .ok (.bl true) M') : ev P (.bop true [c, d, e]) ρ M = ev P (.bop true [d, e]) ρ M' := by
  rw [x_bop, x_b2, h, Res.bind_ok, blOf_bl, Res.bind_ok, if_pos rfl, x_bop]
theorem and_no3 {P : Phi} {c d e : C} {ρ : Env} {M M' : Mem} (h : ev P c ρ M = .ok (.bl false) M') : ev P (.bop true [c, d, e]) ρ M = .ok (.bl false) M' := by
  rw [x_bop, x_b2, h]; rfl
theorem ltop_ints (a b : List Int) (m : Mem) : cmpop .lt (TI a) (TI b) m = .ok (.bl (HT.lexLt a b)) m := by
  unfold cmpop
  unfold ltop
  simp only [intsOf_ints]
section
variable {m : Mem} {b : Nat} {o : Mob} {h s w l : Nat}
theorem sure_lim (g : GoodR h s w l) : sureI h s w l = match limN h s w l with | [] => ((h * s : Nat) : Int) | x :: _ => x - 1 := by
  obtain ⟨g1, g2, g3, g4, g5⟩ := good_nat g
  have hh : h * s = h * (s - w) + h * w := by rw [← Nat.mul_add]; congr 1; omega
  have hl := limN_len h s w l
  unfold sureI
  by_cases e : placesI h s w l = (h : Int) * s
  · rw [if_pos e]
    rw [places_nat, ← Int.natCast_mul] at e
    have : limN h s w l = [] := List.eq_nil_of_length_eq_zero (by omega)
    rw [this, Int.natCast_mul]
  · rw [if_neg e]
    rw [places_nat, ← Int.natCast_mul] at e
    have hw : w < s := by
      rcases Nat.lt_or_eq_of_le g4 with z | z
      · exact z
      · subst z; simp at g5; omega
    have hg := limN_get (h := h) (s := s) (w := w) (l := l) 0 (by omega)
    cases hL : limN h s w l with
    | nil => rw [hL] at hg; cases hg
    | cons x r =>
      rw [hL] at hg
      simp only [List.getElem?_cons_zero, Option.some.injEq] at hg
      have e3 : ((l : Int) + 1) = ((l + 1 : Nat) : Int) := by omega
      rw [e3, bound_nat hw, hg]
/-- one turn -/
theorem turn_b1_k17 (hb : BagAt m b) (hc : Cl m) (g : GoodR h s w l) (hN : h * s ≤ 60) (x0 x4 x5 x6 x7 x8 x9 : Option D) :
    ∃ (y5 y6 y7 y8 : Option D) (o' : Mob), evSs Φ f_law_k17_b1 [x0, some (.ref b), some (RU h s w l), some (.lst ((othersR (h * s) (h * w + l)).map ruD)), x4, x5, x6, x7, x8, x9] m =
      .nx [x0, some (.ref b), some (RU h s w l), some (.lst ((othersR (h * s) (h * w + l)).map ruD)), x4, y5, y6, y7, y8, x9] (m.set b o') ∧ IsBag o' := by
  have hN1 : 1 ≤ h * s := by obtain ⟨g1, g2, _⟩ := good_nat g; exact Nat.mul_pos (by omega) (by omega)
  have hmem := othersR_mem g
  have hgood := fun q hq => othersR_good (N := h * s) (P := h * w + l) (by omega) hN1 (q := q) hq
  generalize hO : othersR (h * s) (h * w + l) = O at hmem hgood ⊢
  have hO1 : 0 < O.length := List.length_pos_of_mem hmem
  obtain ⟨v1, o1, e1, ho1, b1⟩ := take_ok hb (n := (O.length : Int)) (by omega)
  obtain ⟨v2, o2, e2, ho2, b2⟩ := take_set hb ho1 (n := (O.length : Int)) (by omega)
  obtain ⟨⟨h1, s1, w1, l1⟩, hq1, a1⟩ := atI_mapQ ruD O b1
  obtain ⟨⟨h2, s2, w2, l2⟩, hq2, a2⟩ := atI_mapQ ruD O b2
  obtain ⟨gg1, n1, p1⟩ := hgood _ hq1
  obtain ⟨gg2, n2, p2⟩ := hgood _ hq2
  simp only at gg1 n1 p1 gg2 n2 p2
  simp only [ruD] at a1 a2
  obtain ⟨c11, c12, c13, c14, c15⟩ := good_nat gg1
  obtain ⟨c21, c22, c23, c24, c25⟩ := good_nat gg2
  obtain ⟨c31, c32, c33, c34, c35⟩ := good_nat g
  have hM2 : Cl (m.set b o2) := hc.set (closed_bag _ ho2)
  have hb2 : BagAt (m.set b o2) b := hb.set ho2
  have N1 : (h1 : Int) * s1 ≤ 60 := by rw [← Int.natCast_mul, n1]; omega
  have N2 : (h2 : Int) * s2 ≤ 60 := by rw [← Int.natCast_mul, n2]; omega
  -- what the functions say
  have T := fun M => telling_ok (m := M) gg1 gg2 (by omega) (by omega) (by omega)
  have L12 := fun M => lets_all_ok (m := M) gg1 gg2 (by omega) (by omega) (by omega)
  have L21 := fun M => lets_all_ok (m := M) gg2 gg1 (by omega) (by omega) (by omega)
  have L11 := fun M => lets_all_ok (m := M) gg1 gg1 rfl rfl (by omega)
  have L2r := fun M => lets_all_ok (m := M) gg2 g (by omega) (by omega) (by omega)
  have L1r := fun M => lets_all_ok (m := M) gg1 g (by omega) (by omega) (by omega)
  have cs1 := count_sets_ok hM2 gg1 N1
  have cs2 := count_sets_ok hM2 gg2 N2
  have k1 := last_ok (h := h1) c14 l1
  have k2 := last_ok (h := h2) c24 l2
  have i1 := limN_inc' (h := h1) (l := l1) c14
  have i2 := limN_inc' (h := h2) (l := l2) c24
  have d1 := lim_bnd (h := h1) (l := l1) c14
  have d2 := lim_bnd (h := h2) (l := l2) c24
  have len12 : (limN h1 s1 w1 l1).length = (limN h2 s2 w2 l2).length := by
    rw [limN_len, limN_len]
    have hh1 : h1 * s1 = h1 * (s1 - w1) + h1 * w1 := by rw [← Nat.mul_add]; congr 1; omega
    have hh2 : h2 * s2 = h2 * (s2 - w2) + h2 * w2 := by rw [← Nat.mul_add]; congr 1; omega
    omega
  have len2r : (limN h2 s2 w2 l2).length = (limN h s w l).length := by
    rw [limN_len, limN_len]
    have hh1 : h * s = h * (s - w) + h * w := by rw [← Nat.mul_add]; congr 1; omega
    have hh2 : h2 * s2 = h2 * (s2 - w2) + h2 * w2 := by rw [← Nat.mul_add]; congr 1; omega
    omega
  have S1 := fun (v : Nat) hv => set_at_ok hM2 gg1 N1 (v := v) hv
  have S2 := fun (v : Nat) hv => set_at_ok hM2 gg2 N2 (v := v) hv
  have F2 := fun (v : Nat) hv => set_fit c24 c25 (v := v) hv
  have CQ1 := fun xs hi hbb => can_qualify_ok (m := m.set b o2) gg1 N1 (xs := xs) hi hbb
  have CQ2 := fun xs hi hbb => can_qualify_ok (m := m.set b o2) gg2 N2 (xs := xs) hi hbb
  have su1 := fun M => sure_rank_ok (m := M) gg1 (by omega)
  have su2 := fun M => sure_rank_ok (m := M) gg2 (by omega)
  have sl1 := sure_lim gg1
  have sl2 := sure_lim gg2
  have refl1 : covB (limN h1 s1 w1 l1) (limN h1 s1 w1 l1) = true := covB_iff.mpr (PwLe.refl _)
  have fitcov1 : ∀ xs : List Int, xs.length = h1 * w1 + l1 → fitB h1 s1 w1 l1 xs = covB (limN h1 s1 w1 l1) (outN (h1 * s1) xs) := fun xs hx => by
    unfold fitB
    rw [cov_meet, decide_eq_true hx, Bool.true_and]
  have fitcov2 : ∀ xs : List Int, xs.length = h2 * w2 + l2 → fitB h2 s2 w2 l2 xs = covB (limN h2 s2 w2 l2) (outN (h2 * s2) xs) := fun xs hx => by
    unfold fitB
    rw [cov_meet, decide_eq_true hx, Bool.true_and]
  rw [n1] at cs1 k1 d1 S1 fitcov1 sl1 CQ1 T
  rw [n2] at cs2 k2 d2 S2 fitcov2 sl2 CQ2 F2
  have trans := fun (z1 : covB (limN h1 s1 w1 l1) (limN h2 s2 w2 l2) = true) (z2 : covB (limN h2 s2 w2 l2) (limN h s w l) = true) => covB_iff.mpr ((covB_iff.mp z1).trans (covB_iff.mp z2) (by omega))
  have anti := fun (z1 : covB (limN h1 s1 w1 l1) (limN h2 s2 w2 l2) = true) (z2 : covB (limN h2 s2 w2 l2) (limN h1 s1 w1 l1) = true) => (covB_iff.mp z1).anti (covB_iff.mp z2) (by omega)
  have hout2 : (outN (h * s) (limN h2 s2 w2 l2)).length = h1 * w1 + l1 := by
    have := outN_len (inc_nodup i2) d2
    rw [limN_len] at this
    have hh2 : h2 * s2 = h2 * (s2 - w2) + h2 * w2 := by rw [← Nat.mul_add]; congr 1; omega
    omega
  have ob2 : ∀ x ∈ outN (h * s) (limN h2 s2 w2 l2), 1 ≤ x ∧ x ≤ ((h * s : Nat) : Int) := fun x hx => (outN_mem.mp hx).1
  generalize hA : limN h1 s1 w1 l1 = A at *
  generalize hB : limN h2 s2 w2 l2 = B at *
  generalize hC : limN h s w l = Cc at *
  generalize hR : h * s = R at *
  have wle : wayN B R R 0 ≤ 2 ^ 60 := Nat.le_trans (wayN_le B R R 0) (Nat.pow_le_pow_right (by omega) hN)
  obtain ⟨nv, o3, e3, ho3, b3⟩ := far_set hb ho2 (n := ((wayN B R R 0 : Nat) : Int)) (by omega) (by
    have : ((wayN B R R 0 : Nat) : Int) ≤ ((2 ^ 60 : Nat) : Int) := by omega
    exact Int.lt_of_le_of_lt this (by decide))
  obtain ⟨v, rfl⟩ : ∃ v : Nat, nv = v := ⟨nv.toNat, by omega⟩
  have hv : v < wayN B R R 0 := by omega
  have hM3 : Cl (m.set b o3) := hc.set (closed_bag _ ho3)
  have S3 := set_at_ok hM3 gg2 N2 (v := v) (by rw [hB, n2]; exact hv)
  rw [hB, n2] at S3
  obtain ⟨f1, f2, f3, f4⟩ := F2 v hv
  have CQ3 := can_qualify_ok (m := m.set b o3) gg1 N1 f1 (by rw [n1]; exact f2)
  have tN : isNon (tellD A B R) = covB A B := by
    unfold tellD
    cases hc : covB A B <;> rfl
  refine ⟨some (RU h1 s1 w1 l1), some (RU h2 s2 w2 l2), some (tellD A B R), some (.int (v : Int)), o3, ?_, ho3⟩
  have ln : ∀ M, bltop .len [.lst (O.map ruD)] M = .ok (.int (O.length : Int)) M := fun M => by rw [l_len, lenop_lst, List.length_map]
  show evSs Φ [_, _, _, _, _, _, _, _] _ _ = _
  rw [y_cons, y_par]
  simp only [x_ix, x_call, x_cons, x_nil, x_blt, x_var, look_zero, look_succ, Res.bind_ok, ln, e1, e2, ixop_lst, a1, a2, okO_some, Res.toS_ok, List.set, SRes.bind_nx]
  rw [set_step (d := tellD A B R) (M' := m.set b o2) (by simp only [x_call, x_cons, x_nil, x_var, look_zero, look_succ, Res.bind_ok, T])]
  simp only [List.set]
  rw [no_step (M' := m.set b o2) (by
    rw [or_2 (M' := m.set b o2) (by simp only [x_cmp, x_call, x_cons, x_nil, x_var, look_zero, look_succ, Res.bind_ok, L12, x_non, c_isN, tN, c_ne, eqv_bl, decide_true, Option.map_some, Bool.not_true, okB_yes])]
    simp only [x_not, x_call, x_cons, x_nil, x_var, look_zero, look_succ, Res.bind_ok, L11, refl1, blOf_bl, Bool.not_true])]
  have step3 : ∀ (a c : List S), evSs Φ a [x0, some (.ref b), some (RU h s w l), some (.lst (O.map ruD)), x4, some (RU h1 s1 w1 l1), some (RU h2 s2 w2 l2), some (tellD A B R), x8, x9] (m.set b o2) = .nx [x0, some (.ref b), some (RU h s w l), some (.lst (O.map ruD)), x4, some (RU h1 s1 w1 l1), some (RU h2 s2 w2 l2), some (tellD A B R), x8, x9] (m.set b o2) ∨ covB A B = true →
      (covB A B = true → evSs Φ c [x0, some (.ref b), some (RU h s w l), some (.lst (O.map ruD)), x4, some (RU h1 s1 w1 l1), some (RU h2 s2 w2 l2), some (tellD A B R), x8, x9] (m.set b o2) = .nx [x0, some (.ref b), some (RU h s w l), some (.lst (O.map ruD)), x4, some (RU h1 s1 w1 l1), some (RU h2 s2 w2 l2), some (tellD A B R), x8, x9] (m.set b o2)) →
      evS Φ (.ite (.cmp .notN (.var 7) (.non)) a c) [x0, some (.ref b), some (RU h s w l), some (.lst (O.map ruD)), x4, some (RU h1 s1 w1 l1), some (RU h2 s2 w2 l2), some (tellD A B R), x8, x9] (m.set b o2) = .nx [x0, some (.ref b), some (RU h s w l), some (.lst (O.map ruD)), x4, some (RU h1 s1 w1 l1), some (RU h2 s2 w2 l2), some (tellD A B R), x8, x9] (m.set b o2) := fun a c ha hcc => by
    cases hcov : covB A B with
    | true =>
      rw [hcov] at tN
      rw [ite_no (M' := m.set b o2) (by simp only [x_cmp, x_var, x_non, look_zero, look_succ, Res.bind_ok, c_notN, tN, Bool.not_true])]
      exact hcc hcov
    | false =>
      rw [hcov] at tN
      rw [ite_yes (M' := m.set b o2) (by simp only [x_cmp, x_var, x_non, look_zero, look_succ, Res.bind_ok, c_notN, tN, Bool.not_false])]
      exact ha.resolve_right (by rw [hcov]; simp)
  rw [y_cons, step3, SRes.bind_nx]
  rotate_left
  · -- a telling set
    cases hcov : covB A B with
    | true => exact .inr rfl
    | false =>
      refine .inl ?_
      have tD : tellD A B R = TI (outN R B) := by unfold tellD; rw [hcov]; rfl
      have q2 := CQ2 (outN R B) (outN_inc _ _) ob2
      rw [fitcov2 _ (by rw [hout2]; omega), out_out i2 d2, show covB B B = true from covB_iff.mpr (PwLe.refl _)] at q2
      have q1 := CQ1 (outN R B) (outN_inc _ _) ob2
      rw [fitcov1 _ hout2, out_out i2 d2, hcov] at q1
      rw [tD]
      rw [no_step (M' := m.set b o2) (by
        rw [or_2 (M' := m.set b o2) (by simp only [x_cmp, x_call, x_cons, x_nil, x_var, look_zero, look_succ, Res.bind_ok, q2, x_bl, c_notB, decide_true, Bool.not_true])]
        simp only [x_cmp, x_call, x_cons, x_nil, x_var, look_zero, look_succ, Res.bind_ok, q1, x_bl, c_notB, decide_true, Bool.not_true]), y_nil]
  · intro hcov
    have pw := covB_iff.mp hcov
    have wa := way_anti pw len12 R R 0
    have lx : HT.lexLt (outN R A) (outN R B) = false := lex_ge (out_pw i1 i2 d1 d2 len12 pw) (by
      have o1 := outN_len (inc_nodup i1) d1
      have o2 := outN_len (inc_nodup i2) d2
      omega)
    have ss : ¬ sureI h2 s2 w2 l2 < sureI h1 s1 w1 l1 := by
      rw [sl1, sl2]
      cases A with
      | nil =>
        cases B with
        | nil => simp
        | cons y B => simp at len12
      | cons x A =>
        cases B with
        | nil => simp at len12
        | cons y B =>
          have := pw 0 x y rfl rfl
          simp only
          omega
    have wl1 : ((wayN A R R 0 : Nat) : Int) - 1 = ((wayN A R R 0 - 1 : Nat) : Int) := by omega
    have wl2 : ((wayN B R R 0 : Nat) : Int) - 1 = ((wayN B R R 0 - 1 : Nat) : Int) := by omega
    have z1 := S1 (wayN A R R 0 - 1) (by omega)
    have z2 := S2 (wayN B R R 0 - 1) (by omega)
    rw [k1.2] at z1
    rw [k2.2] at z2
    have cw : ¬ ((wayN A R R 0 : Nat) : Int) < ((wayN B R R 0 : Nat) : Int) := by omega
    rw [no_step (M' := m.set b o2) (by
      rw [or_2 (M' := m.set b o2) (by simp only [x_cmp, x_call, x_cons, x_nil, x_var, look_zero, look_succ, Res.bind_ok, su1, su2, c_gt, ss, decide_false])]
      simp only [x_cmp, x_call, x_cons, x_nil, x_var, look_zero, look_succ, Res.bind_ok, cs1, cs2, c_lt, cw, decide_false])]
    rw [no_step (M' := m.set b o2) (by
      simp only [x_cmp, x_call, x_cons, x_nil, x_var, x_bin, x_int, look_zero, look_succ, Res.bind_ok, cs1, cs2, b_sub, wl1, wl2, z1, z2, ltop_ints, lx]), y_nil]
  rw [no_step (M' := m.set b o2) (by
    cases z2 : covB B Cc with
    | false => exact and_no3 (by simp only [x_call, x_cons, x_nil, x_var, look_zero, look_succ, Res.bind_ok, L2r, z2])
    | true =>
      rw [and_3 (M' := m.set b o2) (by simp only [x_call, x_cons, x_nil, x_var, look_zero, look_succ, Res.bind_ok, L2r, z2])]
      cases z1 : covB A B with
      | false => exact and_no1 (by simp only [x_call, x_cons, x_nil, x_var, look_zero, look_succ, Res.bind_ok, L12, z1])
      | true =>
        rw [and_2 (M' := m.set b o2) (by simp only [x_call, x_cons, x_nil, x_var, look_zero, look_succ, Res.bind_ok, L12, z1])]
        have z3 := trans z1 z2
        simp only [x_not, x_call, x_cons, x_nil, x_var, look_zero, look_succ, Res.bind_ok, L1r, z3, blOf_bl, Bool.not_true])]
  rw [no_step (M' := m.set b o2) (by
    cases z1 : covB A B with
    | false => exact and_no3 (by simp only [x_call, x_cons, x_nil, x_var, look_zero, look_succ, Res.bind_ok, L12, z1])
    | true =>
      rw [and_3 (M' := m.set b o2) (by simp only [x_call, x_cons, x_nil, x_var, look_zero, look_succ, Res.bind_ok, L12, z1])]
      cases z2 : covB B A with
      | false => exact and_no1 (by simp only [x_call, x_cons, x_nil, x_var, look_zero, look_succ, Res.bind_ok, L21, z2])
      | true =>
        rw [and_2 (M' := m.set b o2) (by simp only [x_call, x_cons, x_nil, x_var, look_zero, look_succ, Res.bind_ok, L21, z2])]
        have z3 := anti z1 z2
        rw [z3] at cs1
        simp only [x_cmp, x_call, x_cons, x_nil, x_var, look_zero, look_succ, Res.bind_ok, cs1, cs2, c_ne, eqv_int, decide_true, Option.map_some, Bool.not_true, okB_yes])]
  rw [set_step (d := .int (v : Int)) (M' := m.set b o3) (by simp only [x_call, x_cons, x_nil, x_var, look_zero, look_succ, Res.bind_ok, cs2, e3])]
  simp only [List.set]
  rw [no_step (M' := m.set b o3) (by
    cases z1 : covB A B with
    | false => 
      rw [z1] at tN
      exact and_no1 (by simp only [x_cmp, x_var, x_non, look_zero, look_succ, Res.bind_ok, c_isN, tN])
    | true =>
      rw [z1] at tN
      rw [and_2 (M' := m.set b o3) (by simp only [x_cmp, x_var, x_non, look_zero, look_succ, Res.bind_ok, c_isN, tN])]
      have q : fitB h1 s1 w1 l1 (setF B R R v 0) = true := by
        rw [fitcov1 _ (by rw [f3]; omega)]
        exact covB_iff.mpr ((covB_iff.mp z1).trans f4 (by omega))
      rw [q] at CQ3
      simp only [x_not, x_call, x_cons, x_nil, x_var, look_zero, look_succ, Res.bind_ok, S3, CQ3, blOf_bl, Bool.not_true]), y_nil]
theorem turn_k17 (hb : BagAt m b) (hc : Cl m) (x0 x2 x3 x4 x5 x6 x7 x8 x9 : Option D) :
    ∃ (y2 y3 y4 y5 y6 y7 y8 y9 : Option D) (o' : Mob), evSs Φ f_law_k17_b2 [x0, some (.ref b), x2, x3, x4, x5, x6, x7, x8, x9] m = .nx [x0, some (.ref b), y2, y3, y4, y5, y6, y7, y8, y9] (m.set b o') ∧ IsBag o' := by
  obtain ⟨h, s, w, l, o1, e1, ho1, hp, hN⟩ := rule_ok hb (most := 60) (by omega)
  obtain ⟨p1, p2⟩ := small_parts (n := 60) hp.1 hp.2.1 hN
  have g := rule_good hp (by omega) (by omega)
  obtain ⟨g1, g2, g3, g4, g5⟩ := hp
  have hNn : h * s ≤ 60 := by
    have : ((h * s : Nat) : Int) ≤ 60 := by rw [Int.natCast_mul]; exact hN
    omega
  have hN1 : 1 ≤ h * s := Nat.mul_pos (by omega) (by omega)
  have hh : h * s = h * (s - w) + h * w := by rw [← Nat.mul_add]; congr 1; omega
  have hw1 : 1 ≤ h * w := Nat.mul_pos (by omega) (by omega)
  have k1 : ∀ M, binop .mul (.int (h : Int)) (.int (s : Int)) M = .ok (.int ((h * s : Nat) : Int)) M := fun M => by rw [Int.natCast_mul]; exact b_mul (.inl ⟨by omega, by omega⟩)
  have pl := fun M => places_ok (m := M) g (by omega)
  rw [places_nat] at pl
  have hc1 : Cl (m.set b o1) := hc.set (closed_bag _ ho1)
  have oR := others_R_ok hc1 (h * s) (h * w + l) (by omega) (by omega)
  have hmem := othersR_mem g
  have tru : treeD 1 (ruD (h, s, w, l)) = true := by simp [ruD, treeD]
  have trl : ((othersR (h * s) (h * w + l)).map ruD).all (treeD 1) = true := by
    rw [List.all_map, List.all_eq_true]
    intro q _
    simp [ruD, treeD]
  obtain ⟨bb, mb, hbb⟩ := memb_tree (by omega) tru trl rfl (m.set b o1)
  rw [hbb.mpr (List.mem_map_of_mem hmem)] at mb
  have mb' : memb (RU h s w l) (.lst ((othersR (h * s) (h * w + l)).map ruD)) (m.set b o1) = some true := mb
  have b1 := hb.set ho1
  -- six turns
  obtain ⟨ρ2, m2, e2, y4, y5, y6, y7, y8, o2, ho2, rfl, rfl⟩ := forL_idx (body := evSs Φ f_law_k17_b1) (t := .nm 4) D.int (rg 0 6)
    (fun i ρ m' => ∃ y4 y5 y6 y7 y8 o2, IsBag o2 ∧ ρ = [x0, some (.ref b), some (RU h s w l), some (.lst ((othersR (h * s) (h * w + l)).map ruD)), y4, y5, y6, y7, y8, x9] ∧ m' = m.set b o2) (fun i x ρ m' hx ⟨y4, y5, y6, y7, y8, o2, ho2, e0, em⟩ => by
      subst e0 em
      obtain ⟨z5, z6, z7, z8, o3, e3, ho3⟩ := turn_b1_k17 (hb.set ho2) (hc.set (closed_bag _ ho2)) g hNn x0 (some (.int x)) y5 y6 y7 y8 x9
      rw [List.set_set] at e3
      exact ⟨_, _, _, rfl, e3, some (.int x), z5, z6, z7, z8, o3, ho3, rfl, rfl⟩)
    (ρ := [x0, some (.ref b), some (RU h s w l), some (.lst ((othersR (h * s) (h * w + l)).map ruD)), x4, x5, x6, x7, x8, x9]) (m := m.set b o1) ⟨x4, x5, x6, x7, x8, o1, ho1, rfl, rfl⟩
  have gp : GoodR (1 : Nat) ((h * s : Nat) : Int) ((h * w + l : Nat) : Int) (0 : Nat) := rule_good (a := 1) (s := h * s) (w := h * w + l) (l := 0) ⟨by omega, by omega, by omega, by omega, by omega⟩ (by omega) (by omega)
  have La := fun M => lets_all_ok (m := M) g gp (by omega) (by omega) (by omega)
  have pc : covB (limN h s w l) (limN 1 (h * s) (h * w + l) 0) = true := covB_iff.mpr (plain_cov g4 (by omega) g5)
  refine ⟨some (RU h s w l), some (.lst ((othersR (h * s) (h * w + l)).map ruD)), y4, y5, y6, y7, y8, some (RU (1 : Nat) ((h * s : Nat) : Int) ((h * w + l : Nat) : Int) (0 : Nat)), o2, ?_, ho2⟩
  show evSs Φ [_, _, _, _, _, _] _ _ = _
  rw [set_step (d := RU h s w l) (M' := m.set b o1) (by simp only [x_call, x_cons, x_nil, x_var, x_int, look_zero, look_succ, Res.bind_ok, e1])]
  simp only [List.set]
  rw [set_step (d := .lst ((othersR (h * s) (h * w + l)).map ruD)) (M' := m.set b o1) (by simp only [x_call, x_cons, x_nil, x_var, x_int, x_bin, x_ix, ixop_tup, at0, at1, okO_some, k1, look_zero, look_succ, Res.bind_ok, pl, oR])]
  simp only [List.set]
  rw [no_step (M' := m.set b o1) (by simp only [x_cmp, x_var, look_zero, look_succ, Res.bind_ok, c_notin, mb', Option.map_some, Bool.not_true, okB_yes])]
  have it : itsOf .rng1 (evL Φ [.int 6] [x0, some (.ref b), some (RU h s w l), some (.lst ((othersR (h * s) (h * w + l)).map ruD)), x4, x5, x6, x7, x8, x9] (m.set b o1)) = .ok ((rg 0 6).map .int) (m.set b o1) := by
    simp only [x_cons, x_nil, x_int, Res.bind_ok]
    rw [its_rng1 _ (by omega), rngD_rg]; rfl
  rw [y_cons, y_for, it, Res.toS_ok, e2, SRes.bind_nx]
  rw [set_step (d := RU (1 : Nat) ((h * s : Nat) : Int) ((h * w + l : Nat) : Int) (0 : Nat)) (M' := m.set b o2) (by
    simp only [x_tup, x_cons, x_nil, x_int, x_bin, x_ix, x_call, x_var, ixop_tup, at0, at1, okO_some, k1, look_zero, look_succ, Res.bind_ok, pl, List.length_cons, List.length_nil, Nat.zero_add, Nat.reduceAdd, lim4, if_true]
    rfl)]
  simp only [List.set]
  rw [no_step (M' := m.set b o2) (by
    have h100 : ((h * s : Nat) : Int) ≤ 100 := by omega
    rw [and_2 (M' := m.set b o2) (by simp only [x_cmp, x_bin, x_ix, x_var, x_int, ixop_tup, at0, at1, okO_some, k1, look_zero, look_succ, Res.bind_ok, c_le, h100, decide_true])]
    simp only [x_not, x_call, x_cons, x_nil, x_var, look_zero, look_succ, Res.bind_ok, La, pc, blOf_bl, Bool.not_true]), y_nil]
end
theorem pure_k17 : ∀ ns : List Int, ns.length ≤ 63 → ∃ m, tower tw 107 [.scr ns] [] = .ok (.bl true) m := fun ns _ => by
  obtain ⟨n, m0, eb, hb⟩ := bags_ok ns
  obtain ⟨ρ2, m2, e1, x1, x2, x3, x4, x5, x6, x7, x8, x9, rfl, hb2⟩ := forL_keep (body := evSs Φ f_law_k17_b2) (t := .nm 1) (fun b : Nat => D.ref b)
    (fun ρ m => ∃ x1 x2 x3 x4 x5 x6 x7 x8 x9 : Option D, ρ = [some (.scr ns), x1, x2, x3, x4, x5, x6, x7, x8, x9] ∧ Bags m n) (List.range n)
    [some (.scr ns), none, none, none, none, none, none, none, none, none] m0
    (fun b ρ m hx ⟨x1, x2, x3, x4, x5, x6, x7, x8, x9, e0, hb⟩ => by
      subst e0
      rw [List.mem_range] at hx
      obtain ⟨y2, y3, y4, y5, y6, y7, y8, y9, o', et, ho⟩ := turn_k17 (hb.bag b hx) hb.cl (some (.scr ns)) x2 x3 x4 x5 x6 x7 x8 x9
      refine ⟨_, _, _, rfl, et, some (.ref b), y2, y3, y4, y5, y6, y7, y8, y9, rfl, ?_⟩
      exact ⟨hb.cl.set (closed_bag _ ho), by have := hb.le; simp; omega, fun c hc => (hb.bag c hc).set' (hb.bag b hx) ho⟩)
    ⟨none, none, none, none, none, none, none, none, none, rfl, hb⟩
  have gA : GoodR (4 : Nat) (3 : Nat) (1 : Nat) (2 : Nat) := by decide
  have gB : GoodR (2 : Nat) (6 : Nat) (2 : Nat) (2 : Nat) := by decide
  have q1 := lets_all_ok (m := m2) gA gB (by decide) (by decide) (by decide)
  have q2 := lets_all_ok (m := m2) gB gA (by decide) (by decide) (by decide)
  rw [show covB (limN 4 3 1 2) (limN 2 6 2 2) = true by decide] at q1
  rw [show covB (limN 2 6 2 2) (limN 4 3 1 2) = false by decide] at q2
  refine ⟨m2.take 0, ?_⟩
  show Φ 107 [.scr ns] [] = _
  rw [R_law_k17]
  have : evSs Φ f_law_k17.body [some (.scr ns), none, none, none, none, none, none, none, none, none] [] = .rt (.bl true) m2 := by
    show evSs Φ [_, _, _] _ _ = _
    rw [y_cons, y_for]
    simp only [x_cons, x_nil, x_call, x_var, look_zero, x_int, Res.bind_ok, eb, its_lst, Res.toS_ok, e1, SRes.bind_nx]
    have q1' : Φ 103 [.tup [.int 4, .int 3, .int 1, .int 2], .tup [.int 2, .int 6, .int 2, .int 2]] m2 = .ok (.bl true) m2 := q1
    have q2' : Φ 103 [.tup [.int 2, .int 6, .int 2, .int 2], .tup [.int 4, .int 3, .int 1, .int 2]] m2 = .ok (.bl false) m2 := q2
    simp only [y_cons, y_nil, y_ite, y_ret, x_cmp, x_call, x_tup, x_cons, x_nil, x_int, x_bl, Res.bind_ok, List.length_cons, List.length_nil, Nat.zero_add, Nat.reduceAdd, lim4, if_true, q1', q2', c_notB, c_isB, decide_true, Bool.not_true, Res.toS_ok, blOf_bl, Bool.false_eq_true, if_false, SRes.bind_nx, SRes.bind_rt]
  rw [this, out_rt]
  rfl
end HD
end

section
set_option Elab.async false
set_option linter.all false
set_option maxRecDepth 100000
set_option maxHeartbeats 1000000
/-! M8: a draw of a set that fits. -/
namespace HD
/-- the first that is out -/
def firstO (n : Nat) (xs : List Int) : Int := match outN n xs with
  | [] => (n : Int) + 1
  | a :: _ => a
def luckW (n l : Nat) (xs : List Int) : List Int := xs.filter fun x => decide (firstO n xs - l ≤ x ∧ x < firstO n xs)
def othW (n l : Nat) (xs : List Int) : List Int := luckW n l xs ++ outN n xs
def choW (n l : Nat) (xs : List Int) : List Int := xs.filter fun x => !decide (x ∈ othW n l xs)
def rowW (s w : Nat) (cho oth : List Int) (i : Nat) : List Int := (cho.drop (i * w)).take w ++ (oth.drop (i * (s - w))).take (s - w)
def toldF (h s w l : Nat) (xs : List Int) : List (List Int) := (List.range h).map fun i => sortI (rowW s w (choW (h * s) l xs) (othW (h * s) l xs) i)
section
variable {h s w l : Nat} {xs : List Int}
theorem ceil_hi {f i : Nat} (hf : 0 < f) : i + 1 ≤ (i * f + 1 + f - 1) / f := by
  rw [Nat.le_div_iff_mul_le hf, Nat.add_mul, Nat.one_mul]; omega
theorem bnd_ge (hw : w < s) {i j : Nat} (hj : i * (s - w) ≤ j) : j + 1 + w * (i + 1) ≤ bndN s w (j + 1) := by
  unfold bndN
  have : i + 1 ≤ (j + 1 + (s - w) - 1) / (s - w) := by
    rw [Nat.le_div_iff_mul_le (by omega), Nat.add_mul, Nat.one_mul]; omega
  have := Nat.mul_le_mul_left w this
  omega
theorem bnd_gap (hw : w < s) {a b : Nat} (h : a ≤ b) : bndN s w a + (b - a) ≤ bndN s w b := by
  unfold bndN
  have : (a + (s - w) - 1) / (s - w) ≤ (b + (s - w) - 1) / (s - w) := Nat.div_le_div_right (by omega)
  have := Nat.mul_le_mul_left w this
  omega
structure FitW (h s w l : Nat) (xs : List Int) : Prop where
  inc : Inc xs
  bnd : ∀ x ∈ xs, 1 ≤ x ∧ x ≤ ((h * s : Nat) : Int)
  hw : w ≤ s
  hl : l ≤ h * (s - w)
  fit : fitB h s w l xs = true
theorem parts_eq (hw : w ≤ s) : h * s = h * (s - w) + h * w := by rw [← Nat.mul_add]; congr 1; omega
theorem FitW.len (f : FitW h s w l xs) : xs.length = h * w + l := by
  have := f.fit
  unfold fitB at this
  rw [Bool.and_eq_true, decide_eq_true_eq] at this
  exact this.1
theorem FitW.out_len (f : FitW h s w l xs) : (outN (h * s) xs).length = h * (s - w) - l := by
  have h1 := outN_len (inc_nodup f.inc) f.bnd
  have h2 := f.len
  have h3 := parts_eq (h := h) f.hw
  have := f.hl
  omega
theorem FitW.out_ge (f : FitW h s w l xs) {i : Nat} {x : Int} (hx : (outN (h * s) xs)[i]? = some x) : ((bndN s w (l + 1 + i) : Nat) : Int) ≤ x := by
  have := f.fit
  unfold fitB at this
  rw [Bool.and_eq_true, meetB_iff] at this
  have hi := (List.getElem?_eq_some_iff.mp hx).1
  rw [f.out_len] at hi
  exact this.2 i x _ hx (limN_get i hi)
theorem FitW.lt (f : FitW h s w l xs) {i : Nat} {x : Int} (hx : (outN (h * s) xs)[i]? = some x) : w < s := by
  have hi := (List.getElem?_eq_some_iff.mp hx).1
  rw [f.out_len] at hi
  rcases Nat.lt_or_eq_of_le f.hw with z | z
  · exact z
  · rw [z] at hi; simp at hi
/-- all below the first that is out are in -/
theorem below_in {n : Nat} {x : Int} (h1 : 1 ≤ x) (h2 : x < firstO n xs) : x ∈ xs := by
  have key : ∀ y ∈ outN n xs, firstO n xs ≤ y := by
    intro y hy
    unfold firstO
    cases e : outN n xs with
    | nil => rw [e] at hy; simp at hy
    | cons a r =>
      have hi := outN_inc n xs
      rw [e] at hi hy
      rcases List.mem_cons.mp hy with z | z
      · rw [z]; exact Int.le_refl _
      · have := (List.pairwise_cons.mp hi).1 y z
        show a ≤ y
        omega
  by_cases hx : x ∈ xs
  · exact hx
  · have hn : x ≤ n := by
      unfold firstO at h2
      split at h2
      · omega
      · rename_i a r e
        have : a ∈ outN n xs := by rw [e]; exact List.mem_cons_self
        have := (outN_mem.mp this).1
        omega
    have := key x (outN_mem.mpr ⟨⟨h1, hn⟩, hx⟩)
    omega
theorem FitW.first_ge (f : FitW h s w l xs) {j : Nat} (hj : j < l) : w < s ∧ ((bndN s w (j + 1) : Nat) : Int) ≤ firstO (h * s) xs - l + j := by
  have hws : w < s := by
    rcases Nat.lt_or_eq_of_le f.hw with z | z
    · exact z
    · have := f.hl
      rw [z] at this; simp at this; omega
  refine ⟨hws, ?_⟩
  unfold firstO
  split
  · rename_i e
    have h1 := f.out_len
    rw [e] at h1
    have h2 := f.hl
    have h3 := parts_eq (h := h) f.hw
    have el : l = h * (s - w) := by simp at h1; omega
    have : bndN s w (j + 1) ≤ h * s + 1 - l + j := by
      refine bnd_le hws (k := h) ?_ ?_
      · omega
      · omega
    omega
  · rename_i a r e
    have h1 := f.out_ge (i := 0) (x := a) (by rw [e]; rfl)
    have h2 := bnd_gap hws (show j + 1 ≤ l + 1 + 0 by omega)
    omega
theorem FitW.first_pos (f : FitW h s w l xs) : 1 ≤ firstO (h * s) xs - l := by
  by_cases hl : l = 0
  · unfold firstO
    split
    · omega
    · rename_i a r e
      have : a ∈ outN (h * s) xs := by rw [e]; exact List.mem_cons_self
      have := (outN_mem.mp this).1
      omega
  · obtain ⟨hws, h1⟩ := f.first_ge (j := 0) (by omega)
    have : 1 ≤ bndN s w (0 + 1) := by unfold bndN; omega
    omega
theorem FitW.first_le (f : FitW h s w l xs) : firstO (h * s) xs ≤ ((h * s : Nat) : Int) + 1 := by
  unfold firstO
  split
  · omega
  · rename_i a r e
    have : a ∈ outN (h * s) xs := by rw [e]; exact List.mem_cons_self
    have := (outN_mem.mp this).1
    omega
theorem FitW.luck (f : FitW h s w l xs) : luckW (h * s) l xs = rg (firstO (h * s) xs - l) l := by
  refine fit_congr (f.inc.sublist List.filter_sublist) (rg_inc _ _) fun x => ?_
  unfold luckW
  rw [List.mem_filter, rg_mem, decide_eq_true_eq]
  have := f.first_pos
  constructor
  · rintro ⟨_, h1⟩; omega
  · intro h1; exact ⟨below_in (n := h * s) (by omega) (by omega), by omega⟩
theorem FitW.oth_inc (f : FitW h s w l xs) : Inc (othW (h * s) l xs) := by
  unfold othW Inc
  rw [f.luck, List.pairwise_append]
  refine ⟨rg_inc _ _, outN_inc _ _, fun a ha b hb => ?_⟩
  have h1 := (rg_mem.mp ha).2
  by_cases hlt : b < firstO (h * s) xs
  · exact absurd (below_in (outN_mem.mp hb).1.1 hlt) (outN_mem.mp hb).2
  · omega
theorem FitW.oth_len (f : FitW h s w l xs) : (othW (h * s) l xs).length = h * (s - w) := by
  unfold othW
  rw [f.luck, List.length_append, rg_length, f.out_len]
  have := f.hl
  omega
theorem FitW.oth_get (f : FitW h s w l xs) {j : Nat} {y : Int} (hy : (othW (h * s) l xs)[j]? = some y) : w < s ∧ ((bndN s w (j + 1) : Nat) : Int) ≤ y := by
  unfold othW at hy
  rw [f.luck] at hy
  by_cases hj : j < l
  · rw [List.getElem?_append_left (by rw [rg_length]; exact hj), rg_get hj] at hy
    cases hy
    exact f.first_ge hj
  · rw [List.getElem?_append_right (by rw [rg_length]; omega), rg_length] at hy
    have h1 := f.out_ge hy
    rw [show l + 1 + (j - l) = j + 1 by omega] at h1
    exact ⟨f.lt hy, h1⟩
theorem FitW.oth_bnd (f : FitW h s w l xs) {y : Int} (hy : y ∈ othW (h * s) l xs) : 1 ≤ y ∧ y ≤ ((h * s : Nat) : Int) := by
  unfold othW at hy
  rw [f.luck] at hy
  rcases List.mem_append.mp hy with z | z
  · have := rg_mem.mp z
    have := f.first_pos
    have := f.first_le
    omega
  · exact (outN_mem.mp z).1
theorem FitW.cho_inc (f : FitW h s w l xs) : Inc (choW (h * s) l xs) := f.inc.sublist List.filter_sublist
theorem FitW.cho_mem {x : Int} : x ∈ choW (h * s) l xs ↔ x ∈ xs ∧ x ∉ othW (h * s) l xs := by
  unfold choW
  rw [List.mem_filter]
  simp
theorem FitW.pm (f : FitW h s w l xs) : (choW (h * s) l xs ++ othW (h * s) l xs).Perm (rg 1 (h * s)) := by
  refine (List.perm_ext_iff_of_nodup ?_ (inc_nodup (rg_inc _ _))).mpr fun x => ?_
  · rw [List.nodup_append]
    refine ⟨inc_nodup f.cho_inc, inc_nodup f.oth_inc, fun a ha b hb e => ?_⟩
    subst e
    exact (FitW.cho_mem.mp ha).2 hb
  · rw [List.mem_append, FitW.cho_mem, rg_mem]
    constructor
    · rintro (⟨z, _⟩ | z)
      · have := f.bnd x z; omega
      · have := f.oth_bnd z; omega
    · intro hx
      by_cases ho : x ∈ othW (h * s) l xs
      · exact .inr ho
      · refine .inl ⟨?_, ho⟩
        by_cases hi : x ∈ xs
        · exact hi
        · exact absurd (List.mem_append_right _ (outN_mem.mpr ⟨by omega, hi⟩)) ho
theorem FitW.cho_len (f : FitW h s w l xs) : (choW (h * s) l xs).length = h * w := by
  have h1 := f.pm.length_eq
  rw [List.length_append, f.oth_len, rg_length] at h1
  have := parts_eq (h := h) f.hw
  omega
/-- a heat's row rises already -/
theorem FitW.row_inc (f : FitW h s w l xs) {i : Nat} (hi : i < h) : Inc (rowW s w (choW (h * s) l xs) (othW (h * s) l xs) i) := by
  unfold rowW Inc
  rw [List.pairwise_append]
  refine ⟨(f.cho_inc.sublist (List.drop_sublist _ _)).sublist (List.take_sublist _ _), (f.oth_inc.sublist (List.drop_sublist _ _)).sublist (List.take_sublist _ _), fun a ha b hb => ?_⟩
  have hb1 : b ∈ (othW (h * s) l xs).drop (i * (s - w)) := List.mem_of_mem_take hb
  obtain ⟨j, hj⟩ := List.mem_iff_getElem?.mp hb1
  rw [List.getElem?_drop] at hj
  obtain ⟨hws, h1⟩ := f.oth_get hj
  have h2 := bnd_ge hws (i := i) (j := i * (s - w) + j) (by omega)
  have cb := cnt_at f.oth_inc hj
  have bb := f.oth_bnd (List.mem_of_getElem? hj)
  have hsum : cnt b (choW (h * s) l xs) + cnt b (othW (h * s) l xs) = min (b - 1).toNat (h * s) := by
    rw [← cnt_append, cnt_perm f.pm, cnt_rg]
  have ha1 : a ∈ (choW (h * s) l xs).take (i * w + w) := by
    have : (List.take w ((choW (h * s) l xs).drop (i * w))) = ((choW (h * s) l xs).take (i * w + w)).drop (i * w) := by
      rw [List.drop_take]; congr 1; omega
    rw [this] at ha
    exact List.mem_of_mem_drop ha
  have ham := List.mem_of_mem_take ha1
  have ca := (mem_take f.cho_inc ham _).mp ha1
  by_cases hab : a < b
  · exact hab
  · have hm := cnt_mono (show b ≤ a by omega) (choW (h * s) l xs)
    have e : w * (i + 1) = i * w + w := by rw [Nat.mul_add, Nat.mul_comm w i]; omega
    omega
theorem FitW.row_some (f : FitW h s w l xs) {i : Nat} (hi : i < h) : ((choW (h * s) l xs).drop (i * w)).length ≥ w ∧ ((othW (h * s) l xs).drop (i * (s - w))).length ≥ s - w := by
  rw [List.length_drop, List.length_drop, f.cho_len, f.oth_len]
  have h1 : (i + 1) * w ≤ h * w := Nat.mul_le_mul_right w hi
  have h2 : (i + 1) * (s - w) ≤ h * (s - w) := Nat.mul_le_mul_right _ hi
  rw [Nat.add_mul, Nat.one_mul] at h1 h2
  omega
theorem inc_sort {a : List Int} (h : Inc a) : sortI a = a := (sortI_unique (List.Perm.refl _) (h.imp fun h => by omega)).symm
theorem FitW.heats (f : FitW h s w l xs) : toldF h s w l xs = (List.range h).map fun i => rowW s w (choW (h * s) l xs) (othW (h * s) l xs) i := by
  unfold toldF
  exact List.map_congr_left fun i hi => inc_sort (f.row_inc (List.mem_range.mp hi))
theorem FitW.somes (f : FitW h s w l xs) : someF w (toldF h s w l xs) = choW (h * s) l xs := by
  rw [f.heats]
  unfold someF
  rw [List.flatMap_map]
  have e : (List.range h).flatMap (fun i => (rowW s w (choW (h * s) l xs) (othW (h * s) l xs) i).take w) = (List.range h).flatMap (fun i => ((choW (h * s) l xs).drop (i * w)).take w) := by
    rw [List.flatMap_def, List.flatMap_def]
    congr 1
    refine List.map_congr_left fun i hi => ?_
    have := (f.row_some (List.mem_range.mp hi)).1
    unfold rowW
    rw [List.take_append_of_le_length (by rw [List.length_take]; omega), List.take_of_length_le (by rw [List.length_take]; omega)]
  rw [e, List.flatMap_def, chunk_flat, List.take_of_length_le (by rw [f.cho_len]; omega)]
theorem FitW.others (f : FitW h s w l xs) : othersF w (toldF h s w l xs) = othW (h * s) l xs := by
  rw [f.heats]
  unfold othersF
  rw [List.flatMap_map]
  have e : (List.range h).flatMap (fun i => (rowW s w (choW (h * s) l xs) (othW (h * s) l xs) i).drop w) = (List.range h).flatMap (fun i => ((othW (h * s) l xs).drop (i * (s - w))).take (s - w)) := by
    rw [List.flatMap_def, List.flatMap_def]
    congr 1
    refine List.map_congr_left fun i hi => ?_
    have := (f.row_some (List.mem_range.mp hi)).1
    unfold rowW
    rw [List.drop_append_of_le_length (by rw [List.length_take]; omega), List.drop_of_length_le (by rw [List.length_take]; omega), List.nil_append]
  rw [e, List.flatMap_def, chunk_flat, List.take_of_length_le (by rw [f.oth_len]; omega)]
theorem FitW.draw (f : FitW h s w l xs) : Draw h s (toldF h s w l xs) where
  len := by unfold toldF; simp
  each x hx := by
    rw [f.heats] at hx
    obtain ⟨i, hi, rfl⟩ := List.mem_map.mp hx
    have hi := List.mem_range.mp hi
    have h1 := f.row_some hi
    have := f.hw
    refine ⟨?_, f.row_inc hi⟩
    unfold rowW
    rw [List.length_append, List.length_take, List.length_take]
    omega
  perm := by
    have h1 := split_perm w (toldF h s w l xs)
    rw [f.somes, f.others] at h1
    exact h1.symm.trans f.pm
theorem FitW.told_on (f : FitW h s w l xs) : onF w l (toldF h s w l xs) = xs := by
  refine fit_congr (f.draw.on_inc w l) f.inc fun x => ?_
  rw [f.draw.on_mem, f.somes, f.others, FitW.cho_mem]
  have hlk : x ∈ othW (h * s) l xs → (cnt x (othW (h * s) l xs) < l ↔ x ∈ luckW (h * s) l xs) := fun hx => by
    have ll : (luckW (h * s) l xs).length = l := by rw [f.luck, rg_length]
    have e : (othW (h * s) l xs).take l = luckW (h * s) l xs := by
      unfold othW
      rw [List.take_append_of_le_length (by omega), List.take_of_length_le (by omega)]
    rw [← mem_take f.oth_inc hx l, e]
  constructor
  · rintro (⟨z, _⟩ | ⟨z, c⟩)
    · exact z
    · exact (List.mem_filter.mp ((hlk z).mp c)).1
  · intro hx
    by_cases ho : x ∈ othW (h * s) l xs
    · refine .inr ⟨ho, (hlk ho).mpr ?_⟩
      unfold othW at ho
      rcases List.mem_append.mp ho with z | z
      · exact z
      · exact absurd hx (outN_mem.mp z).2
    · exact .inl ⟨hx, ho⟩
/-- the law's own word of it -/
def keptB (n s w f : Nat) (xs : List Int) : Bool := ((outN n xs).zipIdx).all fun p => decide (((bndN s w (f + p.2) : Nat) : Int) ≤ p.1)
theorem kept_iff {n f : Nat} : keptB n s w f xs = true ↔ ∀ (i : Nat) (x : Int), (outN n xs)[i]? = some x → ((bndN s w (f + i) : Nat) : Int) ≤ x := by
  unfold keptB
  rw [List.all_eq_true]
  constructor
  · intro h i x hx
    have := h (x, i) (List.mem_zipIdx_iff_getElem?.mpr hx)
    simpa using this
  · intro h p hp
    exact decide_eq_true (h p.2 p.1 (List.mem_zipIdx_iff_getElem?.mp hp))
theorem kept_meet (hl : (outN (h * s) xs).length ≤ h * (s - w) - l) : meetB (outN (h * s) xs) (limN h s w l) = keptB (h * s) s w (l + 1) xs := by
  rw [Bool.eq_iff_iff, meetB_iff, kept_iff]
  constructor
  · intro k i x hx
    have hi := (List.getElem?_eq_some_iff.mp hx).1
    exact k i x _ hx (limN_get i (by omega))
  · intro k i x y hx hy
    have hi := (List.getElem?_eq_some_iff.mp hx).1
    rw [limN_get i (by omega)] at hy
    cases hy
    exact k i x hx
end
end HD
end

section
set_option Elab.async false
set_option linter.all false
set_option maxRecDepth 100000
set_option maxHeartbeats 2000000
/-! B30: draws recognized; who goes on; a draw of a set. -/
namespace HD
open L2 (atI ixN)
theorem x_comp2 {P : Phi} {ρ : Env} {m : Mem} (elt : C) (t : Tg) (k : ItK) (args ifs : List C) (t2 : Tg) (k2 : ItK) (args2 ifs2 : List C) (own own2 : List Nat) : ev P (.comp2 elt t k args ifs t2 k2 args2 ifs2 own own2) ρ m = (itsOf k (evL P args ρ m)).bind fun its m1 =>
      (compL2 (fun ρ m => (evT P ifs ρ m).calm) (fun ρ m => ((itsOf k2 (evL P args2 ρ m)).calm).bind fun its2 m1 =>
            compL (fun ρ m => (evT P ifs2 ρ m).calm) (fun ρ m => (ev P elt ρ m).calm) t2 (wipeE ρ own2) its2 m1) t (wipeE ρ own) its m1).calm.bind fun l m2 => if l.length ≤ LIM then .ok (.lst l) m2 else .stk := by rw [ev]
theorem compL2_map {α : Type} {tst : Env → Mem → Res Bool} {inn : Env → Mem → Res (List D)} {t : Tg} {ρ : Env} {m : Mem} (g : α → D) (f : α → List D) : ∀ xs : List α, (∀ x ∈ xs, ∃ ρ', bindTg t (g x) ρ = some ρ' ∧ tst ρ' m = .ok true m ∧ inn ρ' m = .ok (f x) m) →
    compL2 tst inn t ρ (xs.map g) m = .ok (xs.flatMap f) m
  | [], _ => rfl
  | x :: xs, h => by
    obtain ⟨ρ', h1, h2, h3⟩ := h x List.mem_cons_self
    have ih := compL2_map g f xs fun y hy => h y (List.mem_cons_of_mem _ hy)
    rw [List.map_cons, compL2, h1]
    simp only [h2, Res.bind_ok, if_true, h3, ih, List.flatMap_cons]
@[simp] theorem l_lenset (l : List Int) (m : Mem) (h : l.Nodup ∧ l.length ≤ 4000) : bltop .lenset [.lst (l.map .int)] m = .ok (.int l.length) m := by
  show lensetop _ m = _
  unfold lensetop
  rw [intsAt_lst]
  exact if_pos h
section
variable {m : Mem} {h s w l : Nat} {hs : List (List Int)}
theorem Draw.heat_in (d : Draw h s hs) {x : List Int} (hx : x ∈ hs) {r : Int} (hr : r ∈ x) : 1 ≤ r ∧ r ≤ ((h * s : Nat) : Int) := by
  have : r ∈ hs.flatten := List.mem_flatten.mpr ⟨x, hx, hr⟩
  have := rg_mem.mp (d.perm.mem_iff.mp this)
  omega
theorem draw_fits_ok (g : GoodR h s w l) (hN : h * s ≤ 4000) (d : Draw h s hs) : Φ 4 [RU h s w l, TT hs] m = .ok (.bl true) m := by
  have gb := g.b
  have k1 : binop .mul (.int (h : Int)) (.int (s : Int)) m = .ok (.int ((h * s : Nat) : Int)) m := by rw [Int.natCast_mul]; exact b_mul (.inl ⟨by omega, by omega⟩)
  have c1 : ev Φ f_draw_fits_c1 [some (RU h s w l), some (TT hs), none, none] m = .ok (.lst (hs.map fun _ => .bl true)) m := by
    rw [f_draw_fits_c1, comp_evalA (fun x : List Int => D.tup (x.map .int)) (fun _ => .bl true) hs ?_ (by rw [d.len]; omega) fun x hx => ⟨[some (RU h s w l), some (TT hs), some (TI x), none], rfl, ?_⟩]
    · simp only [x_cons, x_nil, x_var, look_zero, look_succ, Res.bind_ok, its_tup]
    · have hx1 := d.each x hx
      have e : decide ((x.length : Int) = (s : Int)) = true := by rw [hx1.1]; simp
      simp only [x_bop, x_b2, x_b1, x_call, x_cons, x_nil, x_var, x_int, x_bin, x_ix, look_zero, look_succ, Res.bind_ok, ixop_tup, at0, at1, okO_some, k1, is_rising_ok hx1.2 (fun r hr => d.heat_in hx hr) (show x.length ≤ 1000000 by omega), blOf_bl, if_true, x_cmp, x_blt, l_len, lenop_tup, List.length_map, c_eq, eqv_int, e, okB_yes]
  have c2 : ev Φ f_draw_fits_c2 [some (RU h s w l), some (TT hs), none, none] m = .ok (LI hs.flatten) m := by
    rw [f_draw_fits_c2, x_comp2]
    have i1 : itsOf .seq (evL Φ [.var 1] [some (RU h s w l), some (TT hs), none, none] m) = .ok (hs.map fun x : List Int => D.tup (x.map .int)) m := by
      simp only [x_cons, x_nil, x_var, look_zero, look_succ, Res.bind_ok, its_tup]
    rw [i1, Res.bind_ok, compL2_map (fun x : List Int => D.tup (x.map .int)) (fun x => x.map .int) hs fun x hx => ⟨[some (RU h s w l), some (TT hs), some (TI x), none], rfl, by rw [x_t0]; rfl, ?_⟩]
    · have e : hs.flatMap (fun x => x.map D.int) = hs.flatten.map D.int := by rw [List.flatMap_def, List.map_flatten]
      rw [e, Res.calm_ok, Res.bind_ok, List.length_map, d.len_flat, if_pos (by unfold LIM; omega)]
    · have i2 : itsOf .seq (evL Φ [.var 2] [some (RU h s w l), some (TT hs), some (TI x), none] m) = .ok (x.map .int) m := by
        simp only [x_cons, x_nil, x_var, look_zero, look_succ, Res.bind_ok, its_tup]
      rw [i2, Res.calm_ok, Res.bind_ok]
      exact compL_all D.int D.int x fun y hy => ⟨[some (RU h s w l), some (TT hs), some (TI x), some (.int y)], rfl, by rw [x_t0]; rfl, by simp⟩
  have nd : hs.flatten.Nodup ∧ hs.flatten.length ≤ 4000 := ⟨d.nodup, by rw [d.len_flat]; omega⟩
  have e1 : decide ((hs.length : Int) = (h : Int)) = true := by rw [d.len]; simp
  have e2 : decide ((hs.flatten.length : Int) = ((h * s : Nat) : Int)) = true := by rw [d.len_flat]; simp
  have al : (hs.map fun _ => D.bl true) = (hs.map fun _ : List Int => .bl ((fun _ : List Int => true) ([] : List Int))) := rfl
  have at_ : (hs.all fun _ => true) = true := by simp
  rw [R_draw_fits]
  simp only [f_draw_fits, y_cons]
  rw [ite_no (M' := m) (by
    rw [or_2 (M' := m) (by simp only [x_not, x_blt, x_cons, x_nil, x_var, look_zero, look_succ, Res.bind_ok, l_isTuple, isop_tup, isTupD_tup, blOf_bl, Bool.not_true])]
    simp only [x_cmp, x_blt, x_cons, x_nil, x_var, x_ix, x_int, look_zero, look_succ, Res.bind_ok, l_len, lenop_tup, List.length_map, ixop_tup, at0, okO_some, c_ne, eqv_int, e1, Option.map_some, Bool.not_true, okB_yes])]
  rw [y_nil, SRes.bind_nx]
  rw [no_step (M' := m) (by
    have := l_allF (m := m) hs (fun _ => true)
    simp only [x_not, x_blt, x_cons, x_nil, c1, Res.bind_ok, this, at_, blOf_bl, Bool.not_true])]
  simp only [y_cons, y_ret, x_cmp, x_blt, x_cons, x_nil, c2, Res.bind_ok, l_lenset _ _ nd, x_bin, x_ix, x_var, x_int, look_zero, look_succ, ixop_tup, at0, at1, okO_some, k1, c_eq, eqv_int, e2, okB_yes, Res.toS_ok, SRes.bind_rt, out_rt, shut_ok]
theorem is_draw_ok (g : GoodR h s w l) (hN : (h : Int) * s ≤ 4000) (d : Draw h s hs) : Φ 5 [RU h s w l, TT hs] m = .ok (.bl true) m := by
  have hn : h * s ≤ 4000 := by
    have : ((h * s : Nat) : Int) ≤ 4000 := by rw [Int.natCast_mul]; exact hN
    omega
  rw [R_is_draw]
  simp only [f_is_draw, y_cons, y_drop, x_call, x_cons, x_nil, x_var, look_zero, look_succ, Res.bind_ok, need_rule_ok g (show (h : Int) * s ≤ 10000 by omega), Res.toS_ok, SRes.bind_nx, y_ret, draw_fits_ok g hn d, SRes.bind_rt, out_rt, shut_ok]
theorem going_on_ok (g : GoodR h s w l) (hN : (h : Int) * s ≤ 4000) (d : Draw h s hs) : Φ 24 [RU h s w l, TT hs] m = .ok (.tup [TI (sortI (someF w hs)), TI (luckyF w l hs)]) m := by
  have hn : h * s ≤ 4000 := by
    have : ((h * s : Nat) : Int) ≤ 4000 := by rw [Int.natCast_mul]; exact hN
    omega
  have hb : hs.flatten.length ≤ 1000000 := by rw [d.len_flat]; omega
  let I : Nat → Env → Mem → Prop := fun i ρ m' => ∃ x, ρ = [some (RU h s w l), some (TT hs), some (LI (someF w (hs.take i))), some (LI (othersF w (hs.take i))), x] ∧ m = m'
  obtain ⟨ρ2, m2, e1, x2, rfl, rfl⟩ := forL_idx (body := evSs Φ f_going_on_b1) (t := .nm 4) (fun x : List Int => D.tup (x.map .int)) hs I (fun i x ρ m' hx ⟨x0, e0, em⟩ => by
    subst e0 em
    have t1 : hs.take (i + 1) = hs.take i ++ [x] := by rw [List.take_succ, hx]; rfl
    have b1 : (someF w (hs.take (i + 1))).length ≤ 1000000 := Nat.le_trans (flat_len (f := fun x => x.take w) (fun x => by simp; omega) _) (Nat.le_trans (flat_take hs _) hb)
    have b2 : (othersF w (hs.take (i + 1))).length ≤ 1000000 := Nat.le_trans (flat_len (f := fun x => x.drop w) (fun x => by simp) _) (Nat.le_trans (flat_take hs _) hb)
    have s1 : someF w (hs.take (i + 1)) = someF w (hs.take i) ++ x.take w := by rw [t1]; simp [someF]
    have s2 : othersF w (hs.take (i + 1)) = othersF w (hs.take i) ++ x.drop w := by rw [t1]; simp [othersF]
    rw [s1, List.length_append] at b1
    rw [s2, List.length_append] at b2
    refine ⟨_, _, _, rfl, ?_, some (.tup (x.map .int)), rfl, rfl⟩
    rw [s1, s2]
    have c1 : ((someF w (hs.take i)).map D.int).length + ((x.take w).map D.int).length ≤ LIM := by rw [List.length_map, List.length_map]; unfold LIM; omega
    have c2 : ((othersF w (hs.take i)).map D.int).length + ((x.drop w).map D.int).length ≤ LIM := by rw [List.length_map, List.length_map]; unfold LIM; omega
    have z1 := cutI_take x (j := (w : Int)) (by omega)
    have z2 := cutI_drop x (i := (w : Int)) (by omega)
    rw [Int.toNat_natCast] at z1 z2
    simp only [f_going_on_b1, y_cons, y_par, x_bin, x_var, look_zero, look_succ, List.set, Res.bind_ok, x_blt, x_cons, x_nil, x_sl, x_none, x_some, x_ix, x_int, ixop_tup, at2, okO_some, intO_int, slop_tup, z1, z2, l_list, listop_tup, b_addL, c1, c2, if_true, Res.toS_ok, SRes.bind_nx, y_nil, List.map_append, LI]) ⟨none, rfl, rfl⟩
  have e1 : forL (evSs Φ f_going_on_b1) (.nm 4) (hs.map fun x => D.tup (x.map .int)) [some (RU h s w l), some (TT hs), some (.lst []), some (.lst []), none] m = _ := e1
  rw [List.take_length] at e1
  have z3 := cutI_take (sortI (othersF w hs)) (j := (l : Int)) (by omega)
  rw [Int.toNat_natCast] at z3
  have h0 : (0 : Nat) ≤ LIM := Nat.zero_le _
  rw [R_going_on]
  simp only [f_going_on, y_cons, y_drop, x_call, x_cons, x_nil, x_var, look_zero, look_succ, Res.bind_ok, need_rule_ok g (show (h : Int) * s ≤ 10000 by omega), Res.toS_ok, SRes.bind_nx]
  rw [ite_no (M' := m) (by simp only [x_not, x_call, x_cons, x_nil, x_var, look_zero, look_succ, Res.bind_ok, draw_fits_ok g hn d, blOf_bl, Bool.not_true]), y_nil, SRes.bind_nx]
  simp only [y_cons, y_par, x_lst, x_nil, Res.bind_ok, List.length_nil, h0, if_true, Res.toS_ok, List.set, SRes.bind_nx, y_for, x_cons, x_var, look_zero, look_succ, its_tup, e1, y_ret, x_tup, x_blt, l_sorted, l_tuple, tupleop_lst, x_sl, x_none, x_some, x_ix, x_int, ixop_tup, at3, okO_some, intO_int, slop_lst, z3, List.length_cons, Nat.zero_add, Nat.reduceAdd, lim2, SRes.bind_rt, out_rt, shut_ok]
  rfl
end
end HD
end

section
set_option Elab.async false
set_option linter.all false
set_option maxRecDepth 100000
set_option maxHeartbeats 2000000
/-! B31: a draw of a set; the law's own word. -/
namespace HD
open L2 (atI ixN)
section
variable {m : Mem} {h s w l : Nat} {xs : List Int}
theorem fiveT (a b c d : D) (x0 x1 y2 y3 y4 y5 x6 x7 x8 x9 x10 x11 x12 : Option D) : bindTg (.tp [2, 3, 4, 5]) (.tup [a, b, c, d]) [x0, x1, y2, y3, y4, y5, x6, x7, x8, x9, x10, x11, x12] = some [x0, x1, some a, some b, some c, some d, x6, x7, x8, x9, x10, x11, x12] := rfl
theorem bool_split (a b : Bool) : (if a = true then (Res.ok (D.bl b) m) else .ok (.bl false) m) = .ok (.bl (a && b)) m := by cases a <;> rfl
theorem first_ok {n : Nat} {ρ : Env} {M : Mem} (h6 : look ρ 6 M = .ok (LI (outN n xs)) M) (hk : ev Φ (.bin .add (.bin .mul (.var 2) (.var 3)) (.int 1)) ρ M = .ok (.int ((n : Int) + 1)) M) :
    ev Φ (.ifx (.cmp .ne (.var 6) (.lst [])) (.ix (.var 6) (.int 0)) (.bin .add (.bin .mul (.var 2) (.var 3)) (.int 1))) ρ M = .ok (.int (firstO n xs)) M := by
  have h0 : (0 : Nat) ≤ LIM := Nat.zero_le _
  unfold firstO
  rw [x_ifx]
  cases e : outN n xs with
  | nil =>
    rw [e] at h6
    have q : ev Φ (.cmp .ne (.var 6) (.lst [])) ρ M = .ok (.bl false) M := by
      have := eqv_ints0 (m := M) []
      simp only [x_cmp, x_var, h6, Res.bind_ok, x_lst, x_nil, List.length_nil, h0, if_true, c_ne, this, decide_true, Option.map_some, Bool.not_true, okB_yes]
    rw [q, Res.bind_ok, blOf_bl, Res.bind_ok, if_neg (by simp), hk]
  | cons a r =>
    rw [e] at h6
    have q : ev Φ (.cmp .ne (.var 6) (.lst [])) ρ M = .ok (.bl true) M := by
      have := eqv_ints0 (m := M) (a :: r)
      have d0 : decide (a :: r = ([] : List Int)) = false := by simp
      simp only [x_cmp, x_var, h6, Res.bind_ok, x_lst, x_nil, List.length_nil, h0, if_true, c_ne, this, d0, Option.map_some, Bool.not_false, okB_yes]
    rw [q, Res.bind_ok, blOf_bl, Res.bind_ok, if_pos rfl]
    simp only [x_ix, x_var, h6, Res.bind_ok, x_int, ixop_lst, List.map_cons, at0, okO_some]
theorem draw_with_ok (g : GoodR h s w l) (hN : (h : Int) * s ≤ 60) (hx : Inc xs) (hb : ∀ x ∈ xs, 1 ≤ x ∧ x ≤ ((h * s : Nat) : Int)) : Φ 68 [RU h s w l, TI xs] m = .ok (if fitB h s w l xs = true then TT (toldF h s w l xs) else .non) m := by
  have gb := g.b
  have hn : h * s ≤ 60 := by
    have : ((h * s : Nat) : Int) ≤ 60 := by rw [Int.natCast_mul]; exact hN
    omega
  have h0 : (0 : Nat) ≤ LIM := Nat.zero_le _
  have nr : ∀ M, Φ 203 [RU h s w l, .int 60] M = .ok .non M := fun M => need_rule2_ok g hN
  have ns : ∀ M, Φ 56 [RU h s w l, TI xs] M = .ok .non M := fun M => need_set_ok g hx hb
  have sf : ∀ M, Φ 61 [RU h s w l, TI xs] M = .ok (.bl (fitB h s w l xs)) M := fun M => set_fits_ok g xs
  rw [R_draw_with]
  simp only [f_draw_with, y_cons, y_drop, x_call, x_cons, x_nil, x_var, x_int, look_zero, look_succ, Res.bind_ok, nr, ns, Res.toS_ok, SRes.bind_nx]
  by_cases hf : fitB h s w l xs = true
  · have f : FitW h s w l xs := ⟨hx, hb, (good_nat g).2.2.2.1, (good_nat g).2.2.2.2, hf⟩
    rw [hf] at sf
    have k1 : ∀ M, binop .mul (.int (h : Int)) (.int (s : Int)) M = .ok (.int ((h * s : Nat) : Int)) M := fun M => by rw [Int.natCast_mul]; exact b_mul (.inl ⟨by omega, by omega⟩)
    have xl := inc_len hx hb
    have ll : (luckW (h * s) l xs).length ≤ 60 := by unfold luckW; exact Nat.le_trans (List.length_filter_le _ _) (by omega)
    have ol := out_le (h * s) xs
    have oth : ∀ M, Φ 58 [RU h s w l, TI xs] M = .ok (LI (outN (h * s) xs)) M := fun M => others_tok g xs
    rw [if_pos hf]
    rw [ite_no (M' := m) (by simp only [x_not, x_call, x_cons, x_nil, x_var, look_zero, look_succ, Res.bind_ok, sf, blOf_bl, Bool.not_true]), y_nil, SRes.bind_nx]
    simp only [y_cons, y_unp, x_var, look_zero, look_succ, Res.toS_ok, RU, fiveT, okE_some, SRes.bind_nx]
    rw [set_ok (M' := m) (d := LI (outN (h * s) xs)) (by simp only [x_call, x_cons, x_nil, x_var, look_zero, look_succ, Res.bind_ok]; exact oth m), SRes.bind_nx]
    simp only [List.set]
    rw [set_step (M' := m) (d := .int (firstO (h * s) xs)) (first_ok (xs := xs) (n := h * s) (by simp only [look_zero, look_succ]) (by simp only [x_bin, x_var, x_int, look_zero, look_succ, Res.bind_ok, k1, b_add]))]
    simp only [List.set]
    have c1 : ∀ x8 x9 x10 x11 x12 : Option D, ev Φ f_draw_with_c1 [some (RU h s w l), some (TI xs), some (.int h), some (.int s), some (.int w), some (.int l), some (LI (outN (h * s) xs)), some (.int (firstO (h * s) xs)), x8, x9, x10, x11, x12] m = .ok (LI (luckW (h * s) l xs)) m := fun x8 x9 x10 x11 x12 => by
      rw [f_draw_with_c1, comp_eval D.int (fun x => decide (firstO (h * s) xs - l ≤ x ∧ x < firstO (h * s) xs)) D.int xs ?_ (by omega) fun x hx => ⟨[some (RU h s w l), some (TI xs), some (.int h), some (.int s), some (.int w), some (.int l), some (LI (outN (h * s) xs)), some (.int (firstO (h * s) xs)), some (.int x), x9, x10, x11, x12], rfl, ?_, fun _ => by simp only [x_var, look_zero, look_succ]⟩]
      · rfl
      · simp only [x_cons, x_nil, x_var, look_zero, look_succ, Res.bind_ok, its_tup]
      · by_cases q : firstO (h * s) xs - (l : Int) ≤ x
        · by_cases q2 : x < firstO (h * s) xs <;> simp [q, q2]
        · simp [q]
    have ad : ∀ M, binop .add (LI (luckW (h * s) l xs)) (LI (outN (h * s) xs)) M = .ok (LI (othW (h * s) l xs)) M := fun M => addLI _ _ (by omega)
    rw [set_step (M' := m) (d := LI (othW (h * s) l xs)) (by rw [x_bin]; erw [c1]; simp only [Res.bind_ok, x_var, look_zero, look_succ, ad])]
    simp only [List.set]
    have c2 : ∀ x8 x9 x10 x11 x12 : Option D, ev Φ f_draw_with_c2 [some (RU h s w l), some (TI xs), some (.int h), some (.int s), some (.int w), some (.int l), some (LI (othW (h * s) l xs)), some (.int (firstO (h * s) xs)), x8, x9, x10, x11, x12] m = .ok (LI (choW (h * s) l xs)) m := fun x8 x9 x10 x11 x12 => by
      rw [f_draw_with_c2, comp_eval D.int (fun x => !decide (x ∈ othW (h * s) l xs)) D.int xs ?_ (by omega) fun x hx => ⟨[some (RU h s w l), some (TI xs), some (.int h), some (.int s), some (.int w), some (.int l), some (LI (othW (h * s) l xs)), some (.int (firstO (h * s) xs)), some (.int x), x9, x10, x11, x12], rfl, ?_, fun _ => by simp only [x_var, look_zero, look_succ]⟩]
      · rfl
      · simp only [x_cons, x_nil, x_var, look_zero, look_succ, Res.bind_ok, its_tup]
      · simp only [x_t1, x_t0, x_cmp, x_var, look_zero, look_succ, Res.bind_ok, c_notin, memb_lints, Option.map_some, okB_yes, blOf_bl]
        cases decide (x ∈ othW (h * s) l xs) <;> rfl
    rw [set_step (M' := m) (d := LI (choW (h * s) l xs)) (by erw [c2])]
    simp only [List.set, y_cons, y_set, x_tup, x_nil, Res.bind_ok, List.length_nil, h0, if_true, Res.toS_ok, SRes.bind_nx]
    -- the heats, one by one
    have hsw : ∀ M, binop .sub (.int (s : Int)) (.int (w : Int)) M = .ok (.int ((s - w : Nat) : Int)) M := fun M => by
      rw [b_sub]; congr 2; have := f.hw; omega
    obtain ⟨ρ2, m2, e1, x11, x12, rfl, rfl⟩ := forL_idx (body := evSs Φ f_draw_with_b3) (t := .nm 11) (fun i : Nat => D.int (i : Int)) (List.range h) (fun i ρ m' => ∃ x11 x12, ρ = [some (RU h s w l), some (TI xs), some (.int h), some (.int s), some (.int w), some (.int l), some (LI (othW (h * s) l xs)), some (.int (firstO (h * s) xs)), none, some (LI (choW (h * s) l xs)), some (TT ((toldF h s w l xs).take i)), x11, x12] ∧ m = m')
      (fun i x ρ m' hxi ⟨x11, x12, e0, em⟩ => by
        subst e0 em
        have hi := (List.getElem?_eq_some_iff.mp hxi).1
        rw [List.length_range] at hi
        rw [List.getElem?_range hi] at hxi
        cases hxi
        have p1 : ∀ M, binop .mul (.int (i : Int)) (.int (w : Int)) M = .ok (.int ((i * w : Nat) : Int)) M := fun M => by rw [Int.natCast_mul]; exact b_mul (.inl ⟨by omega, by omega⟩)
        have p2 : ∀ M, binop .mul (.int ((i : Int) + 1)) (.int (w : Int)) M = .ok (.int ((i * w + w : Nat) : Int)) M := fun M => by
          rw [b_mul (.inl ⟨by omega, by omega⟩), Int.add_mul, Int.one_mul, Int.natCast_add, Int.natCast_mul]
        have p3 : ∀ M, binop .mul (.int (i : Int)) (.int ((s - w : Nat) : Int)) M = .ok (.int ((i * (s - w) : Nat) : Int)) M := fun M => by rw [Int.natCast_mul]; exact b_mul (.inl ⟨by omega, by omega⟩)
        have p4 : ∀ M, binop .mul (.int ((i : Int) + 1)) (.int ((s - w : Nat) : Int)) M = .ok (.int ((i * (s - w) + (s - w) : Nat) : Int)) M := fun M => by
          rw [b_mul (.inl ⟨by omega, by omega⟩), Int.add_mul, Int.one_mul, Int.natCast_add, Int.natCast_mul]
        have z1 := cutI_mid (choW (h * s) l xs) (i := ((i * w : Nat) : Int)) (j := ((i * w + w : Nat) : Int)) ⟨by omega, by omega⟩
        have z2 := cutI_mid (othW (h * s) l xs) (i := ((i * (s - w) : Nat) : Int)) (j := ((i * (s - w) + (s - w) : Nat) : Int)) ⟨by omega, by omega⟩
        rw [Int.toNat_natCast, Int.toNat_natCast, Nat.add_sub_cancel_left] at z1 z2
        have rl := f.row_inc hi
        have ad2 : ∀ M, binop .add (LI (((choW (h * s) l xs).drop (i * w)).take w)) (LI (((othW (h * s) l xs).drop (i * (s - w))).take (s - w))) M = .ok (LI (rowW s w (choW (h * s) l xs) (othW (h * s) l xs) i)) M := fun M => addLI _ _ (by rw [List.length_take, List.length_take]; omega)
        have tk : (toldF h s w l xs).take (i + 1) = (toldF h s w l xs).take i ++ [sortI (rowW s w (choW (h * s) l xs) (othW (h * s) l xs) i)] := by
          rw [List.take_succ]
          congr 1
          unfold toldF
          rw [List.getElem?_map, List.getElem?_range hi]; rfl
        have tl : ((toldF h s w l xs).take i).length ≤ 100 := by
          rw [List.length_take, f.draw.len]; omega
        have ad3 : ∀ M, binop .add (TT ((toldF h s w l xs).take i)) (.tup [TI (sortI (rowW s w (choW (h * s) l xs) (othW (h * s) l xs) i))]) M = .ok (TT ((toldF h s w l xs).take (i + 1))) M := fun M => by
          rw [b_addT, if_pos (by rw [List.length_map, List.length_singleton]; unfold LIM; omega), tk, TT, List.map_append]; rfl
        refine ⟨_, _, _, rfl, ?_, some (.int (i : Int)), some (LI (rowW s w (choW (h * s) l xs) (othW (h * s) l xs) i)), rfl, rfl⟩
        simp only [f_draw_with_b3, List.set, y_cons, y_set, x_bin, x_sl, x_some, x_var, x_int, look_zero, look_succ, Res.bind_ok, p1, p2, p3, p4, hsw, b_add, intO_int, slop_lst, z1, z2, ad2, Res.toS_ok, SRes.bind_nx, x_tup, x_cons, x_nil, x_blt, l_sorted, l_tuple, tupleop_lst, List.length_cons, List.length_nil, Nat.zero_add, lim1, if_true, ad3, y_nil]) ⟨none, none, rfl, rfl⟩
    have e1 : forL (evSs Φ f_draw_with_b3) (.nm 11) ((List.range h).map fun i : Nat => D.int (i : Int)) [some (.tup [.int h, .int s, .int w, .int l]), some (TI xs), some (.int h), some (.int s), some (.int w), some (.int l), some (LI (othW (h * s) l xs)), some (.int (firstO (h * s) xs)), none, some (LI (choW (h * s) l xs)), some (.tup []), none, none] m = _ := e1
    have full : (toldF h s w l xs).take (List.range h).length = toldF h s w l xs := by rw [List.length_range, List.take_of_length_le (by rw [f.draw.len]; omega)]
    rw [full] at e1
    have rn : itsOf .rng1 (evL Φ [.var 2] [some (.tup [.int h, .int s, .int w, .int l]), some (TI xs), some (.int h), some (.int s), some (.int w), some (.int l), some (LI (othW (h * s) l xs)), some (.int (firstO (h * s) xs)), none, some (LI (choW (h * s) l xs)), some (.tup []), none, none] m) = .ok ((List.range h).map fun i : Nat => D.int (i : Int)) m := by
      have e0 : rngD 0 h = (List.range h).map fun (i : Nat) => D.int (i : Int) := by simp [rngD]
      rw [← e0]
      simp (disch := omega) only [x_cons, x_nil, x_var, look_zero, look_succ, Res.bind_ok, its_rng1, Int.toNat_natCast]
    rw [y_for, rn, Res.toS_ok, e1, SRes.bind_nx]
    simp only [y_cons, y_ret, x_var, look_zero, look_succ, Res.toS_ok, SRes.bind_rt, out_rt, shut_ok]
  · have hf' : fitB h s w l xs = false := by simpa using hf
    rw [hf'] at sf ⊢
    rw [ite_yes (M' := m) (by simp only [x_not, x_call, x_cons, x_nil, x_var, look_zero, look_succ, Res.bind_ok, sf, blOf_bl, Bool.not_false])]
    simp only [y_cons, y_ret, x_non, Res.toS_ok, SRes.bind_rt, out_rt, shut_ok, Bool.false_eq_true, if_false]
/-! the law's own word -/
theorem law_up_ok (g : GoodR h s w l) (hw : w < s) (n : Nat) : Φ 69 [RU h s w l, .int (n : Int)] m = .ok (.int ((bndN s w n : Nat) : Int)) m := by
  have gb := g.nb
  obtain ⟨q, hq⟩ : ∃ q, q = (n + (s - w) - 1) / (s - w) := ⟨_, rfl⟩
  have hpos : 0 < s - w := by omega
  have h1 : (s - w) * q ≤ n + (s - w) - 1 := by rw [hq]; exact Nat.mul_div_le _ _
  have h2 : n + (s - w) - 1 < (s - w) * q + (s - w) := by
    have := Nat.lt_mul_div_succ (n + (s - w) - 1) hpos
    rw [← hq, Nat.mul_add, Nat.mul_one] at this
    exact this
  have hm : (((s - w) * q : Nat) : Int) = ((s - w : Nat) : Int) * (q : Int) := Int.natCast_mul _ _
  have h3 : (-(n : Int)) / ((s - w : Nat) : Int) = -(q : Int) := by
    refine ((Int.ediv_emod_unique (a := -(n : Int)) (b := ((s - w : Nat) : Int)) (q := -(q : Int)) (r := ((s - w : Nat) : Int) * q - n) (by omega)).mpr ⟨?_, ?_, ?_⟩).1
    · rw [Int.mul_neg]; omega
    · rw [← hm]; omega
    · rw [← hm]; omega
  have e : binop .sub (.int (s : Int)) (.int (w : Int)) m = .ok (.int ((s - w : Nat) : Int)) m := by
    rw [b_sub]; congr 2; omega
  have fd : binop .fdiv (.int (0 - (n : Int))) (.int ((s - w : Nat) : Int)) m = .ok (.int (-(q : Int))) m := by
    rw [b_fdiv ⟨by omega, by omega⟩, Int.zero_sub, h3]
  have mu : binop .mul (.int (w : Int)) (.int (0 - -(q : Int))) m = .ok (.int ((w * q : Nat) : Int)) m := by
    rw [show (0 : Int) - -(q : Int) = q by omega, b_mul (.inl ⟨by omega, by omega⟩), Int.natCast_mul]
  rw [R_law_up]
  simp only [f_law_up, y_cons, y_ret, x_bin, x_ix, x_var, x_int, look_zero, look_succ, Res.bind_ok, ixop_tup, at1, at2, okO_some, b_sub 0, e, fd, mu, b_add, Res.toS_ok, SRes.bind_rt, out_rt, shut_ok]
  unfold bndN
  rw [← hq, Int.natCast_add]
theorem its_enumL (l : List D) (M : Mem) : itsOf .enum (.ok [.lst l] M) = .ok (numbered 0 l) M := (rfl)
theorem numbered_ints (l : List Int) : ∀ k, numbered k (l.map D.int) = (l.zipIdx k).map fun p => .tup [.int (p.2 : Nat), .int p.1] := by
  induction l with
  | nil => intro k; rfl
  | cons x l ih => intro k; rw [List.map_cons, numbered, ih, List.zipIdx_cons, List.map_cons]
theorem kept_ok (g : GoodR h s w l) (hw : w < s) (f : Nat) : Φ 70 [RU h s w l, TI xs, .int (f : Int)] m = .ok (.bl (keptB (h * s) s w f xs)) m := by
  have gb := g.b
  have hq : h * s ≤ 100 * 100 := Nat.mul_le_mul (by omega) (by omega)
  have ol := out_le (h * s) xs
  have k1 : binop .mul (.int (h : Int)) (.int (s : Int)) m = .ok (.int ((h * s : Nat) : Int)) m := by rw [Int.natCast_mul]; exact b_mul (.inl ⟨by omega, by omega⟩)
  have c1 : ev Φ f_law_kept_c1 [some (RU h s w l), some (TI xs), some (.int (f : Int)), none, none, none] m = .ok (LI (outN (h * s) xs)) m := by
    rw [f_law_kept_c1, comp_eval D.int (fun x => !decide (x ∈ xs)) D.int (rg 1 (h * s)) ?_ (by simp; omega) fun x hx => ⟨[some (RU h s w l), some (TI xs), some (.int (f : Int)), none, some (.int x), none], rfl, ?_, fun _ => by simp only [x_var, look_zero, look_succ]⟩]
    · rfl
    · have hm : ((h : Int) * s).toNat = h * s := by rw [← Int.natCast_mul]; rfl
      simp (disch := omega) [rngD_rg, hm]
    · simp only [x_t1, x_t0, x_cmp, x_var, look_zero, look_succ, Res.bind_ok, c_notin, memb_tints, Option.map_some, okB_yes, blOf_bl]
      cases decide (x ∈ xs) <;> rfl
  have step : ∀ (ps : List (Int × Nat)) (x4 x5 : Option D), (∃ y4 y5, forL (evSs Φ f_law_kept_b2) (.tp [5, 4]) (ps.map fun p => .tup [.int (p.2 : Nat), .int p.1]) [some (RU h s w l), some (TI xs), some (.int (f : Int)), some (LI (outN (h * s) xs)), x4, x5] m =
      if (ps.all fun p => decide (((bndN s w (f + p.2) : Nat) : Int) ≤ p.1)) = true then .nx [some (RU h s w l), some (TI xs), some (.int (f : Int)), some (LI (outN (h * s) xs)), y4, y5] m else .rt (.bl false) m) := by
    intro ps
    induction ps with
    | nil => intro x4 x5; exact ⟨x4, x5, rfl⟩
    | cons p ps ih =>
      intro x4 x5
      obtain ⟨y4, y5, e⟩ := ih (some (.int p.1)) (some (.int (p.2 : Nat)))
      have up := law_up_ok (m := m) g hw (f + p.2)
      have e0 : ((f + p.2 : Nat) : Int) = (f : Int) + (p.2 : Nat) := by omega
      rw [e0] at up
      rw [List.map_cons, List.all_cons]
      by_cases c : ((bndN s w (f + p.2) : Nat) : Int) ≤ p.1
      · have c' : ¬ p.1 < ((bndN s w (f + p.2) : Nat) : Int) := by omega
        refine ⟨y4, y5, ?_⟩
        rw [decide_eq_true c, Bool.true_and, ← e]
        rw [forL]
        simp only [bindTg_tp2, List.set]
        rw [show f_law_kept_b2 = [.ite (.cmp .lt (.var 4) (.call 69 [.var 0, .bin .add (.var 2) (.var 5)])) [.ret (.bl false)] []] from rfl]
        rw [no_step (M' := m) (by simp only [x_cmp, x_call, x_cons, x_nil, x_bin, x_var, look_zero, look_succ, Res.bind_ok, b_add, up, c_lt, c', decide_false]), y_nil, SRes.bind_nx]
      · have c' : p.1 < ((bndN s w (f + p.2) : Nat) : Int) := by omega
        refine ⟨y4, y5, ?_⟩
        rw [decide_eq_false c, Bool.false_and, if_neg (by simp)]
        rw [forL]
        simp only [bindTg_tp2, List.set]
        rw [show f_law_kept_b2 = [.ite (.cmp .lt (.var 4) (.call 69 [.var 0, .bin .add (.var 2) (.var 5)])) [.ret (.bl false)] []] from rfl]
        rw [y_cons, ite_yes (M' := m) (by simp only [x_cmp, x_call, x_cons, x_nil, x_bin, x_var, look_zero, look_succ, Res.bind_ok, b_add, up, c_lt, c', decide_true])]
        simp only [y_cons, y_ret, x_bl, Res.toS_ok, SRes.bind_rt]
  obtain ⟨y4, y5, e⟩ := step (outN (h * s) xs).zipIdx none none
  have en : itsOf .enum (evL Φ [.var 3] [some (RU h s w l), some (TI xs), some (.int (f : Int)), some (LI (outN (h * s) xs)), none, none] m) = .ok ((outN (h * s) xs).zipIdx.map fun p => .tup [.int (p.2 : Nat), .int p.1]) m := by
    have e4 : evL Φ [.var 3] [some (RU h s w l), some (TI xs), some (.int (f : Int)), some (LI (outN (h * s) xs)), none, none] m = .ok [LI (outN (h * s) xs)] m := by
      simp only [x_cons, x_nil, x_var, look_zero, look_succ, Res.bind_ok]
    have e5 := numbered_ints (outN (h * s) xs) 0
    exact (congrArg (itsOf .enum) e4).trans ((its_enumL _ m).trans (congrArg (fun z => Res.ok z m) e5))
  rw [R_law_kept]
  simp only [f_law_kept, y_cons, y_set, c1, Res.toS_ok, List.set, SRes.bind_nx]
  rw [y_for, en, Res.toS_ok, e]
  unfold keptB
  split
  · rename_i hh
    rw [hh, SRes.bind_nx]
    simp only [y_cons, y_ret, x_bl, Res.toS_ok, SRes.bind_rt, out_rt, shut_ok]
  · rename_i hh
    rw [SRes.bind_rt, out_rt, shut_ok, Bool.eq_false_iff.mpr hh]
end
end HD
end

section
set_option Elab.async false
set_option linter.all false
set_option maxRecDepth 100000
set_option maxHeartbeats 4000000
/-! B32: law k08. -/
namespace HD
open L2 (atI ixN)
@[simp] theorem eqv_blQ (a b : Bool) (m : Mem) : eqv (.bl a) (.bl b) m = some (decide (a = b)) := by
  simp [eqv, viewPy, toPy, PySem.SeqAt.shaped, PySem.PyData.canLay0, PySem.PyData.depth, PySem.PyData.eqv]
  cases a <;> cases b <;> rfl
theorem l_sortedT (l : List Int) (m : Mem) : bltop .sorted [.tup (l.map .int)] m = .ok (.lst ((sortI l).map .int)) m := by
  show sortedop (.tup (l.map .int)) m = _
  unfold sortedop
  have e1 : intsAt false m (.tup (l.map .int)) = none := by simp [intsAt, seqD]
  have e2 : intsAt true m (.tup (l.map .int)) = some l := by simp [intsAt, seqD, intsOf_ints]
  rw [e1, e2]
theorem addTI {m : Mem} (x y : List Int) (h : x.length + y.length ≤ 1000000) : binop .add (TI x) (TI y) m = .ok (TI (x ++ y)) m := by
  rw [b_addT, List.length_map, List.length_map, if_pos (by unfold LIM; omega)]
  show _ = Res.ok (D.tup ((x ++ y).map .int)) m
  rw [List.map_append]
theorem evSs_app (a c : List S) : ∀ (ρ : Env) (M : Mem), evSs Φ (a ++ c) ρ M = (evSs Φ a ρ M).bind (evSs Φ c) := by
  induction a with
  | nil => intro ρ M; rw [List.nil_append, y_nil]; rfl
  | cons s a ih =>
    intro ρ M
    rw [List.cons_append, y_cons, y_cons]
    cases evS Φ s ρ M with
    | nx ρ1 M1 => exact ih ρ1 M1
    | _ => rfl
theorem ixLI {m : Mem} {l : List Int} {v : Int} (hv : 0 ≤ v ∧ v < l.length) : ∃ x ∈ l, ixop (LI l) (.int v) m = .ok (.int x) m ∧ ixop (TI l) (.int v) m = .ok (.int x) m := by
  have e := List.getElem?_eq_getElem (show v.toNat < l.length by omega)
  refine ⟨_, List.getElem_mem (show v.toNat < l.length by omega), ?_, ?_⟩
  · rw [ixop_lst, atLI hv.1 e, okO_some]
  · rw [ixop_tup, atLI hv.1 e, okO_some]
section
variable {m : Mem} {b : Nat} {o : Mob} {h s w l : Nat}
/-- sets are told right -/
theorem first_k08 (hb : BagAt m b) (hc : Cl m) (g : GoodR h s w l) (hN : (h : Int) * s ≤ 60) (x0 x4 x5 x6 x7 x8 x9 x10 x11 x12 x13 x14 : Option D) :
    ∃ (hs : List (List Int)) (y8 : Option D) (o' : Mob), Draw h s hs ∧ IsBag o' ∧ evSs Φ (f_law_k08_b3.take 7) [x0, some (.ref b), some (RU h s w l), some (LI (rg 1 (h * s))), x4, x5, x6, x7, x8, x9, x10, x11, x12, x13, x14] m =
      .nx [x0, some (.ref b), some (RU h s w l), some (LI (rg 1 (h * s))), x4, some (LI (sortI (someF w hs))), some (LI (luckyF w l hs)), some (TI (onF w l hs)), y8, some (LI (outN (h * s) (onF w l hs))), x10, x11, x12, x13, x14] (m.set b o') := by
  obtain ⟨g1, g2, g3, g4, g5⟩ := good_nat g
  have gb := g.nb
  have hn : h * s ≤ 60 := by
    have : ((h * s : Nat) : Int) ≤ 60 := by rw [Int.natCast_mul]; exact hN
    omega
  obtain ⟨hs, o1, e1, ho1, d⟩ := drawn_set hb ((hb.choose_spec.2)) hc g (by omega)
  have e1 : Φ 17 [.ref b, RU h s w l] m = .ok (TT hs) (m.set b o1) := by
    have := e1
    rw [set_same hb.choose_spec.1] at this
    exact this
  have th : ∀ M, Φ 37 [RU h s w l, TT hs] M = .ok (.tup [LI (sortI (someF w hs)), LI (luckyF w l hs)]) M := fun M => through_nat d (by omega)
  have sl : (sortI (someF w hs)).length ≤ 60 := by
    rw [(sortI_perm _).length_eq, len_some (fun x hx => (d.each x hx).1) g4, d.len]
    have := Nat.mul_le_mul_left h g4
    omega
  have ll : (luckyF w l hs).length ≤ 60 := by
    unfold luckyF
    have : h * (s - w) ≤ h * s := Nat.mul_le_mul_left _ (by omega)
    rw [List.length_take]; omega
  have ad1 : ∀ M, binop .add (LI (sortI (someF w hs))) (LI (luckyF w l hs)) M = .ok (LI (sortI (someF w hs) ++ luckyF w l hs)) M := fun M => addLI _ _ (by omega)
  have on_eq : sortI (sortI (someF w hs) ++ luckyF w l hs) = onF w l hs := (rfl)
  have oi := d.on_inc w l
  have ob := fun r hr => d.on_bnd w l (r := r) hr
  have fi := d.fit (l := l) g4 g5
  have cq : ∀ M, Φ 63 [RU h s w l, TI (onF w l hs)] M = .ok (.bl true) M := fun M => by rw [can_qualify_ok g hN oi ob, fi]
  have di := d.fitD (w := w) g4
  have i2 := sort_inc (d.nds w).1
  have b2 : ∀ r ∈ sortI (someF w hs), 1 ≤ r ∧ r ≤ ((h * s : Nat) : Int) := fun r hr => (d.mem w).mp (.inl ((sortI_perm _).mem_iff.mp hr))
  have cd : ∀ M, Φ 62 [RU h s w l, TI (sortI (someF w hs))] M = .ok (.bl true) M := fun M => by rw [can_direct_ok g hN i2 b2, di]
  have f : FitW h s w l (onF w l hs) := ⟨oi, ob, g4, g5, fi⟩
  have dw : ∀ M, Φ 68 [RU h s w l, TI (onF w l hs)] M = .ok (TT (toldF h s w l (onF w l hs))) M := fun M => by rw [draw_with_ok g hN oi ob, if_pos fi]
  have isd : ∀ M, Φ 5 [RU h s w l, TT (toldF h s w l (onF w l hs))] M = .ok (.bl true) M := fun M => is_draw_ok g (by omega) f.draw
  have go : ∀ M, Φ 24 [RU h s w l, TT (toldF h s w l (onF w l hs))] M = .ok (.tup [TI (sortI (someF w (toldF h s w l (onF w l hs)))), TI (luckyF w l (toldF h s w l (onF w l hs)))]) M := fun M => going_on_ok g (by omega) f.draw
  have tl1 : (sortI (someF w (toldF h s w l (onF w l hs)))).length ≤ 60 := by
    rw [(sortI_perm _).length_eq, len_some (fun x hx => (f.draw.each x hx).1) g4, f.draw.len]
    have := Nat.mul_le_mul_left h g4
    omega
  have tl2 : (luckyF w l (toldF h s w l (onF w l hs))).length ≤ 60 := by
    unfold luckyF
    have : h * (s - w) ≤ h * s := Nat.mul_le_mul_left _ (by omega)
    rw [List.length_take]; omega
  have ad2 : ∀ M, binop .add (TI (sortI (someF w (toldF h s w l (onF w l hs))))) (TI (luckyF w l (toldF h s w l (onF w l hs)))) M = .ok (TI (sortI (someF w (toldF h s w l (onF w l hs))) ++ luckyF w l (toldF h s w l (onF w l hs)))) M := fun M => addTI _ _ (by omega)
  have back : sortI (sortI (someF w (toldF h s w l (onF w l hs))) ++ luckyF w l (toldF h s w l (onF w l hs))) = onF w l hs := f.told_on
  have c1 : ∀ (x4 x5 x6 x8 x9 x10 x11 x12 x13 x14 : Option D) M, ev Φ f_law_k08_c1 [x0, some (.ref b), some (RU h s w l), some (LI (rg 1 (h * s))), x4, x5, x6, some (TI (onF w l hs)), x8, x9, x10, x11, x12, x13, x14] M = .ok (LI (outN (h * s) (onF w l hs))) M := fun x4 x5 x6 x8 x9 x10 x11 x12 x13 x14 M => by
    rw [f_law_k08_c1, comp_eval D.int (fun x => !decide (x ∈ onF w l hs)) D.int (rg 1 (h * s)) ?_ (by simp; omega) fun x hx => ⟨[x0, some (.ref b), some (RU h s w l), some (LI (rg 1 (h * s))), x4, x5, x6, some (TI (onF w l hs)), x8, x9, some (.int x), x11, x12, x13, x14], rfl, ?_, fun _ => by simp only [x_var, look_zero, look_succ]⟩]
    · rfl
    · simp only [x_cons, x_nil, x_var, look_zero, look_succ, Res.bind_ok, its_lst]
    · simp only [x_t1, x_t0, x_cmp, x_var, look_zero, look_succ, Res.bind_ok, c_notin, memb_tints, Option.map_some, okB_yes, blOf_bl]
      cases decide (x ∈ onF w l hs) <;> rfl
  refine ⟨hs, some (TT (toldF h s w l (onF w l hs))), o1, d, ho1, ?_⟩
  show evSs Φ [_, _, _, _, _, _, _] _ _ = _
  simp only [y_cons, y_unp, x_call, x_cons, x_nil, x_var, look_zero, look_succ, Res.bind_ok, e1, th, Res.toS_ok, bindTg_tp2, List.set, okE_some, SRes.bind_nx, y_set, x_blt, x_bin, ad1, l_sorted, on_eq, l_tuple, tupleop_lst]
  rw [ite_no (M' := m.set b o1) (by
    rw [or_2 (M' := m.set b o1) (by simp only [x_cmp, x_call, x_cons, x_nil, x_var, x_bl, look_zero, look_succ, Res.bind_ok, cq, c_notB, decide_true, Bool.not_true])]
    simp only [x_cmp, x_call, x_cons, x_nil, x_var, x_bl, x_blt, look_zero, look_succ, Res.bind_ok, l_tuple, tupleop_lst, cd, c_notB, decide_true, Bool.not_true])]
  rw [y_nil, SRes.bind_nx, set_step (M' := m.set b o1) (d := TT (toldF h s w l (onF w l hs))) (by simp only [x_call, x_cons, x_nil, x_var, look_zero, look_succ, Res.bind_ok, dw])]
  simp only [List.set]
  rw [no_step (M' := m.set b o1) (by
    rw [or_2 (M' := m.set b o1) (by simp only [x_cmp, x_var, x_non, look_zero, look_succ, Res.bind_ok, c_isN, isNon_tup])]
    simp only [x_not, x_call, x_cons, x_nil, x_var, look_zero, look_succ, Res.bind_ok, isd, blOf_bl, Bool.not_true])]
  rw [no_step (M' := m.set b o1) (by simp only [x_cmp, x_blt, x_cons, x_nil, x_bin, x_ix, x_call, x_var, x_int, look_zero, look_succ, Res.bind_ok, go, ixop_tup, at0, at1, okO_some, ad2, l_sortedT, back, l_tuple, tupleop_lst, c_ne, eqv_tints, decide_true, Option.map_some, Bool.not_true, okB_yes])]
  rw [set_step (M' := m.set b o1) (d := LI (outN (h * s) (onF w l hs))) (c1 _ _ _ _ _ _ _ _ _ _ _), y_nil]
  rfl
theorem swap_len {n : Nat} {row : List Int} (hr : Inc row) {a : Int} (ha : a ∈ row) : (row.filter fun x => !decide (x = a)).length + 1 = row.length := by
  induction row with
  | nil => simp at ha
  | cons y r ih =>
    obtain ⟨h1, h2⟩ := List.pairwise_cons.mp hr
    rw [List.filter_cons]
    by_cases e : y = a
    · subst e
      have : r.filter (fun x => !decide (x = y)) = r := List.filter_eq_self.mpr fun x hx => by
        have := h1 x hx
        simp; omega
      simp [this]
    · have ha' : a ∈ r := (List.mem_cons.mp ha).resolve_left fun z => e z.symm
      have := ih h2 ha'
      simp only [e, decide_false, Bool.not_false, if_true, List.length_cons]
      omega
structure Good3 (n : Nat) (xs : List Int) : Prop where
  inc : Inc xs
  bnd : ∀ x ∈ xs, 1 ≤ x ∧ x ≤ (n : Int)
theorem good3_sort {n : Nat} {xs : List Int} (h1 : xs.Nodup) (h2 : ∀ x ∈ xs, 1 ≤ x ∧ x ≤ (n : Int)) : Good3 n (sortI xs) := ⟨sort_inc h1, fun x hx => h2 x ((sortI_perm _).mem_iff.mp hx)⟩
theorem swap_good {n : Nat} {row : List Int} (hr : Good3 n row) {a z : Int} (hz : z ∈ outN n row) : Good3 n (sortI ((row.filter fun x => !decide (x = a)) ++ [z])) := by
  refine good3_sort ?_ fun x hx => ?_
  · rw [List.nodup_append]
    refine ⟨(inc_nodup hr.inc).sublist List.filter_sublist, by simp, fun x h1 y h2 e => ?_⟩
    rw [List.mem_singleton] at h2
    subst h2 e
    exact (outN_mem.mp hz).2 (List.mem_filter.mp h1).1
  · rcases List.mem_append.mp hx with q | q
    · exact hr.bnd x (List.mem_filter.mp q).1
    · rw [List.mem_singleton.mp q]; exact (outN_mem.mp hz).1
theorem fit_kept {n : Nat} {xs : List Int} (hn : n = h * s) (hw : w ≤ s) (hx : Good3 n xs) (hl : l ≤ h * (s - w)) (e : xs.length = h * w + l) : fitB h s w l xs = keptB n s w (l + 1) xs := by
  subst hn
  unfold fitB
  have := outN_len (inc_nodup hx.inc) hx.bnd
  have := parts_eq (h := h) hw
  rw [decide_eq_true e, Bool.true_and, kept_meet (by omega)]
theorem dir_kept {n : Nat} {xs : List Int} (hn : n = h * s) (hw : w ≤ s) (hx : Good3 n xs) (e : xs.length = h * w) : dirB h s w xs = keptB n s w 1 xs := by
  subst hn
  unfold dirB
  have := outN_len (inc_nodup hx.inc) hx.bnd
  have := parts_eq (h := h) hw
  rw [decide_eq_true e, Bool.true_and, kept_meet (by omega)]
theorem nonempty_ok (x : List Int) {ρ : Env} {M : Mem} {i : Nat} (hi : look ρ i M = .ok (LI x) M) : ev Φ (.cmp .ne (.var i) (.lst [])) ρ M = .ok (.bl (!decide (x = []))) M := by
  have h0 : (0 : Nat) ≤ LIM := Nat.zero_le _
  have := eqv_ints0 (m := M) x
  simp only [x_cmp, x_var, hi, Res.bind_ok, x_lst, x_nil, List.length_nil, h0, if_true, c_ne, this, Option.map_some, okB_yes]
theorem b7_k08 (hb : BagAt m b) (ho : IsBag o) (g : GoodR h s w l) (hN : (h : Int) * s ≤ 60) {row : List Int} (hr : Good3 (h * s) row) (hrl : row.length = h * w + l) (x0 x4 x5 x6 x8 x10 x11 x12 x13 x14 : Option D) :
    ∃ (y11 y12 y13 y14 : Option D) (o' : Mob), IsBag o' ∧ evSs Φ ((f_law_k08_b3.drop 7).take 1) [x0, some (.ref b), some (RU h s w l), some (LI (rg 1 (h * s))), x4, x5, x6, some (TI row), x8, some (LI (outN (h * s) row)), x10, x11, x12, x13, x14] (m.set b o) =
      .nx [x0, some (.ref b), some (RU h s w l), some (LI (rg 1 (h * s))), x4, x5, x6, some (TI row), x8, some (LI (outN (h * s) row)), x10, y11, y12, y13, y14] (m.set b o') := by
  obtain ⟨g1, g2, g3, g4, g5⟩ := good_nat g
  have hn : h * s ≤ 60 := by
    have : ((h * s : Nat) : Int) ≤ 60 := by rw [Int.natCast_mul]; exact hN
    omega
  have ol := outN_len (inc_nodup hr.inc) hr.bnd
  have hhw : 1 ≤ h * w := Nat.mul_pos g1 g3
  show ∃ y11 y12 y13 y14 o', IsBag o' ∧ evSs Φ [_] _ _ = _
  by_cases e : outN (h * s) row = []
  · refine ⟨x11, x12, x13, x14, o, ho, ?_⟩
    rw [no_step (M' := m.set b o) (by rw [nonempty_ok (outN (h * s) row) (by simp only [look_zero, look_succ]), decide_eq_true e]; rfl), y_nil]
  · have hol : 0 < (outN (h * s) row).length := List.length_pos_iff.mpr e
    have hws : w < s := by
      rcases Nat.lt_or_eq_of_le g4 with z | z
      · exact z
      · subst z; omega
    obtain ⟨v1, o1, e1, ho1, b1⟩ := take_set hb ho (n := (row.length : Int)) (by omega)
    obtain ⟨v2, o2, e2, ho2, b2⟩ := take_set hb ho1 (n := min 3 ((outN (h * s) row).length : Int)) (by omega)
    obtain ⟨a, ha, _, ia⟩ := ixLI (m := m.set b o1) (l := row) b1
    obtain ⟨z, hz, iz, _⟩ := ixLI (m := m.set b o2) (l := outN (h * s) row) (v := v2) ⟨b2.1, by omega⟩
    have sg := swap_good hr (a := a) hz
    have slen := swap_len (n := 0) hr.inc ha
    have xl : (sortI ((row.filter fun x => !decide (x = a)) ++ [z])).length = h * w + l := by
      rw [(sortI_perm _).length_eq, List.length_append, List.length_singleton, slen, hrl]
    have fk := fit_kept rfl g4 sg g5 xl
    have cq : ∀ M, Φ 63 [RU h s w l, TI (sortI ((row.filter fun x => !decide (x = a)) ++ [z]))] M = .ok (.bl (keptB (h * s) s w (l + 1) (sortI ((row.filter fun x => !decide (x = a)) ++ [z])))) M := fun M => by rw [can_qualify_ok g hN sg.inc sg.bnd, fk]
    have dw : ∀ M, Φ 68 [RU h s w l, TI (sortI ((row.filter fun x => !decide (x = a)) ++ [z]))] M = _ := fun M => draw_with_ok g hN sg.inc sg.bnd
    have kp : ∀ M, Φ 70 [RU h s w l, TI (sortI ((row.filter fun x => !decide (x = a)) ++ [z])), .int ((l : Int) + 1)] M = .ok (.bl (keptB (h * s) s w (l + 1) (sortI ((row.filter fun x => !decide (x = a)) ++ [z])))) M := fun M => by
      have := kept_ok (m := M) (xs := sortI ((row.filter fun x => !decide (x = a)) ++ [z])) g hws (l + 1)
      rw [Int.natCast_add, Int.natCast_one] at this
      exact this
    rw [fk] at dw
    generalize hoth : sortI ((row.filter fun x => !decide (x = a)) ++ [z]) = oth at sg xl fk cq dw kp
    generalize keptB (h * s) s w (l + 1) oth = kb at cq dw kp
    have ad : ∀ M, binop .add (LI (row.filter fun x => !decide (x = a))) (.lst [.int z]) M = .ok (LI ((row.filter fun x => !decide (x = a)) ++ [z])) M := fun M => addLI _ [z] (by simp; omega)
    have c2 : ∀ (x5 x6 x8 x10 x12 x13 x14 : Option D), ev Φ f_law_k08_c2 [x0, some (.ref b), some (RU h s w l), some (LI (rg 1 (h * s))), x4, x5, x6, some (TI row), x8, some (LI (outN (h * s) row)), x10, some (.int a), x12, x13, x14] (m.set b o2) = .ok (LI (row.filter fun x => !decide (x = a))) (m.set b o2) := fun x5 x6 x8 x10 x12 x13 x14 => by
      rw [f_law_k08_c2, comp_eval D.int (fun x => !decide (x = a)) D.int row ?_ (by omega) fun x hx => ⟨[x0, some (.ref b), some (RU h s w l), some (LI (rg 1 (h * s))), x4, x5, x6, some (TI row), x8, some (LI (outN (h * s) row)), some (.int x), some (.int a), x12, x13, x14], rfl, ?_, fun _ => by simp only [x_var, look_zero, look_succ]⟩]
      · simp only [x_cons, x_nil, x_var, look_zero, look_succ, Res.bind_ok, its_tup]
      · simp only [x_t1, x_t0, x_cmp, x_var, look_zero, look_succ, Res.bind_ok, c_ne, eqv_int, Option.map_some, okB_yes, blOf_bl]
        cases decide (x = a) <;> rfl
    refine ⟨some (.int a), some (.int z), some (TI oth), some (.bl kb), o2, ho2, ?_⟩
    rw [y_cons, ite_yes (M' := m.set b o) (by rw [nonempty_ok (outN (h * s) row) (by simp only [look_zero, look_succ]), decide_eq_false e]; rfl)]
    simp only [y_cons, y_unp, x_tup, x_cons, x_nil, x_ix, x_call, x_blt, x_var, x_int, look_zero, look_succ, Res.bind_ok, l_len, lenop_tup, lenop_lst, List.length_map, e1, ia, l_min2, e2, iz, List.length_cons, List.length_nil, Nat.zero_add, Nat.reduceAdd, lim2, if_true, Res.toS_ok, bindTg_tp2, List.set, okE_some, SRes.bind_nx]
    rw [set_ok (M' := m.set b o2) (d := TI oth) (by simp only [x_blt, x_cons, x_nil, x_bin, c2, Res.bind_ok, x_lst, x_var, look_zero, look_succ, List.length_cons, List.length_nil, Nat.zero_add, lim1, if_true, ad, l_sorted, hoth, l_tuple, tupleop_lst]), SRes.bind_nx]
    simp only [List.set]
    rw [set_step (M' := m.set b o2) (d := .bl kb) (by simp only [x_call, x_cons, x_nil, x_bin, x_ix, x_var, x_int, look_zero, look_succ, Res.bind_ok, ixop_tup, at3, okO_some, b_add, kp])]
    simp only [List.set]
    rw [no_step (M' := m.set b o2) (by
      rw [or_2 (M' := m.set b o2) (by simp only [x_cmp, x_call, x_cons, x_nil, x_var, look_zero, look_succ, Res.bind_ok, cq, c_ne, eqv_blQ, decide_true, Option.map_some, Bool.not_true, okB_yes])]
      cases kb with
      | true => simp only [x_cmp, x_not, x_non, x_call, x_cons, x_nil, x_var, look_zero, look_succ, Res.bind_ok, dw, if_true, c_isN, isNon_tup, blOf_bl, Bool.not_true, c_ne, eqv_blQ, decide_true, Option.map_some, okB_yes]
      | false => simp only [x_cmp, x_not, x_non, x_call, x_cons, x_nil, x_var, look_zero, look_succ, Res.bind_ok, dw, Bool.false_eq_true, if_false, c_isN, isNon_non, blOf_bl, Bool.not_false, c_ne, eqv_blQ, decide_true, Option.map_some, Bool.not_true, okB_yes]), y_nil, SRes.bind_nx, y_nil]
theorem b8_k08 (hb : BagAt m b) (ho : IsBag o) (g : GoodR h s w l) (hN : (h : Int) * s ≤ 60) {row some_ lucky : List Int} (hr : Good3 (h * s) row) (hrl : row.length = h * w + l) (hs : some_.Nodup) (hsub : ∀ x ∈ some_, x ∈ row) (hsl : some_.length = h * w) (x0 x4 x8 x10 x11 x12 x13 x14 : Option D) :
    ∃ (y13 : Option D) (o' : Mob), IsBag o' ∧ evSs Φ ((f_law_k08_b3.drop 8).take 1) [x0, some (.ref b), some (RU h s w l), some (LI (rg 1 (h * s))), x4, some (LI some_), some (LI lucky), some (TI row), x8, some (LI (outN (h * s) row)), x10, x11, x12, x13, x14] (m.set b o) =
      .nx [x0, some (.ref b), some (RU h s w l), some (LI (rg 1 (h * s))), x4, some (LI some_), some (LI lucky), some (TI row), x8, some (LI (outN (h * s) row)), x10, x11, x12, y13, x14] (m.set b o') := by
  obtain ⟨g1, g2, g3, g4, g5⟩ := good_nat g
  have gb := g.b
  have hn : h * s ≤ 60 := by
    have : ((h * s : Nat) : Int) ≤ 60 := by rw [Int.natCast_mul]; exact hN
    omega
  have ol := outN_len (inc_nodup hr.inc) hr.bnd
  show ∃ y13 o', IsBag o' ∧ evSs Φ [_] _ _ = _
  by_cases e : outN (h * s) row = []
  · refine ⟨x13, o, ho, ?_⟩
    rw [no_step (M' := m.set b o) (and_no1 (by rw [nonempty_ok (outN (h * s) row) (by simp only [look_zero, look_succ]), decide_eq_true e]; rfl)), y_nil]
  by_cases e' : lucky = []
  · refine ⟨x13, o, ho, ?_⟩
    rw [no_step (M' := m.set b o) (by
      rw [and_2 (M' := m.set b o) (by rw [nonempty_ok (outN (h * s) row) (by simp only [look_zero, look_succ]), decide_eq_false e]; rfl)]
      rw [nonempty_ok lucky (by simp only [look_zero, look_succ]), decide_eq_true e']; rfl), y_nil]
  · have hol : 0 < (outN (h * s) row).length := List.length_pos_iff.mpr e
    have hws : w < s := by
      rcases Nat.lt_or_eq_of_le g4 with z | z
      · exact z
      · subst z; omega
    obtain ⟨v1, o1, e1, ho1, b1⟩ := take_set hb ho (n := ((outN (h * s) row).length : Int)) (by omega)
    obtain ⟨z, hz, iz, _⟩ := ixLI (m := m.set b o1) (l := outN (h * s) row) (v := v1) ⟨b1.1, by omega⟩
    have hzm := outN_mem.mp hz
    have sg : Good3 (h * s) (sortI (some_ ++ [z])) := good3_sort (by
      rw [List.nodup_append]
      refine ⟨hs, by simp, fun x h1 y h2 e => ?_⟩
      rw [List.mem_singleton] at h2
      subst h2 e
      exact hzm.2 (hsub x h1)) fun x hx => by
        rcases List.mem_append.mp hx with q | q
        · exact hr.bnd x (hsub x q)
        · rw [List.mem_singleton.mp q]; exact hzm.1
    have xl : (sortI (some_ ++ [z])).length = h * w + 1 := by
      rw [(sortI_perm _).length_eq, List.length_append, List.length_singleton, hsl]
    have cq : ∀ M, Φ 63 [RU h s w l, TI (sortI (some_ ++ [z]))] M = .ok (.bl (fitB h s w l (sortI (some_ ++ [z])))) M := fun M => can_qualify_ok g hN sg.inc sg.bnd
    have kp : ∀ M, Φ 70 [RU h s w l, TI (sortI (some_ ++ [z])), .int ((l : Int) + 1)] M = .ok (.bl (keptB (h * s) s w (l + 1) (sortI (some_ ++ [z])))) M := fun M => by
      have := kept_ok (m := M) (xs := sortI (some_ ++ [z])) g hws (l + 1)
      rw [Int.natCast_add, Int.natCast_one] at this
      exact this
    have pl := fun M => places_ok (m := M) g (show (h : Int) * s ≤ 10000 by omega)
    have fk : (h * w + 1 = h * w + l) → fitB h s w l (sortI (some_ ++ [z])) = keptB (h * s) s w (l + 1) (sortI (some_ ++ [z])) := fun q => fit_kept rfl g4 sg g5 (xl.trans q)
    have fn : ¬ (h * w + 1 = h * w + l) → fitB h s w l (sortI (some_ ++ [z])) = false := fun q => by
      unfold fitB
      rw [xl, decide_eq_false q, Bool.false_and]
    generalize hoth : sortI (some_ ++ [z]) = oth at sg xl fk fn cq kp
    have ad : ∀ M, binop .add (LI some_) (.lst [.int z]) M = .ok (LI (some_ ++ [z])) M := fun M => addLI _ [z] (by simp; omega)
    refine ⟨some (TI oth), o1, ho1, ?_⟩
    rw [y_cons, ite_yes (M' := m.set b o) (by
      rw [and_2 (M' := m.set b o) (by rw [nonempty_ok (outN (h * s) row) (by simp only [look_zero, look_succ]), decide_eq_false e]; rfl)]
      rw [nonempty_ok lucky (by simp only [look_zero, look_succ]), decide_eq_false e']; rfl)]
    rw [set_step (M' := m.set b o1) (d := TI oth) (by simp only [x_blt, x_cons, x_nil, x_bin, x_lst, x_ix, x_call, x_var, look_zero, look_succ, Res.bind_ok, l_len, lenop_lst, List.length_map, e1, iz, List.length_cons, List.length_nil, Nat.zero_add, lim1, if_true, ad, l_sorted, hoth, l_tuple, tupleop_lst])]
    simp only [List.set]
    have pn : placesI h s w l = ((h * w + l : Nat) : Int) := places_nat
    rw [no_step (M' := m.set b o1) (by
      by_cases q : h * w + 1 = h * w + l
      · have q' : decide ((oth.length : Int) = placesI h s w l) = true := by rw [pn, xl, q]; simp
        have B : ∀ ρ : Env, (∀ M, look ρ 2 M = .ok (RU h s w l) M) → (∀ M, look ρ 13 M = .ok (TI oth) M) → ev Φ (.bop true [.cmp .eq (.blt .len [.var 13]) (.call 23 [.var 2]), .call 70 [.var 2, .var 13, .bin .add (.ix (.var 2) (.int 3)) (.int 1)]]) ρ (m.set b o1) = .ok (.bl (keptB (h * s) s w (l + 1) oth)) (m.set b o1) := fun ρ l2 l13 => by
          rw [and_2 (M' := m.set b o1) (by simp only [x_cmp, x_call, x_cons, x_nil, x_blt, x_var, l2, l13, Res.bind_ok, l_len, lenop_tup, List.length_map, pl, c_eq, eqv_int, q', okB_yes])]
          simp only [x_call, x_cons, x_nil, x_bin, x_ix, x_int, x_var, l2, l13, Res.bind_ok, ixop_tup, at3, okO_some, b_add, kp]
        have B1 := B [x0, some (.ref b), some (RU h s w l), some (LI (rg 1 (h * s))), x4, some (LI some_), some (LI lucky), some (TI row), x8, some (LI (outN (h * s) row)), x10, x11, x12, some (TI oth), x14] (fun _ => by simp only [look_zero, look_succ]) (fun _ => by simp only [look_zero, look_succ])
        rw [x_cmp]
        simp only [x_call, x_cons, x_nil, x_var, look_zero, look_succ, Res.bind_ok, cq, fk q]
        rw [B1]
        simp only [Res.bind_ok, c_ne, eqv_blQ, decide_true, Option.map_some, Bool.not_true, okB_yes]
      · have q' : decide ((oth.length : Int) = placesI h s w l) = false := by rw [pn, xl]; simp; omega
        have B : ∀ ρ : Env, (∀ M, look ρ 2 M = .ok (RU h s w l) M) → (∀ M, look ρ 13 M = .ok (TI oth) M) → ev Φ (.bop true [.cmp .eq (.blt .len [.var 13]) (.call 23 [.var 2]), .call 70 [.var 2, .var 13, .bin .add (.ix (.var 2) (.int 3)) (.int 1)]]) ρ (m.set b o1) = .ok (.bl false) (m.set b o1) := fun ρ l2 l13 => by
          rw [and_no1 (M' := m.set b o1) (by simp only [x_cmp, x_call, x_cons, x_nil, x_blt, x_var, l2, l13, Res.bind_ok, l_len, lenop_tup, List.length_map, pl, c_eq, eqv_int, q', okB_yes])]
        have B1 := B [x0, some (.ref b), some (RU h s w l), some (LI (rg 1 (h * s))), x4, some (LI some_), some (LI lucky), some (TI row), x8, some (LI (outN (h * s) row)), x10, x11, x12, some (TI oth), x14] (fun _ => by simp only [look_zero, look_succ]) (fun _ => by simp only [look_zero, look_succ])
        rw [x_cmp]
        simp only [x_call, x_cons, x_nil, x_var, look_zero, look_succ, Res.bind_ok, cq, fn q]
        rw [B1]
        simp only [Res.bind_ok, c_ne, eqv_blQ, decide_true, Option.map_some, Bool.not_true, okB_yes]), y_nil, SRes.bind_nx, y_nil]
theorem b9_k08 (hb : BagAt m b) (ho : IsBag o) (hc : Cl m) (g : GoodR h s w l) (hN : (h : Int) * s ≤ 60) (x0 x4 x5 x6 x7 x8 x9 x10 x11 x12 x13 x14 : Option D) :
    ∃ (y13 : Option D) (o' : Mob), IsBag o' ∧ evSs Φ (f_law_k08_b3.drop 9) [x0, some (.ref b), some (RU h s w l), some (LI (rg 1 (h * s))), x4, x5, x6, x7, x8, x9, x10, x11, x12, x13, x14] (m.set b o) =
      .nx [x0, some (.ref b), some (RU h s w l), some (LI (rg 1 (h * s))), x4, x5, x6, x7, x8, x9, x10, x11, x12, y13, x14] (m.set b o') := by
  obtain ⟨g1, g2, g3, g4, g5⟩ := good_nat g
  have gb := g.b
  have hn : h * s ≤ 60 := by
    have : ((h * s : Nat) : Int) ≤ 60 := by rw [Int.natCast_mul]; exact hN
    omega
  show ∃ y13 o', IsBag o' ∧ evSs Φ [_] _ _ = _
  by_cases hws : w < s
  · have hws' : (w : Int) < (s : Int) := by omega
    obtain ⟨ys, o1, e1, ho1, hp⟩ := mixed_set (rg 1 (h * s)) hb ho hc (by rw [rg_length]; omega)
    have hys : ys.Nodup := hp.nodup_iff.mpr (inc_nodup (rg_inc _ _))
    have yl : ys.length = h * s := by rw [hp.length_eq, rg_length]
    have hhw : h * w ≤ h * s := Nat.mul_le_mul_left h g4
    have sg : Good3 (h * s) (sortI (ys.take (h * w))) := good3_sort (hys.sublist (List.take_sublist _ _)) fun x hx => by
      have := rg_mem.mp (hp.mem_iff.mp (List.mem_of_mem_take hx))
      omega
    have xl : (sortI (ys.take (h * w))).length = h * w := by
      rw [(sortI_perm _).length_eq, List.length_take, yl]; omega
    have cd : ∀ M, Φ 62 [RU h s w l, TI (sortI (ys.take (h * w)))] M = .ok (.bl (keptB (h * s) s w 1 (sortI (ys.take (h * w))))) M := fun M => by rw [can_direct_ok g hN sg.inc sg.bnd, dir_kept rfl g4 sg xl]
    have kp : ∀ M, Φ 70 [RU h s w l, TI (sortI (ys.take (h * w))), .int 1] M = .ok (.bl (keptB (h * s) s w 1 (sortI (ys.take (h * w))))) M := fun M => kept_ok (m := M) (xs := sortI (ys.take (h * w))) g hws 1
    have k1 : ∀ M, binop .mul (.int (h : Int)) (.int (w : Int)) M = .ok (.int ((h * w : Nat) : Int)) M := fun M => by rw [Int.natCast_mul]; exact b_mul (.inl ⟨by omega, by omega⟩)
    have ct := cutI_take ys (j := ((h * w : Nat) : Int)) (by omega)
    rw [Int.toNat_natCast] at ct
    refine ⟨some (TI (sortI (ys.take (h * w)))), o1, ho1, ?_⟩
    rw [y_cons, ite_yes (M' := m.set b o) (by simp only [x_cmp, x_ix, x_var, x_int, look_zero, look_succ, Res.bind_ok, ixop_tup, at1, at2, okO_some, c_lt, hws', decide_true])]
    rw [set_step (M' := m.set b o1) (d := TI (sortI (ys.take (h * w)))) (by simp only [x_blt, x_cons, x_nil, x_sl, x_none, x_some, x_call, x_bin, x_ix, x_int, x_var, look_zero, look_succ, Res.bind_ok, e1, ixop_tup, at0, at2, okO_some, k1, intO_int, slop_lst, ct, l_sorted, l_tuple, tupleop_lst])]
    simp only [List.set]
    rw [no_step (M' := m.set b o1) (by simp only [x_cmp, x_call, x_cons, x_nil, x_var, x_int, look_zero, look_succ, Res.bind_ok, cd, kp, c_ne, eqv_blQ, decide_true, Option.map_some, Bool.not_true, okB_yes]), y_nil, SRes.bind_nx, y_nil]
  · have hws' : ¬ (w : Int) < (s : Int) := by omega
    refine ⟨x13, o, ho, ?_⟩
    rw [no_step (M' := m.set b o) (by simp only [x_cmp, x_ix, x_var, x_int, look_zero, look_succ, Res.bind_ok, ixop_tup, at1, at2, okO_some, c_lt, hws', decide_false]), y_nil]
theorem turn_k08 (hb : BagAt m b) (hc : Cl m) (g : GoodR h s w l) (hN : (h : Int) * s ≤ 60) (x0 x4 x5 x6 x7 x8 x9 x10 x11 x12 x13 x14 : Option D) :
    ∃ (y5 y6 y7 y8 y9 y11 y12 y13 y14 : Option D) (o' : Mob), IsBag o' ∧ evSs Φ f_law_k08_b3 [x0, some (.ref b), some (RU h s w l), some (LI (rg 1 (h * s))), x4, x5, x6, x7, x8, x9, x10, x11, x12, x13, x14] m =
      .nx [x0, some (.ref b), some (RU h s w l), some (LI (rg 1 (h * s))), x4, y5, y6, y7, y8, y9, x10, y11, y12, y13, y14] (m.set b o') := by
  obtain ⟨g1, g2, g3, g4, g5⟩ := good_nat g
  obtain ⟨hs, y8, o1, d, ho1, e1⟩ := first_k08 hb hc g hN x0 x4 x5 x6 x7 x8 x9 x10 x11 x12 x13 x14
  have gr : Good3 (h * s) (onF w l hs) := ⟨d.on_inc w l, fun r hr => d.on_bnd w l (r := r) hr⟩
  obtain ⟨y11, y12, y13, y14, o2, ho2, e2⟩ := b7_k08 hb ho1 g hN gr (d.on_len g4 g5) x0 x4 (some (LI (sortI (someF w hs)))) (some (LI (luckyF w l hs))) y8 x10 x11 x12 x13 x14
  obtain ⟨z13, o3, ho3, e3⟩ := b8_k08 hb ho2 g hN gr (d.on_len g4 g5) (some_ := sortI (someF w hs)) (lucky := luckyF w l hs) ((sortI_perm _).nodup_iff.mpr (d.nds w).1)
    (fun x hx => (d.on_mem w l).mpr (.inl ((sortI_perm _).mem_iff.mp hx))) (by rw [(sortI_perm _).length_eq, len_some (fun x hx => (d.each x hx).1) g4, d.len]) x0 x4 y8 x10 y11 y12 y13 y14
  obtain ⟨w13, o4, ho4, e4⟩ := b9_k08 hb ho3 hc g hN x0 x4 (some (LI (sortI (someF w hs)))) (some (LI (luckyF w l hs))) (some (TI (onF w l hs))) y8 (some (LI (outN (h * s) (onF w l hs)))) x10 y11 y12 z13 y14
  refine ⟨some (LI (sortI (someF w hs))), some (LI (luckyF w l hs)), some (TI (onF w l hs)), y8, some (LI (outN (h * s) (onF w l hs))), y11, y12, w13, y14, o4, ho4, ?_⟩
  have c1 := evSs_app (f_law_k08_b3.take 7) ((f_law_k08_b3.drop 7).take 1 ++ ((f_law_k08_b3.drop 8).take 1 ++ f_law_k08_b3.drop 9)) [x0, some (.ref b), some (RU h s w l), some (LI (rg 1 (h * s))), x4, x5, x6, x7, x8, x9, x10, x11, x12, x13, x14] m
  rw [e1, SRes.bind_nx] at c1
  refine c1.trans ((evSs_app _ _ _ _).trans ?_)
  rw [e2, SRes.bind_nx]
  refine (evSs_app _ _ _ _).trans ?_
  rw [e3, SRes.bind_nx, e4]
/-- all of a bag's turns -/
theorem bag_k08 (hb : BagAt m b) (hc : Cl m) (x0 x2 x3 x4 x5 x6 x7 x8 x9 x10 x11 x12 x13 x14 : Option D) :
    ∃ (y2 y3 y4 y5 y6 y7 y8 y9 y11 y12 y13 y14 : Option D) (o' : Mob), IsBag o' ∧ evSs Φ f_law_k08_b4 [x0, some (.ref b), x2, x3, x4, x5, x6, x7, x8, x9, x10, x11, x12, x13, x14] m =
      .nx [x0, some (.ref b), y2, y3, y4, y5, y6, y7, y8, y9, x10, y11, y12, y13, y14] (m.set b o') := by
  obtain ⟨h, s, w, l, o1, e1, ho1, hp, hN⟩ := rule_ok hb (most := 60) (by omega)
  obtain ⟨p1, p2⟩ := small_parts (n := 60) hp.1 hp.2.1 hN
  have g := rule_good hp (by omega) (by omega)
  have hn : h * s ≤ 60 := by
    have : ((h * s : Nat) : Int) ≤ 60 := by rw [Int.natCast_mul]; exact hN
    omega
  have k1 : ∀ M, binop .mul (.int (h : Int)) (.int (s : Int)) M = .ok (.int ((h * s : Nat) : Int)) M := fun M => by rw [Int.natCast_mul]; exact b_mul (.inl ⟨by omega, by omega⟩)
  have r1 : ∀ M, bltop .listRg2 [.int 1, .int (((h * s : Nat) : Int) + 1)] M = .ok (LI (rg 1 (h * s))) M := fun M => by
    rw [l_listRg2 (by omega), show (((h * s : Nat) : Int) + 1 - 1).toNat = h * s by omega]
  obtain ⟨ρ2, m2, e2, y4, y5, y6, y7, y8, y9, y11, y12, y13, y14, o2, ho2, rfl, rfl⟩ := forL_idx (body := evSs Φ f_law_k08_b3) (t := .nm 4) (fun i : Nat => D.int (i : Int)) (List.range 4)
    (fun i ρ m' => ∃ x4 x5 x6 x7 x8 x9 x11 x12 x13 x14 o', IsBag o' ∧ ρ = [x0, some (.ref b), some (RU h s w l), some (LI (rg 1 (h * s))), x4, x5, x6, x7, x8, x9, x10, x11, x12, x13, x14] ∧ m' = m.set b o')
    (fun i x ρ m' hx ⟨x4, x5, x6, x7, x8, x9, x11, x12, x13, x14, o', ho', e0, em⟩ => by
      subst e0 em
      obtain ⟨y5, y6, y7, y8, y9, y11, y12, y13, y14, o2, ho2, e⟩ := turn_k08 (hb.set ho') (hc.set (closed_bag _ ho')) g hN x0 (some (.int (x : Int))) x5 x6 x7 x8 x9 x10 x11 x12 x13 x14
      rw [List.set_set] at e
      exact ⟨_, _, _, rfl, e, some (.int (x : Int)), y5, y6, y7, y8, y9, y11, y12, y13, y14, o2, ho2, rfl, rfl⟩) ⟨x4, x5, x6, x7, x8, x9, x11, x12, x13, x14, o1, ho1, rfl, rfl⟩
  refine ⟨some (RU h s w l), some (LI (rg 1 (h * s))), y4, y5, y6, y7, y8, y9, y11, y12, y13, y14, o2, ho2, ?_⟩
  show evSs Φ [_, _, _] _ _ = _
  rw [set_step (d := RU h s w l) (M' := m.set b o1) (by simp only [x_call, x_cons, x_nil, x_var, x_int, look_zero, look_succ, Res.bind_ok, e1])]
  simp only [List.set]
  rw [set_step (d := LI (rg 1 (h * s))) (M' := m.set b o1) (by simp only [x_blt, x_cons, x_nil, x_bin, x_ix, x_var, x_int, look_zero, look_succ, Res.bind_ok, ixop_tup, at0, at1, okO_some, k1, b_add, r1])]
  simp only [List.set]
  have rn : itsOf .rng1 (evL Φ [.int 4] [x0, some (.ref b), some (RU h s w l), some (LI (rg 1 (h * s))), x4, x5, x6, x7, x8, x9, x10, x11, x12, x13, x14] (m.set b o1)) = .ok ((List.range 4).map fun i : Nat => D.int (i : Int)) (m.set b o1) := by
    have e0 : rngD 0 4 = (List.range 4).map fun (i : Nat) => D.int (i : Int) := by simp [rngD]
    rw [← e0]
    simp (disch := omega) only [x_cons, x_nil, x_int, Res.bind_ok, its_rng1]
    rfl
  rw [y_cons, y_for, rn, Res.toS_ok, e2, SRes.bind_nx, y_nil]
end
theorem pure_k08 : ∀ ns : List Int, ns.length ≤ 63 → ∃ m, tower tw 71 [.scr ns] [] = .ok (.bl true) m := fun ns _ => by
  obtain ⟨n, m0, eb, hb⟩ := bags_ok ns
  obtain ⟨ρ2, m2, e1, x1, x2, x3, x4, x5, x6, x7, x8, x9, x10, x11, x12, x13, x14, rfl, hb2⟩ := forL_keep (body := evSs Φ f_law_k08_b4) (t := .nm 1) (fun b : Nat => D.ref b)
    (fun ρ m => ∃ x1 x2 x3 x4 x5 x6 x7 x8 x9 x10 x11 x12 x13 x14 : Option D, ρ = [some (.scr ns), x1, x2, x3, x4, x5, x6, x7, x8, x9, x10, x11, x12, x13, x14] ∧ Bags m n) (List.range n)
    [some (.scr ns), none, none, none, none, none, none, none, none, none, none, none, none, none, none] m0
    (fun b ρ m hx ⟨x1, x2, x3, x4, x5, x6, x7, x8, x9, x10, x11, x12, x13, x14, e0, hb⟩ => by
      subst e0
      rw [List.mem_range] at hx
      obtain ⟨y2, y3, y4, y5, y6, y7, y8, y9, y11, y12, y13, y14, o', ho, et⟩ := bag_k08 (hb.bag b hx) hb.cl (some (.scr ns)) x2 x3 x4 x5 x6 x7 x8 x9 x10 x11 x12 x13 x14
      refine ⟨_, _, _, rfl, et, some (.ref b), y2, y3, y4, y5, y6, y7, y8, y9, x10, y11, y12, y13, y14, rfl, ?_⟩
      exact ⟨hb.cl.set (closed_bag _ ho), by have := hb.le; simp; omega, fun c hc => (hb.bag c hc).set' (hb.bag b hx) ho⟩)
    ⟨none, none, none, none, none, none, none, none, none, none, none, none, none, none, rfl, hb⟩
  have q1 : ∀ M, Φ 68 [RU 2 3 1 1, TI [1, 2, 5]] M = .ok .non M := fun M => by
    have g : GoodR (2 : Nat) (3 : Nat) (1 : Nat) (1 : Nat) := rule_good (by omega) (by omega) (by omega)
    have := draw_with_ok (m := M) (xs := [1, 2, 5]) g (by decide) (by unfold Inc; decide) (by decide)
    rw [show fitB 2 3 1 1 [1, 2, 5] = false by decide +kernel] at this
    exact this
  have q2 : ∀ M, Φ 68 [RU 2 1 1 0, TI [1, 2]] M = .ok (TT [[1], [2]]) M := fun M => by
    have g : GoodR (2 : Nat) (1 : Nat) (1 : Nat) (0 : Nat) := rule_good (by omega) (by omega) (by omega)
    have := draw_with_ok (m := M) (xs := [1, 2]) g (by decide) (by unfold Inc; decide) (by decide)
    rw [show fitB 2 1 1 0 [1, 2] = true by decide +kernel, show toldF 2 1 1 0 [1, 2] = [[1], [2]] by decide +kernel] at this
    exact this
  refine ⟨m2.take 0, ?_⟩
  show Φ 71 [.scr ns] [] = _
  rw [R_law_k08]
  have : evSs Φ f_law_k08.body [some (.scr ns), none, none, none, none, none, none, none, none, none, none, none, none, none, none] [] = .rt (.bl true) m2 := by
    show evSs Φ [_, _, _] _ _ = _
    rw [y_cons, y_for]
    simp only [x_cons, x_nil, x_call, x_var, look_zero, x_int, Res.bind_ok, eb, its_lst, Res.toS_ok, e1, SRes.bind_nx]
    rw [no_step (M' := m2) (by
      simp only [x_cmp, x_call, x_cons, x_nil, x_tup, x_int, x_non, Res.bind_ok, List.length_cons, List.length_nil, Nat.zero_add, Nat.reduceAdd, lim3, lim4, if_true]
      have : Φ 68 [.tup [.int 2, .int 3, .int 1, .int 1], .tup [.int 1, .int 2, .int 5]] m2 = .ok .non m2 := q1 m2
      rw [this]
      rfl)]
    have z : Φ 68 [.tup [.int 2, .int 1, .int 1, .int 0], .tup [.int 1, .int 2]] m2 = .ok (.tup [.tup [.int 1], .tup [.int 2]]) m2 := q2 m2
    have mb : memb (.tup [.tup [.int 1], .tup [.int 2]]) (.tup [.tup [.tup [.int 1], .tup [.int 2]], .tup [.tup [.int 2], .tup [.int 1]]]) m2 = some true := by
      simp [memb, dlook, seqD, flatD, viewPy, toPy, toPyL, PySem.SeqAt.shaped, PySem.PyData.canLay0, PySem.PyData.canLayAll0, PySem.PyData.depth, PySem.PyData.depthAll, PySem.PyData.eqv, PySem.PyData.eqvAll]
    simp only [y_cons, y_ret, x_cmp, x_call, x_cons, x_nil, x_tup, x_int, Res.bind_ok, List.length_cons, List.length_nil, Nat.zero_add, Nat.reduceAdd, lim1, lim2, lim3, lim4, if_true, z, c_inn, mb, okB_yes, Res.toS_ok, SRes.bind_rt]
  rw [this, out_rt]
  rfl
end HD
end

section
set_option Elab.async false
set_option linter.all false
set_option maxRecDepth 100000
set_option maxHeartbeats 1000000
/-! M9: ways told by a table; the first set; one limit less. -/
namespace HD
theorem perm_sumI {a b : List Int} (h : a.Perm b) : a.sum = b.sum := by
  induction h with
  | nil => rfl
  | cons x _ ih => rw [List.sum_cons, List.sum_cons, ih]
  | swap x y l => rw [List.sum_cons, List.sum_cons, List.sum_cons, List.sum_cons]; omega
  | trans _ _ h1 h2 => exact h1.trans h2
/-! tables -/
def lk (l : List (Int × Int)) (y : Int) : Option Int := (l.find? fun p => decide (p.1 = y)).map (·.2)
def pt (l : List (Int × Int)) (y v : Int) : List (Int × Int) := if (lk l y).isSome then l.map fun p => if p.1 = y then (p.1, v) else p else l ++ [(y, v)]
def wsum (g : Int → Int) (l : List (Int × Int)) : Int := (l.map fun p => p.2 * g p.1).sum
theorem lk_cons (a v y : Int) (l : List (Int × Int)) : lk ((a, v) :: l) y = if a = y then some v else lk l y := by
  unfold lk
  rw [List.find?_cons]
  by_cases h : a = y <;> simp [h]
theorem lk_none {l : List (Int × Int)} {y : Int} : lk l y = none ↔ y ∉ l.map (·.1) := by
  induction l with
  | nil => simp [lk]
  | cons p l ih =>
    obtain ⟨a, v⟩ := p
    rw [lk_cons]
    by_cases h : a = y
    · simp [h]
    · rw [if_neg h, ih]
      simp [Ne.symm h]
theorem lk_mem {l : List (Int × Int)} (hn : (l.map (·.1)).Nodup) {p : Int × Int} (hp : p ∈ l) : lk l p.1 = some p.2 := by
  induction l with
  | nil => simp at hp
  | cons q l ih =>
    obtain ⟨a, v⟩ := q
    rw [List.map_cons, List.nodup_cons] at hn
    rw [lk_cons]
    rcases List.mem_cons.mp hp with z | z
    · subst z; simp
    · have : a ≠ p.1 := fun e => hn.1 (by rw [e]; exact List.mem_map_of_mem (f := (·.1)) z)
      rw [if_neg this, ih hn.2 z]
theorem pt_keys (l : List (Int × Int)) (y v : Int) : (pt l y v).map (·.1) = if y ∈ l.map (·.1) then l.map (·.1) else l.map (·.1) ++ [y] := by
  unfold pt
  by_cases h : y ∈ l.map (·.1)
  · have : (lk l y).isSome = true := by
      cases e : lk l y with
      | none => exact absurd h (lk_none.mp e)
      | some _ => rfl
    rw [if_pos this, if_pos h, List.map_map]
    refine List.map_congr_left fun p _ => ?_
    show (if p.1 = y then (p.1, v) else p).1 = p.1
    split <;> rfl
  · have : (lk l y) = none := lk_none.mpr h
    rw [this, if_neg (by simp), if_neg h, List.map_append]; rfl
theorem pt_nodup {l : List (Int × Int)} (h : (l.map (·.1)).Nodup) (y v : Int) : ((pt l y v).map (·.1)).Nodup := by
  rw [pt_keys]
  split
  · exact h
  · rename_i hy
    rw [List.nodup_append]
    exact ⟨h, by simp, fun a ha b hb e => by rw [List.mem_singleton] at hb; subst hb e; exact hy ha⟩
theorem pt_mem {l : List (Int × Int)} {y v : Int} {x : Int} (hx : x ∈ (pt l y v).map (·.1)) : x ∈ l.map (·.1) ∨ x = y := by
  rw [pt_keys] at hx
  split at hx
  · exact .inl hx
  · rcases List.mem_append.mp hx with z | z
    · exact .inl z
    · exact .inr (by simpa using z)
theorem wsum_cons (g : Int → Int) (p : Int × Int) (l : List (Int × Int)) : wsum g (p :: l) = p.2 * g p.1 + wsum g l := by simp [wsum]
theorem wsum_app (g : Int → Int) (a b : List (Int × Int)) : wsum g (a ++ b) = wsum g a + wsum g b := by simp [wsum]
theorem wsum_over (g : Int → Int) {l : List (Int × Int)} (hn : (l.map (·.1)).Nodup) (y w : Int) : ∀ u, lk l y = some u → wsum g (l.map fun p => if p.1 = y then (p.1, w) else p) = wsum g l + (w - u) * g y := by
  induction l with
  | nil => intro u h; simp [lk] at h
  | cons p l ih =>
    obtain ⟨a, v⟩ := p
    intro u h
    rw [List.map_cons, List.nodup_cons] at hn
    rw [lk_cons] at h
    rw [List.map_cons, wsum_cons, wsum_cons]
    by_cases e : a = y
    · subst e
      rw [if_pos rfl] at h
      cases h
      have same : (l.map fun p => if p.1 = a then (p.1, w) else p) = l := by
        have : l.map (fun p => if p.1 = a then (p.1, w) else p) = l.map id := List.map_congr_left fun p hp => by
          have : p.1 ≠ a := fun e => hn.1 (by rw [← e]; exact List.mem_map_of_mem (f := (·.1)) hp)
          rw [if_neg this]; rfl
        rw [this, List.map_id]
      rw [same, if_pos rfl, Int.sub_mul]
      show w * g a + wsum g l = v * g a + wsum g l + (w * g a - v * g a)
      omega
    · rw [if_neg e] at h
      rw [ih hn.2 u h, if_neg e]
      omega
theorem pt_wsum (g : Int → Int) {l : List (Int × Int)} (hn : (l.map (·.1)).Nodup) (y c : Int) : wsum g (pt l y ((lk l y).getD 0 + c)) = wsum g l + c * g y := by
  unfold pt
  cases e : lk l y with
  | none =>
    rw [if_neg (by simp), wsum_app]
    simp [wsum]
  | some u =>
    rw [if_pos (show (some u).isSome = true from rfl), wsum_over g hn y _ u e]
    congr 2
    show u + c - u = c
    omega
/-- what is added for one runner -/
def addAll (c : Int) : List Int → List (Int × Int) → List (Int × Int)
  | [], l => l
  | y :: ys, l => addAll c ys (pt l y ((lk l y).getD 0 + c))
structure TabG (R : Nat) (l : List (Int × Int)) : Prop where
  nd : (l.map (·.1)).Nodup
  bnd : ∀ x ∈ l.map (·.1), 0 ≤ x ∧ x ≤ (R : Int)
theorem TabG.put {R : Nat} {l : List (Int × Int)} (h : TabG R l) {y : Int} (hy : 0 ≤ y ∧ y ≤ (R : Int)) (v : Int) : TabG R (pt l y v) :=
  ⟨pt_nodup h.nd y v, fun x hx => (pt_mem hx).elim (h.bnd x) fun e => by rw [e]; exact hy⟩
theorem TabG.len {R : Nat} {l : List (Int × Int)} (h : TabG R l) : l.length ≤ R + 1 := by
  have h1 : ((sortI (l.map (·.1))).map fun x => x + 1).length ≤ R + 1 := by
    refine inc_len ?_ fun x hx => ?_
    · unfold Inc
      rw [List.pairwise_map]
      exact (sort_inc h.nd).imp fun {a b} hab => by omega
    · obtain ⟨y, hy, rfl⟩ := List.mem_map.mp hx
      have := h.bnd y ((sortI_perm _).mem_iff.mp hy)
      omega
  rw [List.length_map, (sortI_perm _).length_eq, List.length_map] at h1
  exact h1
theorem addAll_ok {R : Nat} (g : Int → Int) (c : Int) : ∀ (ys : List Int) (l : List (Int × Int)), TabG R l → (∀ y ∈ ys, 0 ≤ y ∧ y ≤ (R : Int)) → TabG R (addAll c ys l) ∧ wsum g (addAll c ys l) = wsum g l + c * (ys.map g).sum
  | [], l, h, _ => ⟨h, by simp [addAll]⟩
  | y :: ys, l, h, hy => by
    obtain ⟨h1, h2⟩ := addAll_ok g c ys (pt l y ((lk l y).getD 0 + c)) (h.put (hy y List.mem_cons_self) _) fun z hz => hy z (List.mem_cons_of_mem _ hz)
    refine ⟨h1, ?_⟩
    rw [addAll, h2, pt_wsum g h.nd, List.map_cons, List.sum_cons, Int.mul_add]
    omega
/-- those who may be next -/
def nxt (R : Nat) (lim x : Int) : List Int := rg (max lim (x + 1)) ((R : Int) + 1 - max lim (x + 1)).toNat
/-- one limit more -/
def stepT (R : Nat) (lim : Int) : List (Int × Int) → List (Int × Int) → List (Int × Int)
  | [], l => l
  | p :: ps, l => stepT R lim ps (addAll p.2 (nxt R lim p.1) l)
theorem nxt_mem {R : Nat} {lim x y : Int} (hx : 0 ≤ x) (hy : y ∈ nxt R lim x) : 0 ≤ y ∧ y ≤ (R : Int) := by
  have := rg_mem.mp hy
  omega
theorem stepT_ok {R : Nat} (g : Int → Int) (lim : Int) : ∀ (ps l : List (Int × Int)), TabG R l → (∀ p ∈ ps, 0 ≤ p.1) → TabG R (stepT R lim ps l) ∧ wsum g (stepT R lim ps l) = wsum g l + wsum (fun x => ((nxt R lim x).map g).sum) ps
  | [], l, h, _ => ⟨h, by simp [stepT, wsum]⟩
  | p :: ps, l, h, hp => by
    obtain ⟨a1, a2⟩ := addAll_ok (R := R) g p.2 (nxt R lim p.1) l h fun y hy => nxt_mem (hp p List.mem_cons_self) hy
    obtain ⟨h1, h2⟩ := stepT_ok g lim ps _ a1 fun z hz => hp z (List.mem_cons_of_mem _ hz)
    refine ⟨h1, ?_⟩
    rw [stepT, h2, a2, wsum_cons]
    omega
/-- the ways from here, by who is next -/
theorem way_sum {L : List Int} {R n : Nat} (hn : n < L.length) : ∀ k, k ≤ R → ((nxt R (L.getD n 0) ((R - k : Nat) : Int)).map fun y => ((wayN L R (R - y.toNat) (n + 1) : Nat) : Int)).sum = ((wayN L R k n : Nat) : Int)
  | 0, _ => by
    rw [wayN, if_neg (by omega)]
    unfold nxt
    have : ((R : Int) + 1 - max (L.getD n 0) (((R - 0 : Nat) : Int) + 1)).toNat = 0 := by omega
    rw [this]; simp [rg]
  | k + 1, hk => by
    have ih := way_sum (R := R) hn k (by omega)
    rw [wayN]
    by_cases c : L.getD n 0 ≤ ((R - k : Nat) : Int)
    · rw [if_pos ⟨hn, c⟩]
      have e1 : nxt R (L.getD n 0) ((R - (k + 1) : Nat) : Int) = ((R - k : Nat) : Int) :: nxt R (L.getD n 0) ((R - k : Nat) : Int) := by
        unfold nxt
        have a1 : max (L.getD n 0) (((R - (k + 1) : Nat) : Int) + 1) = ((R - k : Nat) : Int) := by omega
        have a2 : max (L.getD n 0) (((R - k : Nat) : Int) + 1) = ((R - k : Nat) : Int) + 1 := by omega
        have a3 : ((R : Int) + 1 - ((R - k : Nat) : Int)).toNat = ((R : Int) + 1 - (((R - k : Nat) : Int) + 1)).toNat + 1 := by omega
        rw [a1, a2, a3, rg_cons]
      have e2 : R - ((R - k : Nat) : Int).toNat = k := by omega
      rw [e1, List.map_cons, List.sum_cons, ih, e2]
      omega
    · rw [if_neg (fun z => c z.2)]
      have e1 : nxt R (L.getD n 0) ((R - (k + 1) : Nat) : Int) = nxt R (L.getD n 0) ((R - k : Nat) : Int) := by
        unfold nxt
        have a1 : max (L.getD n 0) (((R - (k + 1) : Nat) : Int) + 1) = max (L.getD n 0) (((R - k : Nat) : Int) + 1) := by omega
        rw [a1]
      rw [e1, ih]; rfl
theorem way_end (L : List Int) (R : Nat) : ∀ k, wayN L R k L.length = 1
  | 0 => by rw [wayN, if_pos rfl]
  | k + 1 => by rw [wayN, way_end L R k, if_neg (by omega)]
/-- all limits gone through -/
def tabT (R : Nat) : List Int → List (Int × Int) → List (Int × Int)
  | [], l => l
  | lim :: ls, l => tabT R ls (stepT R lim l [])
def gW (L : List Int) (R n : Nat) (x : Int) : Int := ((wayN L R (R - x.toNat) n : Nat) : Int)
theorem wsum_congr {g f : Int → Int} : ∀ {l : List (Int × Int)}, (∀ p ∈ l, g p.1 = f p.1) → wsum g l = wsum f l
  | [], _ => rfl
  | p :: l, h => by rw [wsum_cons, wsum_cons, h p List.mem_cons_self, wsum_congr fun q hq => h q (List.mem_cons_of_mem _ hq)]
theorem step_gW {L : List Int} {R n : Nat} (hn : n < L.length) {l : List (Int × Int)} (h : TabG R l) : TabG R (stepT R (L.getD n 0) l []) ∧ wsum (gW L R (n + 1)) (stepT R (L.getD n 0) l []) = wsum (gW L R n) l := by
  have hb : ∀ p ∈ l, 0 ≤ p.1 ∧ p.1 ≤ (R : Int) := fun p hp => h.bnd p.1 (List.mem_map_of_mem (f := (·.1)) hp)
  obtain ⟨h1, h2⟩ := stepT_ok (R := R) (gW L R (n + 1)) (L.getD n 0) l [] ⟨by simp, fun x hx => by simp at hx⟩ fun p hp => (hb p hp).1
  refine ⟨h1, h2.trans ?_⟩
  have e0 : wsum (gW L R (n + 1)) [] = 0 := rfl
  rw [e0, Int.zero_add]
  refine wsum_congr fun p hp => ?_
  have b := hb p hp
  have := way_sum (R := R) hn (R - p.1.toNat) (by omega)
  have e : ((R - (R - p.1.toNat) : Nat) : Int) = p.1 := by omega
  rw [e] at this
  exact this
theorem tab_gW {L : List Int} {R : Nat} : ∀ (ls : List Int) (n : Nat) (l : List (Int × Int)), L.drop n = ls → n ≤ L.length → TabG R l → TabG R (tabT R ls l) ∧ wsum (gW L R L.length) (tabT R ls l) = wsum (gW L R n) l
  | [], n, l, e, hn, h => by
    have : n = L.length := by
      have := congrArg List.length e
      simp at this
      omega
    subst this
    exact ⟨h, rfl⟩
  | lim :: ls, n, l, e, hn, h => by
    have hlt : n < L.length := by
      have := congrArg List.length e
      simp at this
      omega
    rw [List.drop_eq_getElem_cons hlt] at e
    injection e with e1 e2
    have e1' : L.getD n 0 = lim := by rw [List.getD_eq_getElem?_getD, List.getElem?_eq_getElem hlt]; exact e1
    obtain ⟨s1, s2⟩ := step_gW (R := R) hlt h
    rw [e1'] at s1 s2
    obtain ⟨t1, t2⟩ := tab_gW ls (n + 1) _ e2 hlt s1
    exact ⟨t1, t2.trans s2⟩
theorem tab_all (L : List Int) (R : Nat) : TabG R (tabT R L [(0, 1)]) ∧ wsum (fun _ => 1) (tabT R L [(0, 1)]) = ((wayN L R R 0 : Nat) : Int) := by
  have g0 : TabG R [(0, 1)] := ⟨by simp, fun x hx => by simp at hx; omega⟩
  obtain ⟨h1, h2⟩ := tab_gW (L := L) (R := R) L 0 [(0, 1)] rfl (Nat.zero_le _) g0
  refine ⟨h1, ?_⟩
  have : wsum (fun _ => 1) (tabT R L [(0, 1)]) = wsum (gW L R L.length) (tabT R L [(0, 1)]) := wsum_congr fun p _ => by
    unfold gW
    rw [way_end]; rfl
  rw [this, h2]
  unfold gW wsum
  simp
theorem vals_sum : ∀ {l : List (Int × Int)}, (l.map (·.1)).Nodup → ((sortI (l.map (·.1))).map fun x => (lk l x).getD 0).sum = wsum (fun _ => 1) l := fun {l} hn => by
  have p1 : ((sortI (l.map (·.1))).map fun x => (lk l x).getD 0).sum = ((l.map (·.1)).map fun x => (lk l x).getD 0).sum := perm_sumI ((sortI_perm _).map _)
  rw [p1, List.map_map]
  unfold wsum
  congr 1
  refine List.map_congr_left fun p hp => ?_
  show (lk l p.1).getD 0 = p.2 * 1
  rw [lk_mem hn hp, Int.mul_one]; rfl
/-! the first set -/
section
variable {L : List Int} {R : Nat}
theorem inc_top (hi : Inc L) (hb : ∀ x ∈ L, x ≤ (R : Int)) : ∀ {i : Nat} {x : Int}, L[i]? = some x → x + ((L.length - 1 - i : Nat) : Int) ≤ (R : Int) := by
  have key : ∀ (j i : Nat) (x : Int), L[i]? = some x → i + j + 1 = L.length → x + (j : Int) ≤ (R : Int) := by
    intro j
    induction j with
    | zero => intro i x hx _; have := hb x (List.mem_of_getElem? hx); omega
    | succ j ih =>
      intro i x hx hl
      have h2 : i + 1 < L.length := by omega
      have hy := List.getElem?_eq_getElem h2
      have := inc_get hi hx hy (by omega)
      have := ih (i + 1) _ hy (by omega)
      omega
  intro i x hx
  have h1 := (List.getElem?_eq_some_iff.mp hx).1
  exact key (L.length - 1 - i) i x hx (by omega)
theorem way_pos (hi : Inc L) (hb : ∀ x ∈ L, x ≤ (R : Int)) : ∀ k n, k ≤ R → n ≤ L.length → L.length - n ≤ k → 1 ≤ wayN L R k n
  | 0, n, _, hn, h => by rw [wayN, if_pos (by omega)]; exact Nat.le_refl _
  | k + 1, n, hk, hn, h => by
    rw [wayN]
    by_cases c : L.length - n ≤ k
    · have := way_pos hi hb k n (by omega) hn c
      omega
    · have hlt : n < L.length := by omega
      have hx := List.getElem?_eq_getElem hlt
      have := inc_top hi hb hx
      have e : L.getD n 0 = L[n] := by rw [List.getD_eq_getElem?_getD, hx]; rfl
      rw [if_pos ⟨hlt, by rw [e]; omega⟩]
      have := way_pos hi hb k (n + 1) (by omega) hlt (by omega)
      omega
theorem way_zero : ∀ k n, k < L.length - n → wayN L R k n = 0
  | 0, n, h => by rw [wayN, if_neg (by omega)]
  | k + 1, n, h => by
    rw [wayN, way_zero k n (by omega), way_zero k (n + 1) (by omega)]
    split <;> rfl
theorem first_set (hi : Inc L) (hb : ∀ x ∈ L, x ≤ (R : Int)) : ∀ k n, k ≤ R → n ≤ L.length → L.length - n ≤ k → setF L R k 0 n = rg ((R : Int) + 1 - k) (k - (L.length - n))
  | 0, n, _, hn, h => by simp [setF, rg]
  | k + 1, n, hk, hn, h => by
    rw [setF]
    by_cases c : L.length - n ≤ k
    · have := way_pos hi hb k n (by omega) hn c
      rw [if_pos (by omega), first_set hi hb k n (by omega) hn c]
      have e1 : k + 1 - (L.length - n) = (k - (L.length - n)) + 1 := by omega
      have e2 : ((R : Int) + 1 - ((k + 1 : Nat) : Int)) = ((R - k : Nat) : Int) := by omega
      have e3 : ((R - k : Nat) : Int) + 1 = (R : Int) + 1 - k := by omega
      rw [e1, e2, rg_cons, e3]
    · have z := way_zero (L := L) (R := R) k n (by omega)
      rw [z, if_neg (by omega), Nat.sub_zero, first_set hi hb k (n + 1) (by omega) (by omega) (by omega)]
      have e1 : k - (L.length - (n + 1)) = 0 := by omega
      have e2 : k + 1 - (L.length - n) = 0 := by omega
      rw [e1, e2]; simp [rg]
/-! one limit less -/
theorem way_tail (x : Int) (L' : List Int) (R : Nat) : ∀ k n, wayN (x :: L') R k (n + 1) = wayN L' R k n
  | 0, n => by rw [wayN, wayN]; simp
  | k + 1, n => by
    rw [wayN, wayN, way_tail x L' R k n, way_tail x L' R k (n + 1)]
    simp
/-- nobody before the first limit may be left out -/
theorem way_skip {L : List Int} {R : Nat} (hl : 0 < L.length) (j : Nat) : ∀ k, j ≤ k → k ≤ R → (R : Int) - j < L.getD 0 0 → wayN L R k 0 = wayN L R j 0
  | 0, h, _, _ => by
    have : j = 0 := by omega
    rw [this]
  | k + 1, h, hk, hx => by
    by_cases e : j = k + 1
    · rw [e]
    · have ih := way_skip hl j k (by omega) (by omega) hx
      rw [wayN, ih, if_neg (fun z => by have := z.2; omega)]
      rfl
theorem way_less {x : Int} {L' : List Int} {R : Nat} (hi : Inc (x :: L')) (h1 : 1 ≤ x) (hR : x ≤ (R : Int)) : wayN L' R R 0 ≤ wayN (x :: L') R R 0 := by
  obtain ⟨j, hj⟩ : ∃ j : Nat, x = ((R - j : Nat) : Int) ∧ j < R := ⟨(R - x).toNat, by omega, by omega⟩
  have s1 : wayN L' R R 0 = wayN L' R j 0 := by
    cases hL : L' with
    | nil =>
      have a := way_end [] R R
      have b := way_end [] R j
      simp only [List.length_nil] at a b
      rw [a, b]
    | cons y L2 =>
      rw [← hL]
      refine way_skip (by rw [hL]; simp) j R (by omega) (Nat.le_refl _) ?_
      rw [hL] at hi ⊢
      have := (List.pairwise_cons.mp hi).1 y List.mem_cons_self
      show (R : Int) - j < y
      omega
  have s2 : wayN L' R j 0 ≤ wayN (x :: L') R (j + 1) 0 := by
    rw [wayN, if_pos ⟨by simp, by show x ≤ _; omega⟩, way_tail]
    omega
  have s3 : wayN (x :: L') R (j + 1) 0 ≤ wayN (x :: L') R R 0 := way_up (by omega)
  omega
end
end HD
end

section
set_option Elab.async false
set_option linter.all false
set_option maxRecDepth 100000
set_option maxHeartbeats 1000000
/-! M10: two numbers of sets, row by row. -/
namespace HD
def stepRow : List Int → Int → List Nat → List Nat
  | lim :: ls, r, a :: b :: rs => (if lim ≤ r then a + b else a) :: stepRow ls r (b :: rs)
  | _, _, row => row
def rowL (L : List Int) (R k : Nat) : Nat → Nat → List Nat
  | 0, n => [wayN L R k n]
  | j + 1, n => wayN L R k n :: rowL L R k j (n + 1)
theorem row_head (L : List Int) (R k : Nat) : ∀ j n, ∃ rs, rowL L R k j n = wayN L R k n :: rs
  | 0, n => ⟨[], rfl⟩
  | j + 1, n => ⟨_, rfl⟩
theorem row_step (L : List Int) (R k : Nat) : ∀ j n, n + j = L.length → stepRow (L.drop n) ((R - k : Nat) : Int) (rowL L R k j n) = rowL L R (k + 1) j n
  | 0, n, h => by
    have : n = L.length := by omega
    subst this
    rw [List.drop_length, rowL, rowL, way_end, way_end]; rfl
  | j + 1, n, h => by
    have hn : n < L.length := by omega
    have ih := row_step L R k j (n + 1) (by omega)
    obtain ⟨rs, e⟩ := row_head L R k j (n + 1)
    rw [List.drop_eq_getElem_cons hn, rowL, rowL, ← ih, e, stepRow, wayN]
    have eg : L.getD n 0 = L[n] := by rw [List.getD_eq_getElem?_getD, List.getElem?_eq_getElem hn]; rfl
    rw [eg]
    by_cases c : L[n] ≤ ((R - k : Nat) : Int)
    · rw [if_pos c, if_pos ⟨hn, c⟩]
    · rw [if_neg c, if_neg fun z => c z.2]; rfl
def chainB (L : List Int) (R : Nat) : Nat → List (List Nat) → Bool
  | k, a :: b :: rs => decide (stepRow L ((R - k : Nat) : Int) a = b) && chainB L R (k + 1) (b :: rs)
  | _, _ => true
theorem chain_row (L : List Int) (R : Nat) : ∀ (rs : List (List Nat)) (k : Nat) (a : List Nat), chainB L R k (a :: rs) = true → a = rowL L R k L.length 0 → (a :: rs).getLastD [] = rowL L R (k + rs.length) L.length 0
  | [], k, a, _, h => by rw [h]; rfl
  | b :: rs, k, a, h, h2 => by
    rw [chainB, Bool.and_eq_true, decide_eq_true_eq] at h
    have e := row_step L R k L.length 0 (by omega)
    rw [List.drop_zero, ← h2, h.1] at e
    have := chain_row L R rs (k + 1) b h.2 e
    rw [show k + (b :: rs).length = k + 1 + rs.length by simp; omega, ← this]
    rfl
theorem row_get (L : List Int) (R k : Nat) (j n : Nat) : (rowL L R k j n).headD 0 = wayN L R k n := by
  obtain ⟨rs, e⟩ := row_head L R k j n
  rw [e]; rfl
def rowsA : List (List Nat) := [
  [0, 0, 0, 0, 0, 0, 0, 0, 0, 0, 0, 0, 0, 0, 0, 0, 0, 0, 0, 0, 0, 0, 0, 0, 0, 0, 0, 0, 0, 0, 1],
  [0, 0, 0, 0, 0, 0, 0, 0, 0, 0, 0, 0, 0, 0, 0, 0, 0, 0, 0, 0, 0, 0, 0, 0, 0, 0, 0, 0, 0, 1, 1],
  [0, 0, 0, 0, 0, 0, 0, 0, 0, 0, 0, 0, 0, 0, 0, 0, 0, 0, 0, 0, 0, 0, 0, 0, 0, 0, 0, 0, 1, 1, 1],
  [0, 0, 0, 0, 0, 0, 0, 0, 0, 0, 0, 0, 0, 0, 0, 0, 0, 0, 0, 0, 0, 0, 0, 0, 0, 0, 0, 1, 2, 1, 1],
  [0, 0, 0, 0, 0, 0, 0, 0, 0, 0, 0, 0, 0, 0, 0, 0, 0, 0, 0, 0, 0, 0, 0, 0, 0, 0, 1, 3, 2, 1, 1],
  [0, 0, 0, 0, 0, 0, 0, 0, 0, 0, 0, 0, 0, 0, 0, 0, 0, 0, 0, 0, 0, 0, 0, 0, 0, 1, 4, 5, 2, 1, 1],
  [0, 0, 0, 0, 0, 0, 0, 0, 0, 0, 0, 0, 0, 0, 0, 0, 0, 0, 0, 0, 0, 0, 0, 0, 1, 5, 9, 5, 2, 1, 1],
  [0, 0, 0, 0, 0, 0, 0, 0, 0, 0, 0, 0, 0, 0, 0, 0, 0, 0, 0, 0, 0, 0, 0, 1, 6, 14, 14, 5, 2, 1, 1],
  [0, 0, 0, 0, 0, 0, 0, 0, 0, 0, 0, 0, 0, 0, 0, 0, 0, 0, 0, 0, 0, 0, 1, 7, 20, 28, 14, 5, 2, 1, 1],
  [0, 0, 0, 0, 0, 0, 0, 0, 0, 0, 0, 0, 0, 0, 0, 0, 0, 0, 0, 0, 0, 1, 8, 27, 48, 42, 14, 5, 2, 1, 1],
  [0, 0, 0, 0, 0, 0, 0, 0, 0, 0, 0, 0, 0, 0, 0, 0, 0, 0, 0, 0, 1, 9, 35, 75, 90, 42, 14, 5, 2, 1, 1],
  [0, 0, 0, 0, 0, 0, 0, 0, 0, 0, 0, 0, 0, 0, 0, 0, 0, 0, 0, 1, 10, 44, 110, 165, 132, 42, 14, 5, 2, 1, 1],
  [0, 0, 0, 0, 0, 0, 0, 0, 0, 0, 0, 0, 0, 0, 0, 0, 0, 0, 1, 11, 54, 154, 275, 297, 132, 42, 14, 5, 2, 1, 1],
  [0, 0, 0, 0, 0, 0, 0, 0, 0, 0, 0, 0, 0, 0, 0, 0, 0, 1, 12, 65, 208, 429, 572, 429, 132, 42, 14, 5, 2, 1, 1],
  [0, 0, 0, 0, 0, 0, 0, 0, 0, 0, 0, 0, 0, 0, 0, 0, 1, 13, 77, 273, 637, 1001, 1001, 429, 132, 42, 14, 5, 2, 1, 1],
  [0, 0, 0, 0, 0, 0, 0, 0, 0, 0, 0, 0, 0, 0, 0, 1, 14, 90, 350, 910, 1638, 2002, 1430, 429, 132, 42, 14, 5, 2, 1, 1],
  [0, 0, 0, 0, 0, 0, 0, 0, 0, 0, 0, 0, 0, 0, 1, 15, 104, 440, 1260, 2548, 3640, 3432, 1430, 429, 132, 42, 14, 5, 2, 1, 1],
  [0, 0, 0, 0, 0, 0, 0, 0, 0, 0, 0, 0, 0, 1, 16, 119, 544, 1700, 3808, 6188, 7072, 4862, 1430, 429, 132, 42, 14, 5, 2, 1, 1],
  [0, 0, 0, 0, 0, 0, 0, 0, 0, 0, 0, 0, 1, 17, 135, 663, 2244, 5508, 9996, 13260, 11934, 4862, 1430, 429, 132, 42, 14, 5, 2, 1, 1],
  [0, 0, 0, 0, 0, 0, 0, 0, 0, 0, 0, 1, 18, 152, 798, 2907, 7752, 15504, 23256, 25194, 16796, 4862, 1430, 429, 132, 42, 14, 5, 2, 1, 1],
  [0, 0, 0, 0, 0, 0, 0, 0, 0, 0, 1, 19, 170, 950, 3705, 10659, 23256, 38760, 48450, 41990, 16796, 4862, 1430, 429, 132, 42, 14, 5, 2, 1, 1],
  [0, 0, 0, 0, 0, 0, 0, 0, 0, 1, 20, 189, 1120, 4655, 14364, 33915, 62016, 87210, 90440, 58786, 16796, 4862, 1430, 429, 132, 42, 14, 5, 2, 1, 1],
  [0, 0, 0, 0, 0, 0, 0, 0, 1, 21, 209, 1309, 5775, 19019, 48279, 95931, 149226, 177650, 149226, 58786, 16796, 4862, 1430, 429, 132, 42, 14, 5, 2, 1, 1],
  [0, 0, 0, 0, 0, 0, 0, 1, 22, 230, 1518, 7084, 24794, 67298, 144210, 245157, 326876, 326876, 208012, 58786, 16796, 4862, 1430, 429, 132, 42, 14, 5, 2, 1, 1],
  [0, 0, 0, 0, 0, 0, 1, 23, 252, 1748, 8602, 31878, 92092, 211508, 389367, 572033, 653752, 534888, 208012, 58786, 16796, 4862, 1430, 429, 132, 42, 14, 5, 2, 1, 1],
  [0, 0, 0, 0, 0, 1, 24, 275, 2000, 10350, 40480, 123970, 303600, 600875, 961400, 1225785, 1188640, 742900, 208012, 58786, 16796, 4862, 1430, 429, 132, 42, 14, 5, 2, 1, 1],
  [0, 0, 0, 0, 1, 25, 299, 2275, 12350, 50830, 164450, 427570, 904475, 1562275, 2187185, 2414425, 1931540, 742900, 208012, 58786, 16796, 4862, 1430, 429, 132, 42, 14, 5, 2, 1, 1],
  [0, 0, 0, 1, 26, 324, 2574, 14625, 63180, 215280, 592020, 1332045, 2466750, 3749460, 4601610, 4345965, 2674440, 742900, 208012, 58786, 16796, 4862, 1430, 429, 132, 42, 14, 5, 2, 1, 1],
  [0, 0, 1, 27, 350, 2898, 17199, 77805, 278460, 807300, 1924065, 3798795, 6216210, 8351070, 8947575, 7020405, 2674440, 742900, 208012, 58786, 16796, 4862, 1430, 429, 132, 42, 14, 5, 2, 1, 1],
  [0, 1, 28, 377, 3248, 20097, 95004, 356265, 1085760, 2731365, 5722860, 10015005, 14567280, 17298645, 15967980, 9694845, 2674440, 742900, 208012, 58786, 16796, 4862, 1430, 429, 132, 42, 14, 5, 2, 1, 1],
  [1, 29, 405, 3625, 23345, 115101, 451269, 1442025, 3817125, 8454225, 15737865, 24582285, 31865925, 33266625, 25662825, 9694845, 2674440, 742900, 208012, 58786, 16796, 4862, 1430, 429, 132, 42, 14, 5, 2, 1, 1],
  [30, 434, 4030, 26970, 138446, 566370, 1893294, 5259150, 12271350, 24192090, 40320150, 56448210, 65132550, 58929450, 35357670, 9694845, 2674440, 742900, 208012, 58786, 16796, 4862, 1430, 429, 132, 42, 14, 5, 2, 1, 1],
  [464, 4464, 31000, 165416, 704816, 2459664, 7152444, 17530500, 36463440, 64512240, 96768360, 121580760, 124062000, 94287120, 35357670, 9694845, 2674440, 742900, 208012, 58786, 16796, 4862, 1430, 429, 132, 42, 14, 5, 2, 1, 1],
  [4928, 35464, 196416, 870232, 3164480, 9612108, 24682944, 53993940, 100975680, 161280600, 218349120, 245642760, 218349120, 129644790, 35357670, 9694845, 2674440, 742900, 208012, 58786, 16796, 4862, 1430, 429, 132, 42, 14, 5, 2, 1, 1],
  [40392, 231880, 1066648, 4034712, 12776588, 34295052, 78676884, 154969620, 262256280, 379629720, 463991880, 463991880, 347993910, 129644790, 35357670, 9694845, 2674440, 742900, 208012, 58786, 16796, 4862, 1430, 429, 132, 42, 14, 5, 2, 1, 1],
  [272272, 1298528, 5101360, 16811300, 47071640, 112971936, 233646504, 417225900, 641886000, 843621600, 927983760, 811985790, 477638700, 129644790, 35357670, 9694845, 2674440, 742900, 208012, 58786, 16796, 4862, 1430, 429, 132, 42, 14, 5, 2, 1, 1],
  [1570800, 6399888, 21912660, 63882940, 160043576, 346618440, 650872404, 1059111900, 1485507600, 1771605360, 1739969550, 1289624490, 477638700, 129644790, 35357670, 9694845, 2674440, 742900, 208012, 58786, 16796, 4862, 1430, 429, 132, 42, 14, 5, 2, 1, 1],
  [7970688, 28312548, 85795600, 223926516, 506662016, 997490844, 1709984304, 2544619500, 3257112960, 3511574910, 3029594040, 1767263190, 477638700, 129644790, 35357670, 9694845, 2674440, 742900, 208012, 58786, 16796, 4862, 1430, 429, 132, 42, 14, 5, 2, 1, 1],
  [36283236, 114108148, 309722116, 730588532, 1504152860, 2707475148, 4254603804, 5801732460, 6768687870, 6541168950, 4796857230, 1767263190, 477638700, 129644790, 35357670, 9694845, 2674440, 742900, 208012, 58786, 16796, 4862, 1430, 429, 132, 42, 14, 5, 2, 1, 1],
  [150391384, 423830264, 1040310648, 2234741392, 4211628008, 6962078952, 10056336264, 12570420330, 13309856820, 11338026180, 6564120420, 1767263190, 477638700, 129644790, 35357670, 9694845, 2674440, 742900, 208012, 58786, 16796, 4862, 1430, 429, 132, 42, 14, 5, 2, 1, 1],
  [574221648, 1464140912, 3275052040, 6446369400, 11173706960, 17018415216, 22626756594, 25880277150, 24647883000, 17902146600, 6564120420, 1767263190, 477638700, 129644790, 35357670, 9694845, 2674440, 742900, 208012, 58786, 16796, 4862, 1430, 429, 132, 42, 14, 5, 2, 1, 1],
  [2038362560, 4739192952, 9721421440, 17620076360, 28192122176, 39645171810, 48507033744, 50528160150, 42550029600, 24466267020, 6564120420, 1767263190, 477638700, 129644790, 35357670, 9694845, 2674440, 742900, 208012, 58786, 16796, 4862, 1430, 429, 132, 42, 14, 5, 2, 1, 1],
  [6777555512, 14460614392, 27341497800, 45812198536, 67837293986, 88152205554, 99035193894, 93078189750, 67016296620, 24466267020, 6564120420, 1767263190, 477638700, 129644790, 35357670, 9694845, 2674440, 742900, 208012, 58786, 16796, 4862, 1430, 429, 132, 42, 14, 5, 2, 1, 1],
  [21238169904, 41802112192, 73153696336, 113649492522, 155989499540, 187187399448, 192113383644, 160094486370, 91482563640, 24466267020, 6564120420, 1767263190, 477638700, 129644790, 35357670, 9694845, 2674440, 742900, 208012, 58786, 16796, 4862, 1430, 429, 132, 42, 14, 5, 2, 1, 1],
  [63040282096, 114955808528, 186803188858, 269638992062, 343176898988, 379300783092, 352207870014, 251577050010, 91482563640, 24466267020, 6564120420, 1767263190, 477638700, 129644790, 35357670, 9694845, 2674440, 742900, 208012, 58786, 16796, 4862, 1430, 429, 132, 42, 14, 5, 2, 1, 1],
  [177996090624, 301758997386, 456442180920, 612815891050, 722477682080, 731508653106, 603784920024, 343059613650, 91482563640, 24466267020, 6564120420, 1767263190, 477638700, 129644790, 35357670, 9694845, 2674440, 742900, 208012, 58786, 16796, 4862, 1430, 429, 132, 42, 14, 5, 2, 1, 1],
  [479755088010, 758201178306, 1069258071970, 1335293573130, 1453986335186, 1335293573130, 946844533674, 343059613650, 91482563640, 24466267020, 6564120420, 1767263190, 477638700, 129644790, 35357670, 9694845, 2674440, 742900, 208012, 58786, 16796, 4862, 1430, 429, 132, 42, 14, 5, 2, 1, 1],
  [1237956266316, 1827459250276, 2404551645100, 2789279908316, 2789279908316, 2282138106804, 1289904147324, 343059613650, 91482563640, 24466267020, 6564120420, 1767263190, 477638700, 129644790, 35357670, 9694845, 2674440, 742900, 208012, 58786, 16796, 4862, 1430, 429, 132, 42, 14, 5, 2, 1, 1],
  [3065415516592, 4232010895376, 5193831553416, 5578559816632, 5071418015120, 3572042254128, 1289904147324, 343059613650, 91482563640, 24466267020, 6564120420, 1767263190, 477638700, 129644790, 35357670, 9694845, 2674440, 742900, 208012, 58786, 16796, 4862, 1430, 429, 132, 42, 14, 5, 2, 1, 1],
  [7297426411968, 9425842448792, 10772391370048, 10649977831752, 8643460269248, 4861946401452, 1289904147324, 343059613650, 91482563640, 24466267020, 6564120420, 1767263190, 477638700, 129644790, 35357670, 9694845, 2674440, 742900, 208012, 58786, 16796, 4862, 1430, 429, 132, 42, 14, 5, 2, 1, 1],
  [16723268860760, 20198233818840, 21422369201800, 19293438101000, 13505406670700, 4861946401452, 1289904147324, 343059613650, 91482563640, 24466267020, 6564120420, 1767263190, 477638700, 129644790, 35357670, 9694845, 2674440, 742900, 208012, 58786, 16796, 4862, 1430, 429, 132, 42, 14, 5, 2, 1, 1],
  [36921502679600, 41620603020640, 40715807302800, 32798844771700, 18367353072152, 4861946401452, 1289904147324, 343059613650, 91482563640, 24466267020, 6564120420, 1767263190, 477638700, 129644790, 35357670, 9694845, 2674440, 742900, 208012, 58786, 16796, 4862, 1430, 429, 132, 42, 14, 5, 2, 1, 1],
  [78542105700240, 82336410323440, 73514652074500, 51166197843852, 18367353072152, 4861946401452, 1289904147324, 343059613650, 91482563640, 24466267020, 6564120420, 1767263190, 477638700, 129644790, 35357670, 9694845, 2674440, 742900, 208012, 58786, 16796, 4862, 1430, 429, 132, 42, 14, 5, 2, 1, 1],
  [160878516023680, 155851062397940, 124680849918352, 69533550916004, 18367353072152, 4861946401452, 1289904147324, 343059613650, 91482563640, 24466267020, 6564120420, 1767263190, 477638700, 129644790, 35357670, 9694845, 2674440, 742900, 208012, 58786, 16796, 4862, 1430, 429, 132, 42, 14, 5, 2, 1, 1],
  [316729578421620, 280531912316292, 194214400834356, 69533550916004, 18367353072152, 4861946401452, 1289904147324, 343059613650, 91482563640, 24466267020, 6564120420, 1767263190, 477638700, 129644790, 35357670, 9694845, 2674440, 742900, 208012, 58786, 16796, 4862, 1430, 429, 132, 42, 14, 5, 2, 1, 1],
  [597261490737912, 474746313150648, 263747951750360, 69533550916004, 18367353072152, 4861946401452, 1289904147324, 343059613650, 91482563640, 24466267020, 6564120420, 1767263190, 477638700, 129644790, 35357670, 9694845, 2674440, 742900, 208012, 58786, 16796, 4862, 1430, 429, 132, 42, 14, 5, 2, 1, 1],
  [1072007803888560, 738494264901008, 263747951750360, 69533550916004, 18367353072152, 4861946401452, 1289904147324, 343059613650, 91482563640, 24466267020, 6564120420, 1767263190, 477638700, 129644790, 35357670, 9694845, 2674440, 742900, 208012, 58786, 16796, 4862, 1430, 429, 132, 42, 14, 5, 2, 1, 1],
  [1810502068789568, 1002242216651368, 263747951750360, 69533550916004, 18367353072152, 4861946401452, 1289904147324, 343059613650, 91482563640, 24466267020, 6564120420, 1767263190, 477638700, 129644790, 35357670, 9694845, 2674440, 742900, 208012, 58786, 16796, 4862, 1430, 429, 132, 42, 14, 5, 2, 1, 1],
  [2812744285440936, 1002242216651368, 263747951750360, 69533550916004, 18367353072152, 4861946401452, 1289904147324, 343059613650, 91482563640, 24466267020, 6564120420, 1767263190, 477638700, 129644790, 35357670, 9694845, 2674440, 742900, 208012, 58786, 16796, 4862, 1430, 429, 132, 42, 14, 5, 2, 1, 1],
  [3814986502092304, 1002242216651368, 263747951750360, 69533550916004, 18367353072152, 4861946401452, 1289904147324, 343059613650, 91482563640, 24466267020, 6564120420, 1767263190, 477638700, 129644790, 35357670, 9694845, 2674440, 742900, 208012, 58786, 16796, 4862, 1430, 429, 132, 42, 14, 5, 2, 1, 1],
  [3814986502092304, 1002242216651368, 263747951750360, 69533550916004, 18367353072152, 4861946401452, 1289904147324, 343059613650, 91482563640, 24466267020, 6564120420, 1767263190, 477638700, 129644790, 35357670, 9694845, 2674440, 742900, 208012, 58786, 16796, 4862, 1430, 429, 132, 42, 14, 5, 2, 1, 1]]
def rowsB : List (List Nat) := [
  [0, 0, 0, 0, 0, 0, 0, 0, 0, 0, 0, 0, 0, 0, 0, 0, 0, 0, 0, 0, 0, 0, 0, 0, 0, 0, 0, 0, 0, 0, 1],
  [0, 0, 0, 0, 0, 0, 0, 0, 0, 0, 0, 0, 0, 0, 0, 0, 0, 0, 0, 0, 0, 0, 0, 0, 0, 0, 0, 0, 0, 1, 1],
  [0, 0, 0, 0, 0, 0, 0, 0, 0, 0, 0, 0, 0, 0, 0, 0, 0, 0, 0, 0, 0, 0, 0, 0, 0, 0, 0, 0, 1, 1, 1],
  [0, 0, 0, 0, 0, 0, 0, 0, 0, 0, 0, 0, 0, 0, 0, 0, 0, 0, 0, 0, 0, 0, 0, 0, 0, 0, 0, 1, 1, 1, 1],
  [0, 0, 0, 0, 0, 0, 0, 0, 0, 0, 0, 0, 0, 0, 0, 0, 0, 0, 0, 0, 0, 0, 0, 0, 0, 0, 1, 1, 1, 1, 1],
  [0, 0, 0, 0, 0, 0, 0, 0, 0, 0, 0, 0, 0, 0, 0, 0, 0, 0, 0, 0, 0, 0, 0, 0, 0, 1, 1, 1, 1, 1, 1],
  [0, 0, 0, 0, 0, 0, 0, 0, 0, 0, 0, 0, 0, 0, 0, 0, 0, 0, 0, 0, 0, 0, 0, 0, 1, 1, 1, 1, 1, 1, 1],
  [0, 0, 0, 0, 0, 0, 0, 0, 0, 0, 0, 0, 0, 0, 0, 0, 0, 0, 0, 0, 0, 0, 0, 1, 1, 1, 1, 1, 1, 1, 1],
  [0, 0, 0, 0, 0, 0, 0, 0, 0, 0, 0, 0, 0, 0, 0, 0, 0, 0, 0, 0, 0, 0, 1, 1, 1, 1, 1, 1, 1, 1, 1],
  [0, 0, 0, 0, 0, 0, 0, 0, 0, 0, 0, 0, 0, 0, 0, 0, 0, 0, 0, 0, 0, 1, 1, 1, 1, 1, 1, 1, 1, 1, 1],
  [0, 0, 0, 0, 0, 0, 0, 0, 0, 0, 0, 0, 0, 0, 0, 0, 0, 0, 0, 0, 1, 1, 1, 1, 1, 1, 1, 1, 1, 1, 1],
  [0, 0, 0, 0, 0, 0, 0, 0, 0, 0, 0, 0, 0, 0, 0, 0, 0, 0, 0, 1, 1, 1, 1, 1, 1, 1, 1, 1, 1, 1, 1],
  [0, 0, 0, 0, 0, 0, 0, 0, 0, 0, 0, 0, 0, 0, 0, 0, 0, 0, 1, 1, 1, 1, 1, 1, 1, 1, 1, 1, 1, 1, 1],
  [0, 0, 0, 0, 0, 0, 0, 0, 0, 0, 0, 0, 0, 0, 0, 0, 0, 1, 1, 1, 1, 1, 1, 1, 1, 1, 1, 1, 1, 1, 1],
  [0, 0, 0, 0, 0, 0, 0, 0, 0, 0, 0, 0, 0, 0, 0, 0, 1, 1, 1, 1, 1, 1, 1, 1, 1, 1, 1, 1, 1, 1, 1],
  [0, 0, 0, 0, 0, 0, 0, 0, 0, 0, 0, 0, 0, 0, 0, 1, 1, 1, 1, 1, 1, 1, 1, 1, 1, 1, 1, 1, 1, 1, 1],
  [0, 0, 0, 0, 0, 0, 0, 0, 0, 0, 0, 0, 0, 0, 1, 1, 1, 1, 1, 1, 1, 1, 1, 1, 1, 1, 1, 1, 1, 1, 1],
  [0, 0, 0, 0, 0, 0, 0, 0, 0, 0, 0, 0, 0, 1, 1, 1, 1, 1, 1, 1, 1, 1, 1, 1, 1, 1, 1, 1, 1, 1, 1],
  [0, 0, 0, 0, 0, 0, 0, 0, 0, 0, 0, 0, 1, 1, 1, 1, 1, 1, 1, 1, 1, 1, 1, 1, 1, 1, 1, 1, 1, 1, 1],
  [0, 0, 0, 0, 0, 0, 0, 0, 0, 0, 0, 1, 1, 1, 1, 1, 1, 1, 1, 1, 1, 1, 1, 1, 1, 1, 1, 1, 1, 1, 1],
  [0, 0, 0, 0, 0, 0, 0, 0, 0, 0, 1, 1, 1, 1, 1, 1, 1, 1, 1, 1, 1, 1, 1, 1, 1, 1, 1, 1, 1, 1, 1],
  [0, 0, 0, 0, 0, 0, 0, 0, 0, 1, 1, 1, 1, 1, 1, 1, 1, 1, 1, 1, 1, 1, 1, 1, 1, 1, 1, 1, 1, 1, 1],
  [0, 0, 0, 0, 0, 0, 0, 0, 1, 1, 1, 1, 1, 1, 1, 1, 1, 1, 1, 1, 1, 1, 1, 1, 1, 1, 1, 1, 1, 1, 1],
  [0, 0, 0, 0, 0, 0, 0, 1, 1, 1, 1, 1, 1, 1, 1, 1, 1, 1, 1, 1, 1, 1, 1, 1, 1, 1, 1, 1, 1, 1, 1],
  [0, 0, 0, 0, 0, 0, 1, 1, 1, 1, 1, 1, 1, 1, 1, 1, 1, 1, 1, 1, 1, 1, 1, 1, 1, 1, 1, 1, 1, 1, 1],
  [0, 0, 0, 0, 0, 1, 1, 1, 1, 1, 1, 1, 1, 1, 1, 1, 1, 1, 1, 1, 1, 1, 1, 1, 1, 1, 1, 1, 1, 1, 1],
  [0, 0, 0, 0, 1, 1, 1, 1, 1, 1, 1, 1, 1, 1, 1, 1, 1, 1, 1, 1, 1, 1, 1, 1, 1, 1, 1, 1, 1, 1, 1],
  [0, 0, 0, 1, 1, 1, 1, 1, 1, 1, 1, 1, 1, 1, 1, 1, 1, 1, 1, 1, 1, 1, 1, 1, 1, 1, 1, 1, 1, 1, 1],
  [0, 0, 1, 1, 1, 1, 1, 1, 1, 1, 1, 1, 1, 1, 1, 1, 1, 1, 1, 1, 1, 1, 1, 1, 1, 1, 1, 1, 1, 1, 1],
  [0, 1, 1, 1, 1, 1, 1, 1, 1, 1, 1, 1, 1, 1, 1, 1, 1, 1, 1, 1, 1, 1, 1, 1, 1, 1, 1, 1, 1, 1, 1],
  [1, 1, 1, 1, 1, 1, 1, 1, 1, 1, 1, 1, 1, 1, 1, 1, 1, 1, 1, 1, 1, 1, 1, 1, 1, 1, 1, 1, 1, 1, 1],
  [1, 1, 1, 1, 1, 1, 1, 1, 1, 1, 1, 1, 1, 1, 1, 1, 1, 1, 1, 1, 1, 1, 1, 1, 1, 1, 1, 1, 1, 1, 1],
  [1, 1, 1, 1, 1, 1, 1, 1, 1, 1, 1, 1, 1, 1, 1, 1, 1, 1, 1, 1, 1, 1, 1, 1, 1, 1, 1, 1, 1, 1, 1],
  [1, 1, 1, 1, 1, 1, 1, 1, 1, 1, 1, 1, 1, 1, 1, 1, 1, 1, 1, 1, 1, 1, 1, 1, 1, 1, 1, 1, 1, 1, 1],
  [1, 1, 1, 1, 1, 1, 1, 1, 1, 1, 1, 1, 1, 1, 1, 1, 1, 1, 1, 1, 1, 1, 1, 1, 1, 1, 1, 1, 1, 1, 1],
  [1, 1, 1, 1, 1, 1, 1, 1, 1, 1, 1, 1, 1, 1, 1, 1, 1, 1, 1, 1, 1, 1, 1, 1, 1, 1, 1, 1, 1, 1, 1],
  [1, 1, 1, 1, 1, 1, 1, 1, 1, 1, 1, 1, 1, 1, 1, 1, 1, 1, 1, 1, 1, 1, 1, 1, 1, 1, 1, 1, 1, 1, 1],
  [1, 1, 1, 1, 1, 1, 1, 1, 1, 1, 1, 1, 1, 1, 1, 1, 1, 1, 1, 1, 1, 1, 1, 1, 1, 1, 1, 1, 1, 1, 1],
  [1, 1, 1, 1, 1, 1, 1, 1, 1, 1, 1, 1, 1, 1, 1, 1, 1, 1, 1, 1, 1, 1, 1, 1, 1, 1, 1, 1, 1, 1, 1],
  [1, 1, 1, 1, 1, 1, 1, 1, 1, 1, 1, 1, 1, 1, 1, 1, 1, 1, 1, 1, 1, 1, 1, 1, 1, 1, 1, 1, 1, 1, 1],
  [1, 1, 1, 1, 1, 1, 1, 1, 1, 1, 1, 1, 1, 1, 1, 1, 1, 1, 1, 1, 1, 1, 1, 1, 1, 1, 1, 1, 1, 1, 1],
  [1, 1, 1, 1, 1, 1, 1, 1, 1, 1, 1, 1, 1, 1, 1, 1, 1, 1, 1, 1, 1, 1, 1, 1, 1, 1, 1, 1, 1, 1, 1],
  [1, 1, 1, 1, 1, 1, 1, 1, 1, 1, 1, 1, 1, 1, 1, 1, 1, 1, 1, 1, 1, 1, 1, 1, 1, 1, 1, 1, 1, 1, 1],
  [1, 1, 1, 1, 1, 1, 1, 1, 1, 1, 1, 1, 1, 1, 1, 1, 1, 1, 1, 1, 1, 1, 1, 1, 1, 1, 1, 1, 1, 1, 1],
  [1, 1, 1, 1, 1, 1, 1, 1, 1, 1, 1, 1, 1, 1, 1, 1, 1, 1, 1, 1, 1, 1, 1, 1, 1, 1, 1, 1, 1, 1, 1],
  [1, 1, 1, 1, 1, 1, 1, 1, 1, 1, 1, 1, 1, 1, 1, 1, 1, 1, 1, 1, 1, 1, 1, 1, 1, 1, 1, 1, 1, 1, 1],
  [1, 1, 1, 1, 1, 1, 1, 1, 1, 1, 1, 1, 1, 1, 1, 1, 1, 1, 1, 1, 1, 1, 1, 1, 1, 1, 1, 1, 1, 1, 1],
  [1, 1, 1, 1, 1, 1, 1, 1, 1, 1, 1, 1, 1, 1, 1, 1, 1, 1, 1, 1, 1, 1, 1, 1, 1, 1, 1, 1, 1, 1, 1],
  [1, 1, 1, 1, 1, 1, 1, 1, 1, 1, 1, 1, 1, 1, 1, 1, 1, 1, 1, 1, 1, 1, 1, 1, 1, 1, 1, 1, 1, 1, 1],
  [1, 1, 1, 1, 1, 1, 1, 1, 1, 1, 1, 1, 1, 1, 1, 1, 1, 1, 1, 1, 1, 1, 1, 1, 1, 1, 1, 1, 1, 1, 1],
  [1, 1, 1, 1, 1, 1, 1, 1, 1, 1, 1, 1, 1, 1, 1, 1, 1, 1, 1, 1, 1, 1, 1, 1, 1, 1, 1, 1, 1, 1, 1],
  [1, 1, 1, 1, 1, 1, 1, 1, 1, 1, 1, 1, 1, 1, 1, 1, 1, 1, 1, 1, 1, 1, 1, 1, 1, 1, 1, 1, 1, 1, 1],
  [1, 1, 1, 1, 1, 1, 1, 1, 1, 1, 1, 1, 1, 1, 1, 1, 1, 1, 1, 1, 1, 1, 1, 1, 1, 1, 1, 1, 1, 1, 1],
  [1, 1, 1, 1, 1, 1, 1, 1, 1, 1, 1, 1, 1, 1, 1, 1, 1, 1, 1, 1, 1, 1, 1, 1, 1, 1, 1, 1, 1, 1, 1],
  [1, 1, 1, 1, 1, 1, 1, 1, 1, 1, 1, 1, 1, 1, 1, 1, 1, 1, 1, 1, 1, 1, 1, 1, 1, 1, 1, 1, 1, 1, 1],
  [1, 1, 1, 1, 1, 1, 1, 1, 1, 1, 1, 1, 1, 1, 1, 1, 1, 1, 1, 1, 1, 1, 1, 1, 1, 1, 1, 1, 1, 1, 1],
  [1, 1, 1, 1, 1, 1, 1, 1, 1, 1, 1, 1, 1, 1, 1, 1, 1, 1, 1, 1, 1, 1, 1, 1, 1, 1, 1, 1, 1, 1, 1],
  [1, 1, 1, 1, 1, 1, 1, 1, 1, 1, 1, 1, 1, 1, 1, 1, 1, 1, 1, 1, 1, 1, 1, 1, 1, 1, 1, 1, 1, 1, 1],
  [1, 1, 1, 1, 1, 1, 1, 1, 1, 1, 1, 1, 1, 1, 1, 1, 1, 1, 1, 1, 1, 1, 1, 1, 1, 1, 1, 1, 1, 1, 1],
  [1, 1, 1, 1, 1, 1, 1, 1, 1, 1, 1, 1, 1, 1, 1, 1, 1, 1, 1, 1, 1, 1, 1, 1, 1, 1, 1, 1, 1, 1, 1],
  [1, 1, 1, 1, 1, 1, 1, 1, 1, 1, 1, 1, 1, 1, 1, 1, 1, 1, 1, 1, 1, 1, 1, 1, 1, 1, 1, 1, 1, 1, 1]]
def limA : List Int := [2, 4, 6, 8, 10, 12, 14, 16, 18, 20, 22, 24, 26, 28, 30, 32, 34, 36, 38, 40, 42, 44, 46, 48, 50, 52, 54, 56, 58, 60]
def limB : List Int := [31, 32, 33, 34, 35, 36, 37, 38, 39, 40, 41, 42, 43, 44, 45, 46, 47, 48, 49, 50, 51, 52, 53, 54, 55, 56, 57, 58, 59, 60]
theorem way_A : wayN limA 60 60 0 = 3814986502092304 := by
  have h := chain_row limA 60 rowsA.tail 0 (rowsA.headD []) (by decide +kernel) (by decide +kernel)
  have e : rowsA.headD [] :: rowsA.tail = rowsA := by decide +kernel
  have l : 0 + rowsA.tail.length = 60 := by decide +kernel
  rw [e, l] at h
  have g := row_get limA 60 60 limA.length 0
  rw [← h] at g
  rw [← g]
  decide +kernel
theorem way_B : wayN limB 60 60 0 = 1 := by
  have h := chain_row limB 60 rowsB.tail 0 (rowsB.headD []) (by decide +kernel) (by decide +kernel)
  have e : rowsB.headD [] :: rowsB.tail = rowsB := by decide +kernel
  have l : 0 + rowsB.tail.length = 60 := by decide +kernel
  rw [e, l] at h
  have g := row_get limB 60 60 limB.length 0
  rw [← h] at g
  rw [← g]
  decide +kernel
end HD
end

section
set_option Elab.async false
set_option linter.all false
set_option maxRecDepth 100000
set_option maxHeartbeats 2000000
/-! B33: the law's own table. -/
namespace HD
open L2 (atI ixN)
def kdI (l : List (Int × Int)) : List (L2.Key × D) := l.map fun p => ((.inl p.1 : L2.Key), D.int p.2)
theorem lookD_kd (y : Int) : ∀ l : List (Int × Int), lookD (kdI l) (.inl y) = (lk l y).map D.int
  | [] => rfl
  | (a, v) :: l => by
    show lookD (((.inl a : L2.Key), D.int v) :: kdI l) (.inl y) = _
    rw [lookD_cons, lk_cons, lookD_kd y l]
    by_cases h : a = y
    · subst h; simp
    · have : ¬ ((.inl a : L2.Key) = .inl y) := fun z => h (Sum.inl.inj z)
      rw [if_neg this, if_neg h]
theorem putD_kd (l : List (Int × Int)) (y v : Int) : putD (kdI l) (.inl y) (.int v) = kdI (pt l y v) := by
  unfold putD pt
  rw [lookD_kd, Option.isSome_map]
  split
  · unfold kdI
    rw [List.map_map, List.map_map]
    refine List.map_congr_left fun p _ => ?_
    show (if (.inl p.1 : L2.Key) = .inl y then ((.inl p.1 : L2.Key), D.int v) else ((.inl p.1 : L2.Key), D.int p.2)) = _
    by_cases h : p.1 = y
    · simp [h]
    · have : ¬ ((.inl p.1 : L2.Key) = .inl y) := fun z => h (Sum.inl.inj z)
      simp [h, this]
  · unfold kdI
    rw [List.map_append]; rfl
theorem keyInts_kd : ∀ l : List (Int × Int), keyInts (kdI l) = some (l.map (·.1))
  | [] => rfl
  | (a, v) :: l => by
    show (keyInts (kdI l)).map (a :: ·) = _
    rw [keyInts_kd l]; rfl
theorem l_sortedK {l : List (Int × Int)} (h : l.length < 64) (m : Mem) : bltop .sorted [.dk (kdI l)] m = .ok (LI (sortI (l.map (·.1)))) m := by
  show sortedop (.dk (kdI l)) m = _
  unfold sortedop
  have e1 : intsAt false m (.dk (kdI l)) = none := by simp [intsAt, seqD]
  have e2 : intsAt true m (.dk (kdI l)) = none := by simp [intsAt, seqD]
  rw [e1, e2]
  simp only [keyInts_kd, List.length_map, h, if_true]
theorem ix_kd {l : List (Int × Int)} {x v : Int} (h : lk l x = some v) (m : Mem) : ixop (.dk (kdI l)) (.int x) m = .ok (.int v) m := by
  simp [ixop, seqD, dlook, keyOf, lookD_kd, h]
theorem get_kd {l : List (Int × Int)} {m : Mem} {n : Nat} (hn : m[n]? = some (.dk (kdI l))) (y : Int) : getop (.ref n) (.int y) (.int 0) m = .ok (.int ((lk l y).getD 0)) m := by
  unfold getop
  have : dlook m (.ref n) (.int y) = some ((lk l y).map D.int) := by simp [dlook, hn, keyOf, lookD_kd]
  rw [this]
  cases lk l y <;> rfl
theorem isDic_kd {m : Mem} {n : Nat} {kd : List (L2.Key × D)} (hn : m[n]? = some (.dk kd)) : isDic m (.ref n) = true := by simp [isDic, hn]
section
variable {R : Nat} {w : List (Int × Int)}
theorem tab_b1 {x c : Int} (hw : lk w x = some c) (M : Mem) (x0 x1 x3 : Option D) : ∀ (ys : List Int) (l : List (Int × Int)) (x6 : Option D), TabG R l → R ≤ 1000 → (∀ y ∈ ys, 0 ≤ y ∧ y ≤ (R : Int)) →
    ∃ y6, forL (evSs Φ f_law_table_b1) (.nm 6) (ys.map .int) [x0, x1, some (.dk (kdI w)), x3, some (.ref M.length), some (.int x), x6] (M ++ [.dk (kdI l)]) =
      .nx [x0, x1, some (.dk (kdI w)), x3, some (.ref M.length), some (.int x), y6] (M ++ [.dk (kdI (addAll c ys l))])
  | [], l, x6, _, _, _ => ⟨x6, rfl⟩
  | y :: ys, l, x6, h, hR, hy => by
    have h1 := h.put (hy y List.mem_cons_self) ((lk l y).getD 0 + c)
    obtain ⟨y6, e⟩ := tab_b1 hw M x0 x1 x3 ys (pt l y ((lk l y).getD 0 + c)) (some (.int y)) h1 hR fun z hz => hy z (List.mem_cons_of_mem _ hz)
    refine ⟨y6, ?_⟩
    have hg := get_app M (.dk (kdI l))
    have hl : (kdI l).length < 16777216 := by
      unfold kdI
      rw [List.length_map]
      have := h.len
      omega
    have pp := putop_dk hg hl y (.int ((lk l y).getD 0 + c))
    rw [set_app, putD_kd] at pp
    have body : evSs Φ f_law_table_b1 [x0, x1, some (.dk (kdI w)), x3, some (.ref M.length), some (.int x), some (.int y)] (M ++ [.dk (kdI l)]) = .nx [x0, x1, some (.dk (kdI w)), x3, some (.ref M.length), some (.int x), some (.int y)] (M ++ [.dk (kdI (pt l y ((lk l y).getD 0 + c)))]) := by
      simp only [f_law_table_b1, y_cons, y_put, x_bin, x_get, x_var, x_int, x_ix, look_zero, look_succ, Res.bind_ok, isDic_kd hg, if_true, get_kd hg, ix_kd hw, b_add, Res.toS_ok, pp, okM_some, SRes.bind_nx, y_nil]
    rw [List.map_cons, forL]
    simp only [bindTg_nm, List.set, body, SRes.bind_nx]
    exact e
theorem tab_b2 (lim : Int) (hlim : -1000000 ≤ lim ∧ lim ≤ 1000000) (M : Mem) (x0 : Option D) : ∀ (ps l : List (Int × Int)) (x5 x6 : Option D), TabG R l → R ≤ 1000 → (∀ p ∈ ps, lk w p.1 = some p.2 ∧ 0 ≤ p.1 ∧ p.1 ≤ (R : Int)) →
    ∃ y5 y6, forL (evSs Φ f_law_table_b2) (.nm 5) ((ps.map (·.1)).map .int) [x0, some (.int R), some (.dk (kdI w)), some (.int lim), some (.ref M.length), x5, x6] (M ++ [.dk (kdI l)]) =
      .nx [x0, some (.int R), some (.dk (kdI w)), some (.int lim), some (.ref M.length), y5, y6] (M ++ [.dk (kdI (stepT R lim ps l))])
  | [], l, x5, x6, _, _, _ => ⟨x5, x6, rfl⟩
  | p :: ps, l, x5, x6, h, hR, hp => by
    obtain ⟨q1, q2⟩ := hp p List.mem_cons_self
    obtain ⟨y6, e1⟩ := tab_b1 (R := R) q1 M x0 (some (.int R)) (some (.int lim)) (nxt R lim p.1) l x6 h hR fun y hy => nxt_mem q2.1 hy
    obtain ⟨a1, _⟩ := addAll_ok (R := R) (fun _ => 0) p.2 (nxt R lim p.1) l h fun y hy => nxt_mem q2.1 hy
    obtain ⟨z5, z6, e2⟩ := tab_b2 lim hlim M x0 ps (addAll p.2 (nxt R lim p.1) l) (some (.int p.1)) y6 a1 hR fun z hz => hp z (List.mem_cons_of_mem _ hz)
    refine ⟨z5, z6, ?_⟩
    have rn : itsOf .rng2 (evL Φ [.blt .max2 [.var 3, .bin .add (.var 5) (.int 1)], .bin .add (.var 1) (.int 1)] [x0, some (.int R), some (.dk (kdI w)), some (.int lim), some (.ref M.length), some (.int p.1), x6] (M ++ [.dk (kdI l)])) = .ok ((nxt R lim p.1).map .int) (M ++ [.dk (kdI l)]) := by
      simp only [x_cons, x_nil, x_blt, x_bin, x_var, x_int, look_zero, look_succ, Res.bind_ok, b_add, l_max2]
      rw [its_rng2 _ _ (by omega), nxt, rngD_rg]
    have body : evSs Φ f_law_table_b2 [x0, some (.int R), some (.dk (kdI w)), some (.int lim), some (.ref M.length), some (.int p.1), x6] (M ++ [.dk (kdI l)]) = .nx [x0, some (.int R), some (.dk (kdI w)), some (.int lim), some (.ref M.length), some (.int p.1), y6] (M ++ [.dk (kdI (addAll p.2 (nxt R lim p.1) l))]) := by
      rw [f_law_table_b2, y_cons, y_for, rn, Res.toS_ok, e1, SRes.bind_nx, y_nil]
    rw [List.map_cons, List.map_cons, forL]
    simp only [bindTg_nm, List.set, body, SRes.bind_nx]
    exact e2
theorem keys_kd (w : List (Int × Int)) (m : Mem) : itsOf .keys (.ok [.dk (kdI w)] m) = .ok ((w.map (·.1)).map .int) m := by
  have e : itsOf .keys (.ok [.dk (kdI w)] m) = .ok ((kdI w).map fun kv => keyD kv.1) m := (rfl)
  rw [e]
  unfold kdI
  rw [List.map_map, List.map_map]; rfl
theorem tab_b3 (x0 : Option D) (hR : R ≤ 1000) : ∀ (ls : List Int) (w : List (Int × Int)) (M : Mem) (x3 x4 x5 x6 : Option D), TabG R w → (∀ x ∈ ls, -1000000 ≤ x ∧ x ≤ 1000000) →
    ∃ y3 y4 y5 y6 X, forL (evSs Φ f_law_table_b3) (.nm 3) (ls.map .int) [x0, some (.int R), some (.dk (kdI w)), x3, x4, x5, x6] M = .nx [x0, some (.int R), some (.dk (kdI (tabT R ls w))), y3, y4, y5, y6] (M ++ X)
  | [], w, M, x3, x4, x5, x6, _, _ => ⟨x3, x4, x5, x6, [], by rw [List.append_nil]; rfl⟩
  | lim :: ls, w, M, x3, x4, x5, x6, h, hl => by
    have g0 : TabG R [] := ⟨by simp, fun x hx => by simp at hx⟩
    have hb : ∀ p ∈ w, lk w p.1 = some p.2 ∧ 0 ≤ p.1 ∧ p.1 ≤ (R : Int) := fun p hp => ⟨lk_mem h.nd hp, h.bnd p.1 (List.mem_map_of_mem (f := (·.1)) hp)⟩
    obtain ⟨y5, y6, e1⟩ := tab_b2 (R := R) (w := w) lim (hl lim List.mem_cons_self) M x0 w [] x5 x6 g0 hR hb
    obtain ⟨a1, _⟩ := stepT_ok (R := R) (fun _ => 0) lim w [] g0 fun p hp => (hb p hp).2.1
    obtain ⟨z3, z4, z5, z6, X, e2⟩ := tab_b3 x0 hR ls (stepT R lim w []) (M ++ [.dead]) (some (.int lim)) (some (.dk (kdI (stepT R lim w [])))) y5 y6 a1 fun x hx => hl x (List.mem_cons_of_mem _ hx)
    refine ⟨z3, z4, z5, z6, .dead :: X, ?_⟩
    have ks : itsOf .keys (evL Φ [.var 2] [x0, some (.int R), some (.dk (kdI w)), some (.int lim), some (.ref M.length), x5, x6] (M ++ [.dk []])) = .ok ((w.map (·.1)).map .int) (M ++ [.dk []]) := by
      have : evL Φ [.var 2] [x0, some (.int R), some (.dk (kdI w)), some (.int lim), some (.ref M.length), x5, x6] (M ++ [.dk []]) = .ok [.dk (kdI w)] (M ++ [.dk []]) := by simp only [x_cons, x_nil, x_var, look_zero, look_succ, Res.bind_ok]
      rw [this, keys_kd]
    have e1 : forL (evSs Φ f_law_table_b2) (.nm 5) ((w.map (·.1)).map .int) [x0, some (.int R), some (.dk (kdI w)), some (.int lim), some (.ref M.length), x5, x6] (M ++ [.dk []]) = _ := e1
    have hg := get_app M (.dk (kdI (stepT R lim w [])))
    have hs := set_app M (.dk (kdI (stepT R lim w []))) .dead
    have body : evSs Φ f_law_table_b3 [x0, some (.int R), some (.dk (kdI w)), some (.int lim), x4, x5, x6] M = .nx [x0, some (.int R), some (.dk (kdI (stepT R lim w []))), some (.int lim), some (.dk (kdI (stepT R lim w []))), y5, y6] (M ++ [.dead]) := by
      simp only [f_law_table_b3, y_cons, y_set, x_newk, Res.toS_ok, List.set, SRes.bind_nx, y_for, ks, e1, y_frz, frzop, List.getElem?_cons_zero, List.getElem?_cons_succ, hg, hs, x_var, look_zero, look_succ, y_nil]
    rw [List.map_cons, forL]
    simp only [bindTg_nm, List.set, body, SRes.bind_nx]
    rw [e2, List.append_assoc]; rfl
theorem law_table_ok {m : Mem} (hc : Cl m) (hR : R ≤ 60) (L : List Int) (hL : ∀ x ∈ L, -1000000 ≤ x ∧ x ≤ 1000000) : Φ 76 [LI L, .int R] m = .ok (.int ((wayN L R R 0 : Nat) : Int)) m := by
  obtain ⟨t1, t2⟩ := tab_all L R
  have g0 : TabG R [(0, 1)] := ⟨by simp, fun x hx => by simp at hx; omega⟩
  obtain ⟨y3, y4, y5, y6, X, e⟩ := tab_b3 (some (LI L)) (by omega) L [(0, 1)] (m ++ [.dead]) none none none none g0 hL
  have hl : (tabT R L [(0, 1)]).length < 64 := by have := t1.len; omega
  have hg := get_app m (.dk [((.inl 0 : L2.Key), .int 1)])
  have hs := set_app m (.dk [((.inl 0 : L2.Key), .int 1)]) .dead
  have cs : ∀ M, ev Φ f_law_table_c4 [some (LI L), some (.int R), some (.dk (kdI (tabT R L [(0, 1)]))), y3, y4, y5, y6] M = .ok (LI ((sortI ((tabT R L [(0, 1)]).map (·.1))).map fun x => (lk (tabT R L [(0, 1)]) x).getD 0)) M := fun M => by
    rw [f_law_table_c4, comp_evalA D.int (fun x => .int ((lk (tabT R L [(0, 1)]) x).getD 0)) (sortI ((tabT R L [(0, 1)]).map (·.1))) ?_ (by rw [(sortI_perm _).length_eq, List.length_map]; omega) fun x hx => ⟨[some (LI L), some (.int R), some (.dk (kdI (tabT R L [(0, 1)]))), y3, y4, some (.int x), y6], rfl, ?_⟩]
    · rw [LI, List.map_map]; rfl
    · simp only [x_cons, x_nil, x_blt, x_var, look_zero, look_succ, Res.bind_ok, l_sortedK hl, its_lst]
    · have hx' : x ∈ (tabT R L [(0, 1)]).map (·.1) := (sortI_perm _).mem_iff.mp hx
      obtain ⟨v, hv⟩ : ∃ v, lk (tabT R L [(0, 1)]) x = some v := by
        cases e : lk (tabT R L [(0, 1)]) x with
        | none => exact absurd hx' (lk_none.mp e)
        | some v => exact ⟨v, rfl⟩
      simp only [x_ix, x_var, look_zero, look_succ, Res.bind_ok, ix_kd hv, hv]; rfl
  have sm : ∀ (l : List Int) M, bltop .suml [LI l] M = .ok (.int l.sum) M := fun l M => by
    show intsop (fun is => some is.sum) (LI l) M = _
    unfold intsop
    rw [intsAt_lst]
  have body : evSs Φ f_law_table.body [some (LI L), some (.int R), none, none, none, none, none] m = .rt (.int ((wayN L R R 0 : Nat) : Int)) ((m ++ [.dead]) ++ X) := by
    have e : forL (evSs Φ f_law_table_b3) (.nm 3) (L.map .int) [some (LI L), some (.int R), some (.dk [((.inl 0 : L2.Key), .int 1)]), none, none, none, none] (m ++ [.dead]) = _ := e
    show evSs Φ [_, _, _, _] _ _ = _
    simp only [y_cons, y_set, x_newkv, Res.toS_ok, List.set, SRes.bind_nx, y_frz, frzop, List.getElem?_cons_zero, List.getElem?_cons_succ, hg, hs, y_for, x_cons, x_nil, x_var, look_zero, look_succ, Res.bind_ok, its_lst, e, y_ret, x_blt, cs, sm, vals_sum t1.nd, t2, SRes.bind_rt]
  rw [R_law_table, body, out_rt, List.append_assoc]
  exact shut_app hc _ _ rfl
end
end HD
end

section
set_option Elab.async false
set_option linter.all false
set_option maxRecDepth 100000
set_option maxHeartbeats 4000000
/-! B34: law k10. -/
namespace HD
open L2 (atI ixN)
theorem l_tupleRg2 {i j : Int} (h : -4611686018427387904 ≤ i ∧ i < 4611686018427387904 ∧ -4611686018427387904 ≤ j ∧ j < 4611686018427387904 ∧ j - i ≤ 16777216) (m : Mem) : bltop .tupleRg2 [.int i, .int j] m = .ok (TI (rg i (j - i).toNat)) m := by
  have e1 : small62 i = true := by simp [small62]; omega
  have e2 : small62 j = true := by simp [small62]; omega
  show (if small62 i && small62 j && decide (j - i ≤ 16777216) then Res.ok (D.tup (rngD i (j - i).toNat)) m else Res.stk) = _
  rw [e1, e2, rngD_rg]
  simp [h.2.2.2.2]
theorem lim_drop (h s w l : Nat) : (limN h s w 0).drop l = limN h s w l := by
  apply List.ext_getElem?
  intro i
  rw [List.getElem?_drop]
  by_cases hi : i < h * (s - w) - l
  · rw [limN_get i hi, limN_get (l + i) (by omega)]
    congr 3
    omega
  · have e1 := limN_len h s w 0
    have e2 := limN_len h s w l
    rw [List.getElem?_eq_none (by omega), List.getElem?_eq_none (by omega)]
theorem lim_cons {h s w l : Nat} (hl : l < h * (s - w)) : limN h s w l = ((bndN s w (l + 1) : Nat) : Int) :: limN h s w (l + 1) := by
  have e := limN_get (h := h) (s := s) (w := w) (l := l) 0 (by omega)
  rw [← lim_drop h s w (l + 1), ← List.drop_drop, lim_drop]
  cases hL : limN h s w l with
  | nil => rw [hL] at e; cases e
  | cons x r =>
    rw [hL] at e
    simp only [List.getElem?_cons_zero, Option.some.injEq] at e
    rw [e]
    rfl
theorem ne_ints (a b : List Int) (M : Mem) : cmpop .ne (LI a) (LI b) M = .ok (.bl (!decide (a = b))) M := by
  have := eqv_ints (m := M) a b
  simp only [c_ne, this, Option.map_some, okB_yes]
theorem ne_tints (a b : List Int) (M : Mem) : cmpop .ne (TI a) (TI b) M = .ok (.bl (!decide (a = b))) M := by
  have := eqv_tints (m := M) a b
  simp only [c_ne, this, Option.map_some, okB_yes]
theorem ne_int (a b : Int) (M : Mem) : cmpop .ne (.int a) (.int b) M = .ok (.bl (!decide (a = b))) M := by
  simp only [c_ne, eqv_int, Option.map_some, okB_yes]
section
variable {m : Mem} {b : Nat} {o : Mob} {h s w l : Nat}
theorem plain_rule (x : Int) {ρ : Env} {M : Mem} {e : C} (h2 : look ρ 2 M = .ok (RU h s w l) M) (he : ev Φ e ρ M = .ok (.int x) M) : ev Φ (.bin .add (.sl (.var 2) none (some (.int 3))) (.tup [e])) ρ M = .ok (RU h s w x) M := by
  have c := cut_take [D.int h, .int s, .int w, .int l] 3 (by omega)
  simp only [x_bin, x_sl, x_none, x_some, x_int, x_var, h2, Res.bind_ok, intO_int, slop_tup, c, x_tup, x_cons, x_nil, he, List.length_cons, List.length_nil, Nat.zero_add, lim1, if_true, b_addT]
  rfl
/-- the greatest of the last set -/
theorem slow_last (g : GoodR h s w l) : slowI h s w l = directI h s w l ∨ (outN (h * s) (limN h s w l) = rg 1 (h * w + l) ∧ slowI h s w l = ((h * w + l : Nat) : Int)) := by
  obtain ⟨g1, g2, g3, g4, g5⟩ := good_nat g
  obtain ⟨k, rfl⟩ : ∃ k, h = k + 1 := ⟨h - 1, by omega⟩
  have e1 : (k + 1) * (s - w) = k * (s - w) + (s - w) := by rw [Nat.add_mul, Nat.one_mul]
  have e2 : (k + 1) * w = k * w + w := by rw [Nat.add_mul, Nat.one_mul]
  have e3 : k * s = k * (s - w) + k * w := by rw [← Nat.mul_add]; congr 1; omega
  have dn : directI ((k + 1 : Nat) : Int) s w l = ((k * s + w : Nat) : Int) := by
    unfold directI
    rw [Int.natCast_add, Int.natCast_one, show (k : Int) + 1 - 1 = k by omega, Int.natCast_add, Int.natCast_mul]
  have pn : placesI ((k + 1 : Nat) : Int) s w l = (((k + 1) * w + l : Nat) : Int) := places_nat
  by_cases c : l ≤ k * (s - w)
  · left
    unfold slowI
    rw [dn, pn]
    omega
  · right
    have hws : w < s := by
      rcases Nat.lt_or_eq_of_le g4 with z | z
      · exact z
      · subst z; simp at g5 c; omega
    have hh : (k + 1) * s = (k + 1) * (s - w) + (k + 1) * w := parts_eq g4
    have el : limN (k + 1) s w l = rg ((((k + 1) * w + l : Nat) : Int) + 1) ((k + 1) * (s - w) - l) := by
      unfold limN rg
      refine List.map_congr_left fun i hi => ?_
      have hi := List.mem_range.mp hi
      unfold bndN
      have q : (l + 1 + i + (s - w) - 1) / (s - w) = k + 1 := by
        have a1 : k + 1 ≤ (l + 1 + i + (s - w) - 1) / (s - w) := by
          rw [Nat.le_div_iff_mul_le (by omega), e1]; omega
        have a2 := ceilN_le (a := l + 1 + i) (k := k + 1) (f := s - w) (by omega) (by omega)
        omega
      rw [q, Nat.mul_comm w (k + 1)]
      omega
    refine ⟨?_, ?_⟩
    · refine fit_congr (outN_inc _ _) (rg_inc _ _) fun x => ?_
      rw [outN_mem, el, rg_mem, rg_mem]
      omega
    · unfold slowI
      rw [dn, pn]
      omega
theorem sure_more_k (g : GoodR h s w l) (g' : GoodR h s w ((l + 1 : Nat) : Int)) (hl : l < h * (s - w)) : ¬ sureI h s w ((l + 1 : Nat) : Int) < sureI h s w l := by
  have h1 := sure_lim g
  have h2 := sure_lim (l := l + 1) g'
  rw [h1, h2, lim_cons hl]
  have hw : w < s := by
    obtain ⟨g1, g2, g3, g4, g5⟩ := good_nat g
    rcases Nat.lt_or_eq_of_le g4 with z | z
    · exact z
    · subst z; simp at hl
  have hi := limN_inc (h := h) (l := l) hw
  have hb := lim_bnd (h := h) (l := l) (show w ≤ s by omega)
  rw [lim_cons hl] at hi hb
  cases e : limN h s w (l + 1) with
  | nil =>
    have := hb _ List.mem_cons_self
    show ¬ ((h * s : Nat) : Int) < ((bndN s w (l + 1) : Nat) : Int) - 1
    omega
  | cons y r =>
    rw [e] at hi
    have := (List.pairwise_cons.mp hi).1 y List.mem_cons_self
    show ¬ y - 1 < ((bndN s w (l + 1) : Nat) : Int) - 1
    omega
theorem count_less (g4 : w ≤ s) (hl : l < h * (s - w)) : wayN (limN h s w (l + 1)) (h * s) (h * s) 0 ≤ wayN (limN h s w l) (h * s) (h * s) 0 := by
  have hw : w < s := by
    rcases Nat.lt_or_eq_of_le g4 with z | z
    · exact z
    · subst z; simp at hl
  have hi := limN_inc (h := h) (l := l) hw
  have hb := lim_bnd (h := h) (l := l) g4
  rw [lim_cons hl] at hi hb ⊢
  have := hb _ List.mem_cons_self
  exact way_less hi this.1 this.2
theorem turn_k10 (hb : BagAt m b) (hc : Cl m) (x0 x2 x3 x4 x5 x6 x7 x8 x9 x10 x11 : Option D) :
    ∃ (y2 y3 y4 y5 y7 y8 y10 y11 : Option D) (o' : Mob), IsBag o' ∧ evSs Φ f_law_k10_b3 [x0, some (.ref b), x2, x3, x4, x5, x6, x7, x8, x9, x10, x11] m =
      .nx [x0, some (.ref b), y2, y3, y4, y5, x6, y7, y8, x9, y10, y11] (m.set b o') := by
  obtain ⟨h, s, w, l, o1, e1, ho1, hp, hN⟩ := rule_ok hb (most := 60) (by omega)
  obtain ⟨p1, p2⟩ := small_parts (n := 60) hp.1 hp.2.1 hN
  have g := rule_good hp (by omega) (by omega)
  obtain ⟨g1, g2, g3, g4, g5⟩ := hp
  have hn : h * s ≤ 60 := by
    have : ((h * s : Nat) : Int) ≤ 60 := by rw [Int.natCast_mul]; exact hN
    omega
  have hfr : h * (s - w) ≤ h * s := Nat.mul_le_mul_left _ (by omega)
  have hM : Cl (m.set b o1) := hc.set (closed_bag _ ho1)
  generalize hMe : m.set b o1 = M at e1 hM
  have hh := parts_eq (h := h) g4
  have k1 : binop .mul (.int (h : Int)) (.int (s : Int)) M = .ok (.int ((h * s : Nat) : Int)) M := by rw [Int.natCast_mul]; exact b_mul (.inl ⟨by omega, by omega⟩)
  have k2 : binop .sub (.int (s : Int)) (.int (w : Int)) M = .ok (.int ((s - w : Nat) : Int)) M := by
    rw [b_sub, show ((s : Int) - (w : Int)) = ((s - w : Nat) : Int) by omega]
  have k3 : binop .mul (.int (h : Int)) (.int ((s - w : Nat) : Int)) M = .ok (.int ((h * (s - w) : Nat) : Int)) M := by rw [Int.natCast_mul]; exact b_mul (.inl ⟨by omega, by omega⟩)
  have lb := lim_bnd (h := h) (l := l) g4
  have lb0 := lim_bnd (h := h) (l := 0) g4
  have F1 := count_sets_ok (m := M) hM g hN
  have F2 := count_direct_ok (m := M) hM g hN
  have F3 := law_table_ok (m := M) hM hn (limN h s w l) fun x hx => by have := lb x hx; omega
  have F4 := law_table_ok (m := M) hM hn (limN h s w 0) fun x hx => by have := lb0 x hx; omega
  obtain ⟨cp, ls⟩ := last_ok (h := h) g4 l
  have F5 := set_at_ok (m := M) hM g hN (v := 0) (by omega)
  rw [first_set (limN_inc' g4) (fun x hx => (lb x hx).2) (h * s) 0 (Nat.le_refl _) (Nat.zero_le _) (by have := limN_len h s w l; omega)] at F5
  have e5 : h * s - ((limN h s w l).length - 0) = h * w + l := by have := limN_len h s w l; omega
  have e5' : ((h * s : Nat) : Int) + 1 - ((h * s : Nat) : Int) = 1 := by omega
  rw [e5, e5'] at F5
  have F6 := places_ok (m := M) g (show (h : Int) * s ≤ 10000 by omega)
  rw [places_nat] at F6
  have r6 : bltop .tupleRg2 [.int 1, .int (((h * w + l : Nat) : Int) + 1)] M = .ok (TI (rg 1 (h * w + l))) M := by
    rw [l_tupleRg2 (by omega), show (((h * w + l : Nat) : Int) + 1 - 1).toNat = h * w + l by omega]
  have F7 := set_at_ok (m := M) hM g hN (v := wayN (limN h s w l) (h * s) (h * s) 0 - 1) (by omega)
  rw [ls] at F7
  have e7 : ((wayN (limN h s w l) (h * s) (h * s) 0 - 1 : Nat) : Int) = ((wayN (limN h s w l) (h * s) (h * s) 0 : Nat) : Int) - 1 := by omega
  rw [e7] at F7
  have oo := out_out (limN_inc' (h := h) (l := l) g4) lb
  have F8 := slowest_rank_ok (m := M) g (show (h : Int) * s ≤ 10000 by omega)
  have F9 := slowest_direct_ok (m := M) g (show (h : Int) * s ≤ 10000 by omega)
  have F10 := sure_rank_ok (m := M) g (show (h : Int) * s ≤ 10000 by omega)
  have G1 := count_sets_ok (m := M) hM (good0 g) hN
  have G2 := count_direct_ok (m := M) hM (good0 g) hN
  generalize hC : wayN (limN h s w l) (h * s) (h * s) 0 = C at *
  generalize hC0 : wayN (limN h s w 0) (h * s) (h * s) 0 = C0 at *
  have c1 : ∀ x7 x8 x9 x10 x11 : Option D, ∀ x5 x6, ev Φ f_law_k10_c1 [x0, some (.ref b), some (RU h s w l), some (.int ((h * s : Nat) : Int)), some (.int ((h * (s - w) : Nat) : Int)), x5, x6, x7, x8, x9, x10, x11] M = .ok (LI (limN h s w 0)) M := fun x7 x8 x9 x10 x11 x5 x6 => by
    rw [f_law_k10_c1, comp_evalA (fun (i : Nat) => D.int (1 + i)) (fun i => .int ((bndN s w (0 + 1 + i) : Nat) : Int)) (List.range (h * (s - w))) ?_ (by simp; omega) fun i hi => ⟨[x0, some (.ref b), some (RU h s w l), some (.int ((h * s : Nat) : Int)), some (.int ((h * (s - w) : Nat) : Int)), x5, some (.int (1 + i)), x7, x8, x9, x10, x11], rfl, ?_⟩]
    · rw [LI, limN, List.map_map]; rfl
    · simp only [x_cons, x_nil, x_bin, x_var, x_int, look_zero, look_succ, Res.bind_ok, b_add]
      rw [its_rng2 _ _ (by omega), show (((h * (s - w) : Nat) : Int) + 1 - 1).toNat = h * (s - w) by omega, rngD]
    · have hw : w < s := by
        rw [List.mem_range] at hi
        rcases Nat.lt_or_eq_of_le g4 with z | z
        · exact z
        · rw [z] at hi; simp at hi
      have up := law_up_ok (m := M) g hw (1 + i)
      rw [Int.natCast_add, Int.natCast_one] at up
      simp only [x_call, x_cons, x_nil, x_var, look_zero, look_succ, Res.bind_ok, up, Nat.zero_add]
  have c2 : ∀ x5 x6 x7 x9 x10 x11 : Option D, ev Φ f_law_k10_c2 [x0, some (.ref b), some (RU h s w l), some (.int ((h * s : Nat) : Int)), some (.int ((h * (s - w) : Nat) : Int)), x5, x6, x7, some (TI (outN (h * s) (limN h s w l))), x9, x10, x11] M = .ok (LI (limN h s w l)) M := fun x5 x6 x7 x9 x10 x11 => by
    rw [f_law_k10_c2, comp_eval D.int (fun x => !decide (x ∈ outN (h * s) (limN h s w l))) D.int (rg 1 (h * s)) ?_ (by simp; omega) fun x hx => ⟨[x0, some (.ref b), some (RU h s w l), some (.int ((h * s : Nat) : Int)), some (.int ((h * (s - w) : Nat) : Int)), x5, x6, x7, some (TI (outN (h * s) (limN h s w l))), some (.int x), x10, x11], rfl, ?_, fun _ => by simp only [x_var, look_zero, look_succ]⟩]
    · show Res.ok (LI (outN (h * s) (outN (h * s) (limN h s w l)))) M = _
      rw [oo]
    · simp only [x_cons, x_nil, x_bin, x_var, x_int, look_zero, look_succ, Res.bind_ok, b_add]
      rw [its_rng2 _ _ (by omega), show (((h * s : Nat) : Int) + 1 - 1).toNat = h * s by omega, rngD_rg]
    · simp only [x_t1, x_t0, x_cmp, x_var, look_zero, look_succ, Res.bind_ok, c_notin, memb_tints, Option.map_some, okB_yes, blOf_bl]
      cases decide (x ∈ outN (h * s) (limN h s w l)) <;> rfl
  have dr := cutI_drop (limN h s w 0) (i := (l : Int)) (by omega)
  rw [Int.toNat_natCast, lim_drop] at dr
  have outne : outN (h * s) (limN h s w l) ≠ [] := fun z => by
    have := outN_len (inc_nodup (limN_inc' (h := h) (l := l) g4)) lb
    rw [z] at this
    have := limN_len h s w l
    have : 1 ≤ h * w := Nat.mul_pos g1 g3
    simp at *
    omega
  have lastv := ixI_last (outN (h * s) (limN h s w l)) outne
  refine ⟨some (RU h s w l), some (.int ((h * s : Nat) : Int)), some (.int ((h * (s - w) : Nat) : Int)), some (LI (limN h s w 0)), some (.int (C : Int)), some (TI (outN (h * s) (limN h s w l))), some (RU h s w 0), if l < h * (s - w) then some (RU h s w ((l + 1 : Nat) : Int)) else x11, o1, ho1, ?_⟩
  rw [hMe]
  show evSs Φ [_, _, _, _, _, _, _, _, _, _, _, _, _, _, _] _ _ = _
  rw [set_step (d := RU h s w l) (M' := M) (by simp only [x_call, x_cons, x_nil, x_var, x_int, look_zero, look_succ, Res.bind_ok, e1])]
  simp only [List.set]
  rw [set_step (d := .int ((h * s : Nat) : Int)) (M' := M) (by simp only [x_bin, x_ix, x_var, x_int, look_zero, look_succ, Res.bind_ok, ixop_tup, at0, at1, okO_some, k1])]
  simp only [List.set]
  rw [set_step (d := .int ((h * (s - w) : Nat) : Int)) (M' := M) (by simp only [x_bin, x_ix, x_var, x_int, look_zero, look_succ, Res.bind_ok, ixop_tup, at0, at1, at2, okO_some, k2, k3])]
  simp only [List.set]
  rw [set_step (c1 _ _ _ _ _ _ _)]
  simp only [List.set]
  rw [set_step (d := .int (C : Int)) (M' := M) (by simp only [x_call, x_cons, x_nil, x_var, look_zero, look_succ, Res.bind_ok, F1])]
  simp only [List.set]
  rw [no_step (M' := M) (by simp only [x_cmp, x_call, x_cons, x_nil, x_sl, x_none, x_some, x_ix, x_var, x_int, look_zero, look_succ, Res.bind_ok, ixop_tup, at3, okO_some, intO_int, slop_lst, dr, F3, ne_int, decide_true, Bool.not_true])]
  rw [no_step (M' := M) (by simp only [x_cmp, x_call, x_cons, x_nil, x_var, look_zero, look_succ, Res.bind_ok, F2, F4, ne_int, decide_true, Bool.not_true])]
  rw [no_step (M' := M) (by
    have F5 : Φ 72 [RU h s w l, .int 0] M = .ok (TI (rg 1 (h * w + l))) M := F5
    simp only [x_cmp, x_call, x_blt, x_cons, x_nil, x_bin, x_var, x_int, look_zero, look_succ, Res.bind_ok, F5, F6, b_add, r6, ne_tints, decide_true, Bool.not_true])]
  rw [set_step (d := TI (outN (h * s) (limN h s w l))) (M' := M) (by simp only [x_call, x_cons, x_nil, x_bin, x_var, x_int, look_zero, look_succ, Res.bind_ok, b_sub, F7])]
  simp only [List.set]
  rw [no_step (M' := M) (by rw [x_cmp, c2]; simp only [x_sl, x_none, x_some, x_ix, x_var, x_int, look_zero, look_succ, Res.bind_ok, ixop_tup, at3, okO_some, intO_int, slop_lst, dr, ne_ints, decide_true, Bool.not_true])]
  rw [no_step (M' := M) (by
    have a1 : ∀ ρ : Env, look ρ 2 M = .ok (RU h s w l) M → look ρ 8 M = .ok (TI (outN (h * s) (limN h s w l))) M → ev Φ (.cmp .ne (.call 32 [.var 2]) (.ix (.var 8) (.neg (.int 1)))) ρ M = .ok (.bl (!decide (slowI h s w l = (outN (h * s) (limN h s w l)).getLastD 0))) M := fun ρ l2 l8 => by
      have neg1 : negop (.int 1) M = .ok (.int (-1)) M := negop_int 1
      simp only [x_cmp, x_call, x_cons, x_nil, x_ix, x_neg, x_var, x_int, l2, l8, Res.bind_ok, F8, neg1, ixop_tup, lastv, okO_some, ne_int]
    rcases slow_last g with z | ⟨z1, z2⟩
    · by_cases q : slowI h s w l = (outN (h * s) (limN h s w l)).getLastD 0
      · exact and_no1 (by rw [a1 _ (by simp only [look_zero, look_succ]) (by simp only [look_zero, look_succ]), decide_eq_true q]; rfl)
      · rw [and_2 (M' := M) (by rw [a1 _ (by simp only [look_zero, look_succ]) (by simp only [look_zero, look_succ]), decide_eq_false q]; rfl)]
        simp only [x_cmp, x_call, x_cons, x_nil, x_var, look_zero, look_succ, Res.bind_ok, F8, F9, ne_int, decide_eq_true z, Bool.not_true]
    · have q : slowI h s w l = (outN (h * s) (limN h s w l)).getLastD 0 := by
        have pos : 0 < h * w + l := by have := Nat.mul_pos g1 g3; omega
        obtain ⟨j, hj⟩ : ∃ j, h * w + l = j + 1 := ⟨h * w + l - 1, by omega⟩
        rw [z1, z2, hj, rg_succ]
        simp
        omega
      exact and_no1 (by rw [a1 _ (by simp only [look_zero, look_succ]) (by simp only [look_zero, look_succ]), decide_eq_true q]; rfl))]
  rw [no_step (M' := M) (by
    have a1 : ∀ ρ : Env, look ρ 2 M = .ok (RU h s w l) M → look ρ 5 M = .ok (LI (limN h s w 0)) M → ev Φ (.cmp .ne (.sl (.var 5) (some (.ix (.var 2) (.int 3))) none) (.lst [])) ρ M = .ok (.bl (!decide (limN h s w l = []))) M := fun ρ l2 l5 => by
      have h0 : (0 : Nat) ≤ LIM := Nat.zero_le _
      have := eqv_ints0 (m := M) (limN h s w l)
      simp only [x_cmp, x_sl, x_none, x_some, x_ix, x_var, x_int, l2, l5, Res.bind_ok, ixop_tup, at3, okO_some, intO_int, slop_lst, dr, x_lst, x_nil, List.length_nil, h0, if_true, c_ne, this, Option.map_some, okB_yes]
    by_cases q : limN h s w l = []
    · exact and_no1 (by rw [a1 _ (by simp only [look_zero, look_succ]) (by simp only [look_zero, look_succ]), decide_eq_true q]; rfl)
    · rw [and_2 (M' := M) (by rw [a1 _ (by simp only [look_zero, look_succ]) (by simp only [look_zero, look_succ]), decide_eq_false q]; rfl)]
      have hl : l < h * (s - w) := by
        have := limN_len h s w l
        have := List.length_pos_iff.mpr q
        omega
      have sl := sure_lim g
      rw [lim_cons hl] at sl
      have sl : sureI h s w l = ((bndN s w (l + 1) : Nat) : Int) - 1 := sl
      have gt := limN_get (h := h) (s := s) (w := w) (l := 0) l (by omega)
      rw [Nat.zero_add, Nat.add_comm 1 l] at gt
      have it : atI ((limN h s w 0).map D.int) (l : Int) = some (.int ((bndN s w (l + 1) : Nat) : Int)) := atLI (by omega) (by rw [Int.toNat_natCast]; exact gt)
      simp only [x_cmp, x_call, x_cons, x_nil, x_bin, x_ix, x_var, x_int, look_zero, look_succ, Res.bind_ok, F10, ixop_tup, at3, okO_some, ixop_lst, it, b_sub, ne_int, decide_eq_true sl, Bool.not_true])]
  rw [set_step (plain_rule (h := h) (s := s) (w := w) (l := l) 0 (by simp only [look_zero, look_succ]) (by rw [x_int]))]
  simp only [List.set]
  rw [no_step (M' := M) (by
    have G1 : Φ 66 [RU h s w 0] M = .ok (.int (C0 : Int)) M := G1
    have G2 : Φ 65 [RU h s w 0] M = .ok (.int (C0 : Int)) M := G2
    rw [or_2 (M' := M) (by simp only [x_cmp, x_call, x_cons, x_nil, x_var, look_zero, look_succ, Res.bind_ok, G1, G2, ne_int, decide_true, Bool.not_true])]
    simp only [x_cmp, x_call, x_cons, x_nil, x_var, look_zero, look_succ, Res.bind_ok, G2, F2, ne_int, decide_true, Bool.not_true])]
  by_cases hl : l < h * (s - w)
  · have hl' : ((l : Int) < ((h * (s - w) : Nat) : Int)) := by omega
    have g' : GoodR h s w ((l + 1 : Nat) : Int) := rule_good ⟨g1, g2, g3, g4, hl⟩ (by omega) (by omega)
    have S1 := sure_rank_ok (m := M) g' (show (h : Int) * s ≤ 10000 by omega)
    have S2 := count_sets_ok (m := M) hM g' hN
    have n1 := sure_more_k g g' hl
    have n2 := count_less (h := h) g4 hl
    rw [hC] at n2
    have n2' : ¬ ((C : Int) < ((wayN (limN h s w (l + 1)) (h * s) (h * s) 0 : Nat) : Int)) := by omega
    rw [if_pos hl, y_cons, ite_yes (M' := M) (by simp only [x_cmp, x_ix, x_var, x_int, look_zero, look_succ, Res.bind_ok, ixop_tup, at3, okO_some, c_lt, hl', decide_true])]
    rw [set_step (plain_rule (h := h) (s := s) (w := w) (l := l) ((l + 1 : Nat) : Int) (by simp only [look_zero, look_succ]) (by simp only [x_bin, x_ix, x_var, x_int, look_zero, look_succ, Res.bind_ok, ixop_tup, at3, okO_some, b_add]; rw [Int.natCast_add, Int.natCast_one]))]
    simp only [List.set]
    rw [no_step (M' := M) (by
      rw [or_2 (M' := M) (by simp only [x_cmp, x_call, x_cons, x_nil, x_var, look_zero, look_succ, Res.bind_ok, S1, F10, c_lt, n1, decide_false])]
      simp only [x_cmp, x_call, x_cons, x_nil, x_var, look_zero, look_succ, Res.bind_ok, S2, F1, c_gt, n2', decide_false]), y_nil, SRes.bind_nx, y_nil]
  · have hl' : ¬ ((l : Int) < ((h * (s - w) : Nat) : Int)) := by omega
    rw [if_neg hl, no_step (M' := M) (by simp only [x_cmp, x_ix, x_var, x_int, look_zero, look_succ, Res.bind_ok, ixop_tup, at3, okO_some, c_lt, hl', decide_false]), y_nil]
end
theorem pure_k10 : ∀ ns : List Int, ns.length ≤ 63 → ∃ m, tower tw 77 [.scr ns] [] = .ok (.bl true) m := fun ns _ => by
  obtain ⟨n, m0, eb, hb⟩ := bags_ok ns
  obtain ⟨ρ2, m2, e1, x1, x2, x3, x4, x5, x6, x7, x8, x9, x10, x11, rfl, hb2⟩ := forL_keep (body := evSs Φ f_law_k10_b3) (t := .nm 1) (fun b : Nat => D.ref b)
    (fun ρ m => ∃ x1 x2 x3 x4 x5 x6 x7 x8 x9 x10 x11 : Option D, ρ = [some (.scr ns), x1, x2, x3, x4, x5, x6, x7, x8, x9, x10, x11] ∧ Bags m n) (List.range n)
    [some (.scr ns), none, none, none, none, none, none, none, none, none, none, none] m0
    (fun b ρ m hx ⟨x1, x2, x3, x4, x5, x6, x7, x8, x9, x10, x11, e0, hb⟩ => by
      subst e0
      rw [List.mem_range] at hx
      obtain ⟨y2, y3, y4, y5, y7, y8, y10, y11, o', ho, et⟩ := turn_k10 (hb.bag b hx) hb.cl (some (.scr ns)) x2 x3 x4 x5 x6 x7 x8 x9 x10 x11
      refine ⟨_, _, _, rfl, et, some (.ref b), y2, y3, y4, y5, x6, y7, y8, x9, y10, y11, rfl, ?_⟩
      exact ⟨hb.cl.set (closed_bag _ ho), by have := hb.le; simp; omega, fun c hc => (hb.bag c hc).set' (hb.bag b hx) ho⟩)
    ⟨none, none, none, none, none, none, none, none, none, none, none, rfl, hb⟩
  have q1 : Φ 66 [.tup [.int 1, .int 60, .int 30, .int 0]] m2 = .ok (.int 1) m2 := by
    have g : GoodR (1 : Nat) (60 : Nat) (30 : Nat) (0 : Nat) := rule_good (by omega) (by omega) (by omega)
    have := count_sets_ok (m := m2) hb2.cl g (by decide)
    rw [show limN 1 60 30 0 = limB by decide +kernel, show 1 * 60 = 60 from rfl, way_B] at this
    exact this
  have q2 : Φ 66 [.tup [.int 30, .int 2, .int 1, .int 0]] m2 = .ok (.int 3814986502092304) m2 := by
    have g : GoodR (30 : Nat) (2 : Nat) (1 : Nat) (0 : Nat) := rule_good (by omega) (by omega) (by omega)
    have := count_sets_ok (m := m2) hb2.cl g (by decide)
    rw [show limN 30 2 1 0 = limA by decide +kernel, show 30 * 2 = 60 from rfl, way_A] at this
    exact this
  refine ⟨m2.take 0, ?_⟩
  show Φ 77 [.scr ns] [] = _
  rw [R_law_k10]
  have : evSs Φ f_law_k10.body [some (.scr ns), none, none, none, none, none, none, none, none, none, none, none] [] = .rt (.bl true) m2 := by
    show evSs Φ [_, _] _ _ = _
    rw [y_cons, y_for]
    simp only [x_cons, x_nil, x_call, x_var, look_zero, x_int, Res.bind_ok, eb, its_lst, Res.toS_ok, e1, SRes.bind_nx]
    rw [y_cons, y_ret]
    rw [and_2 (M' := m2) (by simp only [x_cmp, x_call, x_cons, x_nil, x_tup, x_int, Res.bind_ok, List.length_cons, List.length_nil, Nat.zero_add, Nat.reduceAdd, lim4, if_true, q1, c_eq, eqv_int, decide_true, okB_yes])]
    simp only [x_cmp, x_call, x_cons, x_nil, x_tup, x_int, Res.bind_ok, List.length_cons, List.length_nil, Nat.zero_add, Nat.reduceAdd, lim4, if_true, q2, c_eq, eqv_int, decide_true, okB_yes, Res.toS_ok, SRes.bind_rt]
  rw [this, out_rt]
  rfl
end HD
end

section
set_option Elab.async false
set_option linter.all false
set_option maxRecDepth 100000
set_option maxHeartbeats 0
namespace HD
open PySem PySem.Spec PyProof.Rows L2
abbrev rwL := PySem.Challenge.rw_heatdraws_k10_whole_sets_of_many_runners
abbrev RL : PySem.W.OpenRow := PySem.W.OpenLaw.row rwL
def dfls : Str → List He.Dv := fun x => if x = ("need_rule" : Str) then [.int 10000] else []
def mkD : Stmt → Option He.DefD
  | .FunctionDef (name := n) (args := a) (body := b) (scope := s) .. => some ⟨(n, none), n, n, a, b, s, dfls n, []⟩
  | _ => none
def ds : List He.DefD := RL.prog.main.body.filterMap mkD
def rInit : List Row := [
{ id := 0, name := "is_integer", ps := ["value", "low", "high"], N := ["value", "low", "high"], fn := f_is_integer, dd := [], kd := 0 },
{ id := 1, name := "is_rule", ps := ["value"], N := ["value"], fn := f_is_rule, dd := [], kd := 0 },
{ id := 3, name := "need_rule", ps := ["value", "most"], N := ["value", "most"], fn := f_need_rule, dd := [.int 10000], kd := 1 },
{ id := 203, name := "need_rule", ps := ["value", "most"], N := ["value", "most"], fn := f_need_rule, dd := [], kd := 2 },
{ id := 6, name := "_law_cell_at", ps := ["script", "k"], N := ["script", "k"], fn := f_law_cell_at, dd := [], kd := 0 },
{ id := 7, name := "_law_draws", ps := ["cell", "many", "size"], N := ["cell", "many", "size", "found", "rest", "stirred", "k"], fn := f_law_draws, dd := [], kd := 0 },
{ id := 8, name := "_law_bag", ps := ["script", "k"], N := ["script", "k"], fn := f_law_bag, dd := [], kd := 0 },
{ id := 9, name := "_law_bags", ps := ["script", "limit"], N := ["script", "limit", "k"], fn := f_law_bags, dd := [], kd := 0 },
{ id := 10, name := "_law_take", ps := ["bag", "many"], N := ["bag", "many"], fn := f_law_take, dd := [], kd := 0 },
{ id := 14, name := "_law_rule", ps := ["bag", "most"], N := ["bag", "most", "heats", "size", "some", "spare"], fn := f_law_rule, dd := [], kd := 0 },
{ id := 22, name := "places_of", ps := ["rule"], N := ["rule"], fn := f_places_of, dd := [], kd := 0 },
{ id := 23, name := "places", ps := ["rule"], N := ["rule"], fn := f_places, dd := [], kd := 0 },
{ id := 27, name := "bound", ps := ["rule", "number"], N := ["rule", "number", "free"], fn := f_bound, dd := [], kd := 0 },
{ id := 28, name := "sure_of", ps := ["rule"], N := ["rule"], fn := f_sure_of, dd := [], kd := 0 },
{ id := 29, name := "direct_of", ps := ["rule"], N := ["rule"], fn := f_direct_of, dd := [], kd := 0 },
{ id := 30, name := "slowest_of", ps := ["rule"], N := ["rule"], fn := f_slowest_of, dd := [], kd := 0 },
{ id := 31, name := "sure_rank", ps := ["rule"], N := ["rule"], fn := f_sure_rank, dd := [], kd := 0 },
{ id := 32, name := "slowest_rank", ps := ["rule"], N := ["rule"], fn := f_slowest_rank, dd := [], kd := 0 },
{ id := 33, name := "slowest_direct", ps := ["rule"], N := ["rule"], fn := f_slowest_direct, dd := [], kd := 0 },
{ id := 57, name := "bounds", ps := ["rule"], N := ["rule", "number"], fn := f_bounds, dd := [], kd := 0 },
{ id := 60, name := "all_bounds", ps := ["rule"], N := ["rule", "number"], fn := f_all_bounds, dd := [], kd := 0 },
{ id := 64, name := "ways_from", ps := ["runners", "limits"], N := ["runners", "limits", "found", "number", "runner", "ways"], fn := f_ways_from, dd := [], kd := 0 },
{ id := 65, name := "count_direct", ps := ["rule"], N := ["rule"], fn := f_count_direct, dd := [], kd := 0 },
{ id := 66, name := "count_sets", ps := ["rule"], N := ["rule"], fn := f_count_sets, dd := [], kd := 0 },
{ id := 69, name := "_law_up", ps := ["rule", "number"], N := ["rule", "number"], fn := f_law_up, dd := [], kd := 0 },
{ id := 72, name := "set_at", ps := ["rule", "number"], N := ["rule", "number", "ways", "found", "missing", "runner"], fn := f_set_at, dd := [], kd := 0 },
{ id := 76, name := "_law_table", ps := ["limits", "runners"], N := ["limits", "runners", "ways", "limit", "later", "last", "runner"], fn := f_law_table, dd := [], kd := 0 }]
def rLaw : Row := { id := 77, name := "law", ps := ["script"], N := ["script", "bag", "rule", "runners", "free", "limits", "number", "count", "last", "runner", "plain", "more"], fn := f_law_k10, dd := [], kd := 0 }
def xs : List (Nat × Str) := [(1, "InvalidRule"), (6, "InvalidNumber")]
theorem rows_ok : chkRows (rInit ++ [rLaw]) xs ds [] (rInit ++ [rLaw]) = true := by decide +kernel
def fa : List He.Fa := ((rInit ++ [rLaw]).map fun r => He.Fa.glo r.name) ++ bltNames.map He.Fa.free ++ (xs.map fun x => He.Fa.glo x.2) ++ xs.map fun x => He.Fa.exc x.2
theorem fa_ok : faOk fa (rInit ++ [rLaw]) xs := by
  refine ⟨fun r hr => ?_, fun x hx => ?_, fun i hi => ?_⟩
  · exact List.mem_append_left _ (List.mem_append_left _ (List.mem_append_left _ (List.mem_map_of_mem (f := fun r => He.Fa.glo r.name) hr)))
  · exact List.mem_append_left _ (List.mem_append_left _ (List.mem_append_right _ (List.mem_map_of_mem (f := He.Fa.free) hx)))
  · obtain ⟨p, hp, e⟩ : ∃ p ∈ xs, p.2 = xName xs i := by
      unfold xName
      cases h : xs.find? fun x => decide (x.1 = i) with
      | none =>
        rw [List.find?_eq_none] at h
        obtain ⟨x, hx, hx2⟩ := List.any_eq_true.mp hi
        exact absurd hx2 (h x hx)
      | some p => exact ⟨p, List.mem_of_find?_eq_some h, rfl⟩
    rw [← e]
    exact ⟨List.mem_append_left _ (List.mem_append_right _ (List.mem_map_of_mem (f := fun x => He.Fa.glo x.2) hp)), List.mem_append_right _ (List.mem_map_of_mem (f := fun x => He.Fa.exc x.2) hp)⟩
theorem mem_ok : ∀ r ∈ rInit ++ [rLaw], r.ent ∈ tw := by
  have h : (rInit ++ [rLaw]).map Row.ent ⊆ tw := by simp [rInit, rLaw, Row.ent, tw]
  exact fun r hr => h (List.mem_map_of_mem hr)
abbrev hkL : PySem.W.Hook := He.hookD 5 fa ds
def obL (s : PySem.W.SharedT) : He.AlD := He.obsDG 5 fa ds (HandSHeadRun.getT s)
theorem obL_eq (s : PySem.W.SharedT) : obL s = hkL.obs s.abs := He.obsDG_eq (HandSHeadRun.getT_eq s)
def looseL : List Str := (["HeatError", "InvalidRule", "InvalidNumber", "is_integer", "is_rule", "need_rule", "places_of", "places", "bound", "bounds", "all_bounds", "ways_from", "count_direct", "count_sets", "set_at", "sure_of", "direct_of", "slowest_of", "sure_rank", "slowest_rank", "slowest_direct", "_law_cell_at", "_law_draws", "_law_bag", "_law_bags", "_law_take", "_law_rule", "_law_up", "_law_table"] : List Str)
theorem runL (w : World) : HandSHeadRun.RunEq RL (PySem.W.view RL.prog [34]) hkL obL 6000 looseL w := by
  intro os
  kernel_rfl
end HD
open PySem PySem.W PySem.Calls PyProof.Rows in
theorem PySem.Challenge.cw_heatdraws_k10_whole_sets_of_many_runners_holds : PySem.Challenge.rw_heatdraws_k10_whole_sets_of_many_runners.Holds := by
  w_on; o_law
  refine HandSHeadRun.head_any (r := OpenLaw.row PySem.Challenge.rw_heatdraws_k10_whole_sets_of_many_runners) (q := view (OpenLaw.row PySem.Challenge.rw_heatdraws_k10_whole_sets_of_many_runners).prog [34]) (H := HD.hkL) (ob := HD.obL) (M := 6000) (loose := HD.looseL) (d := HandSHeadRun.topDef (OpenLaw.row PySem.Challenge.rw_heatdraws_k10_whole_sets_of_many_runners).prog 34) (kwd := []) HD.obL_eq
    (by kernel_rfl) (fun s => by kernel_rfl) HD.runL (by kernel_rfl) (by kernel_rfl) (by kernel_rfl) (by rfl) (by first | assumption | decide +kernel) (by decide +kernel) ⟨rfl, rfl, rfl, rfl, rfl, by decide +kernel⟩ ?hw ?hc
  case hw => w_witness2
  case hc =>
    refine HD.walkX (l := PySem.Challenge.rw_heatdraws_k10_whole_sets_of_many_runners) (n := 63) (k := HD.rInit.length + 1) (x := "script") (CX := fun w => L2.CX (PySem.Challenge.rw_heatdraws_k10_whole_sets_of_many_runners).prog w) rfl (by decide) (by kernel_rfl) ⟨rfl, by decide, by decide⟩ ?F (fun w H s e s' z => HD.noCX z)
    intro w mg fA h Y G hmg0
    have hmg : mg ("law" : PySem.Str) = some (.ref fA) := by
      have e : (HandSHeadRun.topDef (OpenLaw.row PySem.Challenge.rw_heatdraws_k10_whole_sets_of_many_runners).prog 34).name = ("law" : PySem.Str) := by kernel_rfl
      rw [← e]
      exact hmg0
    exact HD.law_F HD.tw HD.okTw HD.mem_ok HD.fa_ok HD.rows_ok rfl rfl rfl HD.pure_k10 w mg fA h Y G hmg
end
